import PyProof.Rows.All
import Wide.All
import OpenK.AllK
import Wide.FinOn
import HandS.ForMost
import HandS.ForExc
import HandS.Lambda
import HandS.EndTab
import HandS.Zip
import HandS.SortOrd
import KE.SortData
import HandS.TupAny
import HandS.TupMul
import HandS.Deep
import HandS.Wide
import HandS.Text
import HandS.More
import KE.DataCmp
import KE.DataMinMax
import KE.KTupSum
import HandS.Style
import HandS.Iter
import HandS.Walk
import KE.GoesNew
import PyProof.FactsAll.list_3
import HandS.WordsExc
import HandS.ExcValue
import HandS.GenList
import PyProof.ConsumeS
import PyProof.TupleOfGen
import PyProof.CollectWalk
import PyProof.TupleOfSeq
import PyProof.FactsAll.bool_3
import KE.KDictDisplayH
import KE.KDictCopyH
import PySem.Challenge.RW_flatstack_k01_points_and_their_sides
set_option Elab.async false
set_option linter.all false
set_option maxRecDepth 100000
/-! DV: Python data as plain Lean data, over the hand layer. -/
namespace DV
open PySem PySem.Spec PyProof.Rows L2

abbrev St := L2.St
/-- deep data; ref: the n-th mutable thing of the store -/
inductive D where
  | non | bl (b : Bool) | int (i : Int) | str (x : Str) | tup (xs : List D) | lst (xs : List D) | frz (xs : List D) | dct (kvs : List (D × D)) | ref (n : Nat)
  deriving Inhabited
inductive O where
  | lst (xs : List D)
inductive Sl where
  | un | v (d : D) | lin (xs : List D)
inductive R (α : Type) where
  | ok (a : α) (st : List O) | exc (c : Nat) (st : List O) | bad
def R.bind {α β : Type} (r : R α) (k : α → List O → R β) : R β := match r with
  | .ok a st => k a st
  | .exc c st => .exc c st
  | .bad => .bad
def R.of {α : Type} (o : Option α) (st : List O) : R α := match o with
  | some a => .ok a st
  | none => .bad
structure Gp where
  T : List (Addr × Str)
  ec : Nat → Value
structure Bs where
  F : Hp
  μ : List Addr
  H : Hp

def keyD : Key → D
  | .inl i => .int i
  | .inr x => .str x
mutual
inductive Rep (K : PySem.W.Frag) (F : Hp) (μ : List Addr) : V → D → Prop
  | non : Rep K F μ .non .non
  | bl (b : Bool) : Rep K F μ (.bl b) (.bl b)
  | int (i : Int) : Rep K F μ (.int i) (.int i)
  | str (x : Str) : Rep K F μ (.str x) (.str x)
  | tup {a : Addr} {vs : List V} {ds : List D} : SqT K F a vs → Reps K F μ vs ds → Rep K F μ (.ref a) (.tup ds)
  | lst {a : Addr} {vs : List V} {ds : List D} : F a = some (.lst vs) → Reps K F μ vs ds → Rep K F μ (.ref a) (.lst ds)
  | frz {a : Addr} {vs : List V} {ds : List D} : SqL K F a vs → Reps K F μ vs ds → Rep K F μ (.ref a) (.frz ds)
  | dK {a : Addr} {kvs : List (Key × V)} {ps : List (D × D)} : Rd F a (.dK kvs) → RepK K F μ kvs ps → Rep K F μ (.ref a) (.dct ps)
  | dT {a : Addr} {kvs : List (List Key × V)} {ps : List (D × D)} : Rd F a (.dT kvs) → RepT K F μ kvs ps → Rep K F μ (.ref a) (.dct ps)
  | ref {a : Addr} {n : Nat} : μ[n]? = some a → Rep K F μ (.ref a) (.ref n)
inductive Reps (K : PySem.W.Frag) (F : Hp) (μ : List Addr) : List V → List D → Prop
  | nil : Reps K F μ [] []
  | cons {v : V} {vs : List V} {d : D} {ds : List D} : Rep K F μ v d → Reps K F μ vs ds → Reps K F μ (v :: vs) (d :: ds)
inductive RepK (K : PySem.W.Frag) (F : Hp) (μ : List Addr) : List (Key × V) → List (D × D) → Prop
  | nil : RepK K F μ [] []
  | cons {k : Key} {v : V} {r : List (Key × V)} {d : D} {ps : List (D × D)} : Rep K F μ v d → RepK K F μ r ps → RepK K F μ ((k, v) :: r) ((keyD k, d) :: ps)
inductive RepT (K : PySem.W.Frag) (F : Hp) (μ : List Addr) : List (List Key × V) → List (D × D) → Prop
  | nil : RepT K F μ [] []
  | cons {k : List Key} {v : V} {r : List (List Key × V)} {d : D} {ps : List (D × D)} : Rep K F μ v d → RepT K F μ r ps → RepT K F μ ((k, v) :: r) ((.tup (k.map keyD), d) :: ps)
end
def RdSub (F F' : Hp) : Prop := ∀ a u, F a = some u → F' a = some u
theorem RdSub.rd {F F' : Hp} (s : RdSub F F') {a : Addr} {u : HO} (h : Rd F a u) : Rd F' a u := h.imp (s _ _) fun ⟨o, e⟩ => ⟨o, s _ _ e⟩
def Pre (μ μ' : List Addr) : Prop := ∃ more, μ' = μ ++ more
theorem RdSub.l {K : PySem.W.Frag} {F F' : Hp} {a : Addr} {xs : List V} (s : RdSub F F') (h : SqL K F a xs) : SqL K F' a xs := h.imp s.rd id
theorem RdSub.t {K : PySem.W.Frag} {F F' : Hp} {a : Addr} {xs : List V} (s : RdSub F F') (h : SqT K F a xs) : SqT K F' a xs := h.imp s.rd id
theorem RdSub.refl (F : Hp) : RdSub F F := fun _ _ h => h
theorem RdSub.trans {F F1 F2 : Hp} (a : RdSub F F1) (b : RdSub F1 F2) : RdSub F F2 := fun x u h => b x u (a x u h)
theorem Pre.refl (μ : List Addr) : Pre μ μ := ⟨[], by simp⟩
theorem Pre.get {μ μ' : List Addr} (p : Pre μ μ') {n : Nat} {a : Addr} (h : μ[n]? = some a) : μ'[n]? = some a := by
  obtain ⟨more, rfl⟩ := p
  rw [List.getElem?_append_left (List.getElem?_eq_some_iff.mp h).1]
  exact h
section
variable {K : PySem.W.Frag} {F F' : Hp} {μ μ' : List Addr}
mutual
theorem Rep.mono (s : RdSub F F') (p : Pre μ μ') : ∀ {v : V} {d : D}, Rep K F μ v d → Rep K F' μ' v d
  | _, _, .non => .non
  | _, _, .bl b => .bl b
  | _, _, .int i => .int i
  | _, _, .str x => .str x
  | _, _, .tup h r => .tup (s.t h) (r.mono s p)
  | _, _, .lst h r => .lst (s _ _ h) (r.mono s p)
  | _, _, .frz h r => .frz (s.l h) (r.mono s p)
  | _, _, .dK h r => .dK (s.rd h) (r.mono s p)
  | _, _, .dT h r => .dT (s.rd h) (r.mono s p)
  | _, _, .ref h => .ref (p.get h)
theorem Reps.mono (s : RdSub F F') (p : Pre μ μ') : ∀ {vs : List V} {ds : List D}, Reps K F μ vs ds → Reps K F' μ' vs ds
  | _, _, .nil => .nil
  | _, _, .cons h r => .cons (h.mono s p) (r.mono s p)
theorem RepK.mono (s : RdSub F F') (p : Pre μ μ') : ∀ {vs : List (Key × V)} {ds : List (D × D)}, RepK K F μ vs ds → RepK K F' μ' vs ds
  | _, _, .nil => .nil
  | _, _, .cons h r => .cons (h.mono s p) (r.mono s p)
theorem RepT.mono (s : RdSub F F') (p : Pre μ μ') : ∀ {vs : List (List Key × V)} {ds : List (D × D)}, RepT K F μ vs ds → RepT K F' μ' vs ds
  | _, _, .nil => .nil
  | _, _, .cons h r => .cons (h.mono s p) (r.mono s p)
end
theorem Reps.length : ∀ {vs : List V} {ds : List D}, Reps K F μ vs ds → vs.length = ds.length
  | _, _, .nil => rfl
  | _, _, .cons _ r => by rw [List.length_cons, List.length_cons, r.length]
theorem Reps.get : ∀ {vs : List V} {ds : List D} {i : Nat} {d : D}, Reps K F μ vs ds → ds[i]? = some d → ∃ v, vs[i]? = some v ∧ Rep K F μ v d
  | _, _, _, _, .nil, e => by simp at e
  | _, _, 0, _, .cons h _, e => by simp at e; subst e; exact ⟨_, rfl, h⟩
  | _, _, i + 1, d, .cons _ r, e => by
    obtain ⟨v, h1, h2⟩ := Reps.get (i := i) (d := d) r (by simpa using e)
    exact ⟨v, by simpa using h1, h2⟩
theorem Reps.getV : ∀ {vs : List V} {ds : List D} {i : Nat} {v : V}, Reps K F μ vs ds → vs[i]? = some v → ∃ d, ds[i]? = some d ∧ Rep K F μ v d
  | _, _, _, _, .nil, e => by simp at e
  | _, _, 0, _, .cons h _, e => by simp at e; subst e; exact ⟨_, rfl, h⟩
  | _, _, i + 1, d, .cons _ r, e => by
    obtain ⟨v, h1, h2⟩ := Reps.getV (i := i) (v := d) r (by simpa using e)
    exact ⟨v, by simpa using h1, h2⟩
theorem Reps.append : ∀ {vs ws : List V} {ds es : List D}, Reps K F μ vs ds → Reps K F μ ws es → Reps K F μ (vs ++ ws) (ds ++ es)
  | _, _, _, _, .nil, r => r
  | _, _, _, _, .cons h r, q => .cons h (r.append q)
theorem Reps.set {v : V} {d : D} (hv : Rep K F μ v d) : ∀ {vs : List V} {ds : List D} (i : Nat), Reps K F μ vs ds → Reps K F μ (vs.set i v) (ds.set i d)
  | _, _, _, .nil => .nil
  | _, _, 0, .cons _ r => .cons hv r
  | _, _, i + 1, .cons h r => .cons h (Reps.set hv i r)
theorem Reps.take : ∀ {vs : List V} {ds : List D} (n : Nat), Reps K F μ vs ds → Reps K F μ (vs.take n) (ds.take n)
  | _, _, 0, _ => .nil
  | _, _, _ + 1, .nil => .nil
  | _, _, n + 1, .cons h r => .cons h (r.take n)
theorem Reps.drop : ∀ {vs : List V} {ds : List D} (n : Nat), Reps K F μ vs ds → Reps K F μ (vs.drop n) (ds.drop n)
  | _, _, 0, r => r
  | _, _, _ + 1, .nil => .nil
  | _, _, n + 1, .cons _ r => r.drop n
theorem Reps.one {v : V} {d : D} (h : Rep K F μ v d) : Reps K F μ [v] [d] := .cons h .nil
end

/-- a thing that is no table lies at a -/
def Live (H : Hp) (a : Addr) : Prop := ∃ o, H a = some o ∧ ∀ ps, o ≠ .tbl ps
theorem nl {H : Hp} {a : Addr} (h : H a = none) : ¬ Live H a := fun ⟨o, e, _⟩ => by rw [h] at e; cases e
theorem live_lst {H : Hp} {a : Addr} {xs : List V} (h : H a = some (.lst xs)) : Live H a := ⟨_, h, fun ps z => by cases z⟩
/-- from one state to a later one -/
structure Go (F : Hp) (μ : List Addr) (H : Hp) (F' : Hp) (μ' : List Addr) (H' : Hp) : Prop where
  sub : RdSub F F'
  new : ∀ a, F a = none → Live H a → F' a = none
  mem : ∃ more, μ' = μ ++ more ∧ ∀ a ∈ more, ¬ Live H a
  keep : ∀ a o, H a = some o → a ∉ μ → (∀ ps, o ≠ .tbl ps) → H' a = some o
  live : ∀ a, Live H a → Live H' a
section
variable {F F1 F2 : Hp} {μ μ1 μ2 : List Addr} {H H1 H2 : Hp}
theorem Go.pre (g : Go F μ H F1 μ1 H1) : Pre μ μ1 := let ⟨m, e, _⟩ := g.mem; ⟨m, e⟩
theorem Go.refl : Go F μ H F μ H := ⟨RdSub.refl F, fun _ h _ => h, ⟨[], by simp, by simp⟩, fun _ _ h _ _ => h, fun _ h => h⟩
theorem Go.notin (g : Go F μ H F1 μ1 H1) {a : Addr} (h : a ∉ μ) (hl : Live H a) : a ∉ μ1 := by
  obtain ⟨m, rfl, hm⟩ := g.mem
  intro z
  rcases List.mem_append.mp z with z | z
  · exact h z
  · exact hm a z hl
theorem Go.trans (x : Go F μ H F1 μ1 H1) (y : Go F1 μ1 H1 F2 μ2 H2) : Go F μ H F2 μ2 H2 where
  sub := x.sub.trans y.sub
  new := fun a h1 h2 => y.new a (x.new a h1 h2) (x.live a h2)
  mem := by
    obtain ⟨m1, rfl, h1⟩ := x.mem
    obtain ⟨m2, rfl, h2⟩ := y.mem
    refine ⟨m1 ++ m2, by rw [List.append_assoc], fun a ha => ?_⟩
    rcases List.mem_append.mp ha with ha | ha
    · exact h1 a ha
    · exact fun z => h2 a ha (x.live a z)
  keep := fun a o h1 h2 h3 => y.keep a o (x.keep a o h1 h2 h3) (x.notin h2 ⟨o, h1, h3⟩) h3
  live := fun a h => y.live a (x.live a h)
theorem Go.fresh (g : Go F μ H F1 μ1 H1) {a : Addr} (h : ¬ Live H1 a) : ¬ Live H a := fun z => h (g.live a z)
end

def ObjR (K : PySem.W.Frag) (F : Hp) (μ : List Addr) (H : Hp) (a : Addr) : O → Prop
  | .lst ds => ∃ vs, H a = some (.lst vs) ∧ Reps K F μ vs ds
/-- a state that stands -/
structure Ok (K : PySem.W.Frag) (g : Gp) (F : Hp) (μ : List Addr) (H : Hp) (st : List O) : Prop where
  sub : RdSub F H
  nt : ∀ a ps, F a ≠ some (.tbl ps)
  len : μ.length = st.length
  nd : μ.Nodup
  dis : ∀ a ∈ μ, F a = none
  obj : ∀ (n : Nat) a o, μ[n]? = some a → st[n]? = some o → ObjR K F μ H a o
  tab : LamX.Tabs g.T H
section
variable {K : PySem.W.Frag} {g : Gp} {F F' : Hp} {μ μ' : List Addr} {H H' : Hp} {st : List O}
theorem ObjR.there {a : Addr} {o : O} (h : ObjR K F μ H a o) : H a ≠ none := by
  cases o with
  | lst ds => obtain ⟨vs, e, _⟩ := h; rw [e]; simp
theorem Ok.there (k : Ok K g F μ H st) {a : Addr} (h : a ∈ μ) : H a ≠ none := by
  obtain ⟨n, hn, e⟩ := List.getElem_of_mem h
  have h2 : n < st.length := by rw [← k.len]; exact hn
  exact (k.obj n a st[n] (by rw [← e]; exact List.getElem?_eq_getElem hn) (List.getElem?_eq_getElem h2)).there
theorem Ok.live (k : Ok K g F μ H st) {a : Addr} (h : a ∈ μ) : Live H a := by
  obtain ⟨n, hn, e⟩ := List.getElem_of_mem h
  have h2 : n < st.length := by rw [← k.len]; exact hn
  have z := k.obj n a st[n] (by rw [← e]; exact List.getElem?_eq_getElem hn) (List.getElem?_eq_getElem h2)
  cases q : st[n] with
  | lst ds => rw [q] at z; obtain ⟨vs, e, _⟩ := z; exact live_lst e
theorem rd_live {a : Addr} {u : HO} (h : Rd H a u) : H a ≠ none := by
  rcases h with h | ⟨o, h⟩ <;> rw [h] <;> simp
theorem rd_of {a : Addr} {u : HO} (h : F a = some u) : ∃ u, Rd F a u := ⟨u, .inl h⟩
theorem Ok.fresh (k : Ok K g F μ H st) {a : Addr} (h : H a = none) : F a = none := by
  cases e : F a with
  | none => rfl
  | some u => rw [k.sub a u e] at h; cases h
/-- a new thing that never changes -/
theorem Ok.put (k : Ok K g F μ H st) {p : Addr} {o : HO} (hp : H p = none) (ht : ∀ ps, o ≠ .tbl ps) : Go F μ H (upd F p o) μ (upd H p o) ∧ Ok K g (upd F p o) μ (upd H p o) st := by
  have fp := k.fresh hp
  have rs : RdSub F (upd F p o) := fun a u h => by
    rw [upd_ne (ne_of_none h fp)]
    exact h
  have gg : Go F μ H (upd F p o) μ (upd H p o) :=
    ⟨rs, fun a h1 h2 => by rw [upd_ne (fun z => nl hp (by rw [← z]; exact h2))]; exact h1, ⟨[], by simp, by simp⟩,
      fun a q h _ _ => by rw [upd_ne (ne_of_none h hp)]; exact h, fun a ⟨u, e, n⟩ => ⟨u, by rw [upd_ne (ne_of_none e hp)]; exact e, n⟩⟩
  refine ⟨gg, ⟨fun a u h => ?_, fun a ps => ?_, k.len, k.nd, fun a h => gg.new a (k.dis a h) (k.live h), fun n a ob h1 h2 => ?_, k.tab.ext fun b q h => by rw [upd_ne (ne_of_none h hp)]; exact h⟩⟩
  · by_cases e : a = p
    · subst e
      rw [upd_same] at h ⊢
      exact h
    · rw [upd_ne e] at h ⊢
      exact k.sub a u h
  · by_cases e : a = p
    · subst e
      rw [upd_same]
      intro z
      cases z
      exact ht ps rfl
    · rw [upd_ne e]
      exact k.nt a ps
  · have z := k.obj n a ob h1 h2
    have ne : a ≠ p := fun e => z.there (by rw [e]; exact hp)
    cases ob with
    | lst ds =>
      obtain ⟨vs, e, r⟩ := z
      exact ⟨vs, by rw [upd_ne ne]; exact e, r.mono rs (Pre.refl _)⟩
end

/-! ### slots -/
structure Slots (K : PySem.W.Frag) (F : Hp) (μ : List Addr) (H : Hp) (env : List Sl) (σ : St) : Prop where
  len : env.length = σ.length
  val : ∀ (i : Nat) d, env[i]? = some (.v d) → ∃ v, σ[i]? = some (some v) ∧ Rep K F μ v d
  lin : ∀ (i : Nat) ds, env[i]? = some (.lin ds) → ∃ a vs, σ[i]? = some (some (.ref a)) ∧ H a = some (.lst vs) ∧ Reps K F μ vs ds ∧ F a = none ∧ a ∉ μ
  dis : ∀ (i j : Nat) ds es a, i ≠ j → env[i]? = some (.lin ds) → env[j]? = some (.lin es) → σ[i]? = some (some (.ref a)) → σ[j]? ≠ some (some (.ref a))
section
variable {K : PySem.W.Frag} {g : Gp} {F F' : Hp} {μ μ' : List Addr} {H H' : Hp} {st : List O} {env : List Sl} {σ : St}
theorem Slots.go (s : Slots K F μ H env σ) (x : Go F μ H F' μ' H') : Slots K F' μ' H' env σ where
  len := s.len
  val := fun i d h => let ⟨v, h1, h2⟩ := s.val i d h; ⟨v, h1, h2.mono x.sub x.pre⟩
  lin := fun i ds h => by
    obtain ⟨a, vs, h1, h2, h3, h4, h5⟩ := s.lin i ds h
    exact ⟨a, vs, h1, x.keep a _ h2 h5 (fun ps z => by cases z), h3.mono x.sub x.pre, x.new a h4 (live_lst h2), x.notin h5 (live_lst h2)⟩
  dis := s.dis
theorem get_set {α : Type} {l : List α} {i j : Nat} {x y : α} (h : (l.set i x)[j]? = some y) : (i = j ∧ x = y) ∨ (i ≠ j ∧ l[j]? = some y) := by
  by_cases e : i = j
  · subst e
    rw [List.getElem?_set] at h
    simp only [if_true] at h
    split at h
    · cases h; exact .inl ⟨rfl, rfl⟩
    · cases h
  · rw [List.getElem?_set_ne e] at h
    exact .inr ⟨e, h⟩
theorem lt_set {α : Type} {l : List α} {i : Nat} {x y : α} (h : (l.set i x)[i]? = some y) : i < l.length := by
  have := (List.getElem?_eq_some_iff.mp h).1
  rwa [List.length_set] at this
/-- a value is stored -/
theorem Slots.set (s : Slots K F μ H env σ) {i : Nat} {v : V} {d : D} (r : Rep K F μ v d) : Slots K F μ H (env.set i (.v d)) (σ.set i (some v)) where
  len := by rw [List.length_set, List.length_set, s.len]
  val := fun j e h => by
    rcases get_set h with ⟨e1, e2⟩ | ⟨ne, h⟩
    · subst e1
      cases e2
      exact ⟨v, List.getElem?_set_self (by rw [← s.len]; exact lt_set h), r⟩
    · rw [List.getElem?_set_ne ne]
      exact s.val j e h
  lin := fun j ds h => by
    rcases get_set h with ⟨e1, e2⟩ | ⟨ne, h⟩
    · cases e2
    · rw [List.getElem?_set_ne ne]
      exact s.lin j ds h
  dis := fun j k ds es a jk h1 h2 h3 => by
    rcases get_set h1 with ⟨e1, e2⟩ | ⟨ne, h1⟩
    · cases e2
    · rcases get_set h2 with ⟨e1, e2⟩ | ⟨ne2, h2⟩
      · cases e2
      · rw [List.getElem?_set_ne ne] at h3
        rw [List.getElem?_set_ne ne2]
        exact s.dis j k ds es a jk h1 h2 h3
theorem Slots.weak (s : Slots K F μ H env σ) {env' : List Sl} (hl : env'.length = env.length) (h : ∀ (i : Nat) x, env'[i]? = some x → x = .un ∨ env[i]? = some x) : Slots K F μ H env' σ where
  len := hl.trans s.len
  val := fun i d e => (h i _ e).elim (fun z => by cases z) fun z => s.val i d z
  lin := fun i d e => (h i _ e).elim (fun z => by cases z) fun z => s.lin i d z
  dis := fun i j ds es a ij h1 h2 => (h i _ h1).elim (fun z => by cases z) fun z1 => (h j _ h2).elim (fun z => by cases z) fun z2 => s.dis i j ds es a ij z1 z2
end

/-- slots and store, since the entry B -/
structure Rl (K : PySem.W.Frag) (g : Gp) (B : Bs) (F : Hp) (μ : List Addr) (H : Hp) (env : List Sl) (st : List O) (σ : St) : Prop where
  ok : Ok K g F μ H st
  sl : Slots K F μ H env σ
  go : Go B.F B.μ B.H F μ H
  lb : ∀ (i : Nat) ds a, env[i]? = some (.lin ds) → σ[i]? = some (some (.ref a)) → ¬ Live B.H a
theorem Rl.step {K : PySem.W.Frag} {g : Gp} {B : Bs} {F F' : Hp} {μ μ' : List Addr} {H H' : Hp} {env : List Sl} {st st' : List O} {σ : St} (r : Rl K g B F μ H env st σ) (x : Go F μ H F' μ' H') (k : Ok K g F' μ' H' st') : Rl K g B F' μ' H' env st' σ :=
  ⟨k, r.sl.go x, r.go.trans x, r.lb⟩

/-! ### what follows -/
def Aft (K : PySem.W.Frag) (g : Gp) (F : Hp) (μ : List Addr) (H : Hp) (Z : Nat → List O → Prop) {α : Type} (r : R α) (P : α → List O → Hp → List Addr → Hp → Prop) : Prop := match r with
  | .ok a st => ∀ F' μ' H', Go F μ H F' μ' H' → Ok K g F' μ' H' st → P a st F' μ' H'
  | .exc c st => Z c st
  | .bad => False
abbrev ZZ := Nat → List O → Prop
abbrev Z0 : ZZ := fun _ _ => False
section
variable {K : PySem.W.Frag} {g : Gp} {F F' : Hp} {μ μ' : List Addr} {H H' : Hp} {st : List O} {Z : ZZ} {α β : Type} {r : R α} {k : α → List O → R β} {P P' : α → List O → Hp → List Addr → Hp → Prop} {P2 : β → List O → Hp → List Addr → Hp → Prop}
theorem Aft.mono (h : Aft K g F μ H Z r P) (q : ∀ a s F' μ' H', r = .ok a s → Go F μ H F' μ' H' → Ok K g F' μ' H' s → P a s F' μ' H' → P' a s F' μ' H') : Aft K g F μ H Z r P' := by
  cases r with
  | ok a s => exact fun F' μ' H' x y => q a s F' μ' H' rfl x y (h F' μ' H' x y)
  | exc c s => exact h
  | bad => exact h
theorem Aft.bind (h : Aft K g F μ H Z (r.bind k) P2) : Aft K g F μ H Z r fun a s F' μ' H' => Aft K g F' μ' H' Z (k a s) P2 := by
  cases r with
  | ok a s =>
    intro F' μ' H' x _
    have h : Aft K g F μ H Z (k a s) P2 := h
    show Aft K g F' μ' H' Z (k a s) P2
    cases e : k a s with
    | ok b t => rw [e] at h; exact fun F2 μ2 H2 y z => h F2 μ2 H2 (x.trans y) z
    | exc c t => rw [e] at h; exact h
    | bad => rw [e] at h; exact h
  | exc c s => exact h
  | bad => exact h
/-- the same a step later -/
theorem Aft.shift (h : Aft K g F μ H Z r P) (x : Go F μ H F' μ' H') : Aft K g F' μ' H' Z r P := by
  cases r with
  | ok a s => exact fun F2 μ2 H2 y z => h F2 μ2 H2 (x.trans y) z
  | exc c s => exact h
  | bad => exact h
/-- where it stands now -/
theorem Aft.here {a : α} (h : Aft K g F μ H Z (.ok a st) P) (k : Ok K g F μ H st) : P a st F μ H := h F μ H Go.refl k
end

/-! ### judgements -/
abbrev EF := List Sl → List O → R D
abbrev TF := List Sl → List O → R Bool
abbrev AF := List Sl → List O → R (List D)
def tD (K : PySem.W.Frag) (g : Gp) (B : Bs) (Z : ZZ) (f : EF) : TE := fun σ H Q => ∃ env F μ st, Rl K g B F μ H env st σ ∧ Aft K g F μ H Z (f env st) fun d _ F' μ' H' => ∀ v, Rep K F' μ' v d → Q v H'
def tT (K : PySem.W.Frag) (g : Gp) (B : Bs) (Z : ZZ) (f : TF) : TT := fun σ H Q => ∃ env F μ st, Rl K g B F μ H env st σ ∧ Aft K g F μ H Z (f env st) fun b _ _ _ H' => Q b H'
def tA (K : PySem.W.Frag) (g : Gp) (B : Bs) (Z : ZZ) (f : AF) : TA := fun σ H Q => ∃ env F μ st, Rl K g B F μ H env st σ ∧ Aft K g F μ H Z (f env st) fun ds _ F' μ' H' => ∀ vs, Reps K F' μ' vs ds → Q vs H'
def DE (g : Gp) (X : Cx) (B : Bs) (Z : ZZ) (e : Expr) (f : EF) : Prop := PE X e (tD X.K g B Z f)
def DT (g : Gp) (X : Cx) (B : Bs) (Z : ZZ) (e : Expr) (f : TF) : Prop := PT X e (tT X.K g B Z f)
def DW (g : Gp) (X : Cx) (B : Bs) (Z : ZZ) (e : Expr) (f : TF) : Prop := PW X e (tT X.K g B Z f)
def DA (g : Gp) (X : Cx) (B : Bs) (Z : ZZ) (es : List Expr) (f : AF) : Prop := PA X es (tA X.K g B Z f)
theorem PE.imp {X : Cx} {e : Expr} {t t' : TE} (h : PE X e t) (q : ∀ σ H Q, t' σ H Q → t σ H Q) : PE X e t' := ⟨fun pins s σ H Q I z => h.run pins s σ H Q I (q σ H Q z)⟩
theorem PT.imp {X : Cx} {e : Expr} {t t' : TT} (h : PT X e t) (q : ∀ σ H Q, t' σ H Q → t σ H Q) : PT X e t' := ⟨fun pins s σ H Q I z => h.run pins s σ H Q I (q σ H Q z)⟩
theorem PW.imp {X : Cx} {e : Expr} {t t' : TT} (h : PW X e t) (q : ∀ σ H Q, t' σ H Q → t σ H Q) : PW X e t' := ⟨fun wh pins s σ H Q I z => h.run wh pins s σ H Q I (q σ H Q z)⟩
theorem PA.imp {X : Cx} {e : List Expr} {t t' : TA} (h : PA X e t) (q : ∀ σ H Q, t' σ H Q → t σ H Q) : PA X e t' := ⟨fun pos pins s σ H Q I z => h.run pos pins s σ H Q I (q σ H Q z)⟩

section
variable {g : Gp} {X : Cx} {B : Bs} {Z : ZZ} {e a b c : Expr} {es : List Expr} {f fa fb fc : EF} {fr : AF} {ft fu : TF} {pos : Pos}
/-- from f's end to what follows -/
theorem tD_of {K : PySem.W.Frag} {σ : St} {H F : Hp} {μ : List Addr} {env : List Sl} {st : List O} {Q : VK} (r : Rl K g B F μ H env st σ) {P : D → List O → Hp → List Addr → Hp → Prop} (h : Aft K g F μ H Z (f env st) P)
    (q : ∀ d s v F' μ' H', Go F μ H F' μ' H' → Rl K g B F' μ' H' env s σ → P d s F' μ' H' → Rep K F' μ' v d → Q v H') : tD K g B Z f σ H Q :=
  ⟨env, F, μ, st, r, h.mono fun d s F' μ' H' _ x k p v rv => q d s v F' μ' H' x (r.step x k) p rv⟩
theorem tT_of {K : PySem.W.Frag} {σ : St} {H F : Hp} {μ : List Addr} {env : List Sl} {st : List O} {Q : Bool → Hp → Prop} (r : Rl K g B F μ H env st σ) {P : Bool → List O → Hp → List Addr → Hp → Prop} (h : Aft K g F μ H Z (ft env st) P)
    (q : ∀ d s F' μ' H', Go F μ H F' μ' H' → Rl K g B F' μ' H' env s σ → P d s F' μ' H' → Q d H') : tT K g B Z ft σ H Q :=
  ⟨env, F, μ, st, r, h.mono fun d s F' μ' H' _ x k p => q d s F' μ' H' x (r.step x k) p⟩
theorem tA_of {K : PySem.W.Frag} {σ : St} {H F : Hp} {μ : List Addr} {env : List Sl} {st : List O} {Q : List V → Hp → Prop} (r : Rl K g B F μ H env st σ) {P : List D → List O → Hp → List Addr → Hp → Prop} (h : Aft K g F μ H Z (fr env st) P)
    (q : ∀ d s v F' μ' H', Go F μ H F' μ' H' → Rl K g B F' μ' H' env s σ → P d s F' μ' H' → Reps K F' μ' v d → Q v H') : tA K g B Z fr σ H Q :=
  ⟨env, F, μ, st, r, h.mono fun d s F' μ' H' _ x k p v rv => q d s v F' μ' H' x (r.step x k) p rv⟩

/-! ### names, constants -/
def eVar (i : Nat) : EF := fun env st => match env[i]? with
  | some (.v d) => .ok d st
  | _ => .bad
def eC (d : D) : EF := fun _ st => .ok d st
theorem de_var {i : Nat} {x : Str} (hN : X.N[i]? = some x) (hv : Vis X.env.scope x) (hd : (x == ("__debug__" : Str)) = false := by decide) (hcd : (x == ("__classdict__" : Str)) = false := by decide) : DE g X B Z (.Name x pos) (eVar i) := by
  refine PE.imp (pe_var hN hv hd hcd) fun σ H Q h => ?_
  obtain ⟨env, F, μ, st, r, h⟩ := h
  unfold eVar at h
  split at h
  · rename_i d e
    obtain ⟨v, h1, h2⟩ := r.sl.val i d e
    exact ⟨v, h1, h.here r.ok v h2⟩
  · exact h.elim
theorem dc_of {K : PySem.W.Frag} {v : V} {d : D} (hr : ∀ F μ, Rep K F μ v d) : ∀ σ H Q, tD K g B Z (eC d) σ H Q → tC v σ H Q := fun σ H Q h => by
  obtain ⟨env, F, μ, st, r, h⟩ := h
  exact (Aft.here (a := d) h r.ok) v (hr F μ)
theorem de_int {i j} : DE g X B Z (.Constant (.int i) j pos) (eC (.int i)) := PE.imp pe_int (dc_of fun _ _ => .int i)
theorem de_bl {b j} : DE g X B Z (.Constant (.bool b) j pos) (eC (.bl b)) := PE.imp pe_bl (dc_of fun _ _ => .bl b)
theorem de_non {j} : DE g X B Z (.Constant .none j pos) (eC .non) := PE.imp pe_non (dc_of fun _ _ => .non)
theorem de_str {x j} : DE g X B Z (.Constant (.str x) j pos) (eC (.str x)) := PE.imp pe_str (dc_of fun _ _ => .str x)
/-- a constant of the module -/
theorem de_glob {x : Str} {v : V} {u : Value} {d : D} (hg : Gl X x) (hm : X.mg x = some u) (r : RelV v u) (hr : ∀ F μ, Rep X.K F μ v d) (hd : (x == ("__debug__" : Str)) = false := by decide) : DE g X B Z (.Name x pos) (eC d) :=
  PE.imp (pe_glob hg hm r hd) (dc_of hr)

/-! ### arguments, displays -/
def aNil : AF := fun _ st => .ok [] st
def aCons (f : EF) (r : AF) : AF := fun env st => (f env st).bind fun d st1 => (r env st1).bind fun ds st2 => .ok (d :: ds) st2
theorem da_nil : DA g X B Z [] aNil := PA.imp pa_nil fun σ H Q h => by
  obtain ⟨env, F, μ, st, r, h⟩ := h
  exact (Aft.here (a := []) h r.ok) [] .nil
theorem da_cons (ha : DE g X B Z e f) (hr : DA g X B Z es fr) (hs : starEach (e :: es) X.env = (false, eval e X.env) :: starEach es X.env := by rfl) : DA g X B Z (e :: es) (aCons f fr) :=
  PA.imp (pa_cons ha hr hs) fun σ H Q h => by
    obtain ⟨env, F, μ, st, r, h⟩ := h
    refine tD_of r h.bind fun d s v F1 μ1 H1 x1 r1 h1 rv => ?_
    refine tA_of r1 h1.bind fun ds s2 vs F2 μ2 H2 x2 r2 h2 rs => ?_
    exact (Aft.here h2 r2.ok) (v :: vs) (.cons (rv.mono x2.sub x2.pre) rs)
def eTup (r : AF) : EF := fun env st => (r env st).bind fun ds st => if ds.length ≤ 100000 then .ok (.tup ds) st else .bad
def eLst (r : AF) : EF := fun env st => (r env st).bind fun ds st => if ds.length ≤ 100000 then .ok (.lst ds) st else .bad
theorem small_sz {n : Nat} (h : n ≤ 100000) : n ≤ sizeLine := Nat.le_trans h (by decide)
theorem de_tup {k} (h : DA g X B Z es fr) : DE g X B Z (.Tuple es k pos) (eTup fr) := PE.imp (pe_tup h) fun σ H Q h => by
  obtain ⟨env, F, μ, st, r, h⟩ := h
  refine tA_of r h.bind fun ds s vs F1 μ1 H1 x1 r1 h1 rs => ?_
  split at h1
  · rename_i hl
    refine ⟨by rw [rs.length]; exact small_sz hl, fun p hp => ?_⟩
    obtain ⟨x2, k2⟩ := r1.ok.put (o := .tup vs) hp (fun ps z => by cases z)
    exact h1 _ _ _ x2 k2 _ (.tup (.of upd_same) (rs.mono x2.sub x2.pre))
  · exact h1.elim
theorem de_lst (h : DA g X B Z es fr) : DE g X B Z (.List es pos) (eLst fr) := PE.imp (pe_lst h) fun σ H Q h => by
  obtain ⟨env, F, μ, st, r, h⟩ := h
  refine tA_of r h.bind fun ds s vs F1 μ1 H1 x1 r1 h1 rs => ?_
  split at h1
  · rename_i hl
    refine ⟨by rw [rs.length]; exact small_sz hl, fun p hp => ?_⟩
    obtain ⟨x2, k2⟩ := r1.ok.put (o := .lst vs) hp (fun ps z => by cases z)
    exact h1 _ _ _ x2 k2 _ (.lst upd_same (rs.mono x2.sub x2.pre))
  · exact h1.elim

/-! ### operations by values -/
/-- h on data; the store is read -/
abbrev F1 := List O → D → Option D
abbrev F2 := List O → D → D → Option D
abbrev FN := List O → List D → Option D
/-- the value that stands for d, at the present state or with new things that never change -/
def Gives (K : PySem.W.Frag) (g : Gp) (F : Hp) (μ : List Addr) (H : Hp) (st : List O) (d : D) (Q : VK) : Prop := ∀ F' H' v, Go F μ H F' μ H' → Ok K g F' μ H' st → Rep K F' μ v d → Q v H'
def r2 (K : PySem.W.Frag) (g : Gp) (h : F2) : R2 := fun x y H Q => ∃ F μ st dx dy d, Ok K g F μ H st ∧ Rep K F μ x dx ∧ Rep K F μ y dy ∧ h st dx dy = some d ∧ Gives K g F μ H st d Q
def r1 (K : PySem.W.Frag) (g : Gp) (h : F1) : V → Hp → VK → Prop := fun x H Q => ∃ F μ st dx d, Ok K g F μ H st ∧ Rep K F μ x dx ∧ h st dx = some d ∧ Gives K g F μ H st d Q
def rN (K : PySem.W.Frag) (g : Gp) (h : FN) : List V → Hp → VK → Prop := fun xs H Q => ∃ F μ st ds d, Ok K g F μ H st ∧ Reps K F μ xs ds ∧ h st ds = some d ∧ Gives K g F μ H st d Q
def eOp (h : F2) (fa fb : EF) : EF := fun env st => (fa env st).bind fun x st1 => (fb env st1).bind fun y st2 => .of (h st2 x y) st2
def eUn (h : F1) (fa : EF) : EF := fun env st => (fa env st).bind fun x st1 => .of (h st1 x) st1
def eN (h : FN) (fr : AF) : EF := fun env st => (fr env st).bind fun xs st1 => .of (h st1 xs) st1
theorem aft_of {K : PySem.W.Frag} {F : Hp} {μ : List Addr} {H : Hp} {st : List O} {o : Option D} {P : D → List O → Hp → List Addr → Hp → Prop} (h : Aft K g F μ H Z (R.of o st) P) : ∃ d, o = some d ∧ Aft K g F μ H Z (.ok d st) P := by
  cases o with
  | none => exact h.elim
  | some d => exact ⟨d, rfl, h⟩
theorem op_of {K : PySem.W.Frag} {h : F2} : ∀ σ H Q, tD K g B Z (eOp h fa fb) σ H Q → tOp (r2 K g h) (tD K g B Z fa) (tD K g B Z fb) σ H Q := fun σ H Q z => by
  obtain ⟨env, F, μ, st, r, z⟩ := z
  refine tD_of r z.bind fun d s v F1 μ1 H1 x1 r1 h1 rv => ?_
  refine tD_of r1 h1.bind fun d2 s2 w F2 μ2 H2 x2 r2 h2 rw2 => ?_
  obtain ⟨y, e, h2⟩ := aft_of h2
  exact ⟨F2, μ2, s2, d, d2, y, r2.ok, rv.mono x2.sub x2.pre, rw2, e, fun F' H' v' x k rr => h2 F' μ2 H' x k v' rr⟩
theorem de_op {op : Operator} {h : F2} (ho : OpR X (binaryOp op) (r2 X.K g h)) (ha : DE g X B Z a fa) (hb : DE g X B Z b fb) : DE g X B Z (.BinOp a op b pos) (eOp h fa fb) := PE.imp (pe_op ho ha hb) op_of
theorem de_cmp {op : CmpOp} {h : F2} (ho : OpR X (compareOp op) (r2 X.K g h)) (ha : DE g X B Z a fa) (hb : DE g X B Z b fb) (hm : behindInMarks op b = false) : DE g X B Z (.Compare a [op] [b] pos) (eOp h fa fb) := PE.imp (pe_cmpR ho ha hb hm) op_of
theorem de_un {op : UnaryOp} {h : F1} (ho : UnR X (unaryOp op) (r1 X.K g h)) (ha : DE g X B Z a fa) : DE g X B Z (.UnaryOp op a pos) (eUn h fa) := PE.imp (pe_un ho ha) fun σ H Q z => by
  obtain ⟨env, F, μ, st, r, z⟩ := z
  refine tD_of r z.bind fun d s v F1 μ1 H1 x1 r1 h1 rv => ?_
  obtain ⟨y, e, h1⟩ := aft_of h1
  exact ⟨F1, μ1, s, d, y, r1.ok, rv, e, fun F' H' v' x k rr => h1 F' μ1 H' x k v' rr⟩
theorem n_of {K : PySem.W.Frag} {h : FN} : ∀ σ H Q, tD K g B Z (eN h fr) σ H Q → tCB (rN K g h) (tA K g B Z fr) σ H Q := fun σ H Q z => by
  obtain ⟨env, F, μ, st, r, z⟩ := z
  refine tA_of r z.bind fun d s v F1 μ1 H1 x1 r1 h1 rv => ?_
  obtain ⟨y, e, h1⟩ := aft_of h1
  exact ⟨F1, μ1, s, d, y, r1.ok, rv, e, fun F' H' v' x k rr => h1 F' μ1 H' x k v' rr⟩
end
end DV

set_option Elab.async false
set_option linter.all false
set_option maxRecDepth 100000
namespace DV
open PySem PySem.Spec PyProof.Rows L2
open PySem.W (alike alikeAll dataLt lt_data gt_data le_data ge_data)

/-! ### data compared -/
mutual
def D.py : D → PyData
  | .non => .none
  | .bl b => .bool b
  | .int i => .int i
  | .str x => .str x
  | .tup xs => .tuple (D.pys xs)
  | .lst xs => .list (D.pys xs)
  | .frz _ => .dict []
  | .dct _ => .dict []
  | .ref _ => .dict []
def D.pys : List D → List PyData
  | [] => []
  | d :: r => d.py :: D.pys r
end
mutual
def D.eqb : D → D → Bool
  | .non, .non => true
  | .bl a, .bl b => a == b
  | .bl a, .int j => (if a then 1 else 0) == j
  | .int i, .bl b => i == (if b then 1 else 0)
  | .int i, .int j => i == j
  | .str x, .str y => x == y
  | .lst xs, .lst ys => D.eqbs xs ys
  | .tup xs, .tup ys => D.eqbs xs ys
  | _, _ => false
def D.eqbs : List D → List D → Bool
  | [], [] => true
  | x :: xs, y :: ys => D.eqb x y && D.eqbs xs ys
  | _, _ => false
end
mutual
theorem D.eqb_py : ∀ x y : D, PyData.eqv x.py y.py = D.eqb x y
  | .lst xs, y => by
    cases y <;> simp only [D.py, PyData.eqv, D.eqb]
    exact D.eqbs_py xs _
  | .tup xs, y => by
    cases y <;> simp only [D.py, PyData.eqv, D.eqb]
    exact D.eqbs_py xs _
  | .non, y => by cases y <;> simp only [D.py, PyData.eqv, D.eqb]
  | .bl _, y => by cases y <;> simp only [D.py, PyData.eqv, D.eqb]
  | .int _, y => by cases y <;> simp only [D.py, PyData.eqv, D.eqb]
  | .str _, y => by cases y <;> simp only [D.py, PyData.eqv, D.eqb]
  | .frz _, y => by cases y <;> simp only [D.py, PyData.eqv, D.eqb]
  | .dct _, y => by cases y <;> simp only [D.py, PyData.eqv, D.eqb]
  | .ref _, y => by cases y <;> simp only [D.py, PyData.eqv, D.eqb]
theorem D.eqbs_py : ∀ xs ys : List D, PyData.eqvAll (D.pys xs) (D.pys ys) = D.eqbs xs ys
  | [], [] => by simp only [D.pys, PyData.eqvAll, D.eqbs]
  | [], _ :: _ => by simp only [D.pys, PyData.eqvAll, D.eqbs]
  | _ :: _, [] => by simp only [D.pys, PyData.eqvAll, D.eqbs]
  | x :: xs, y :: ys => by simp only [D.pys, PyData.eqvAll, D.eqbs, D.eqb_py x y, D.eqbs_py xs ys]
end
/- no dict, nothing of the store within, at most so deep -/
mutual
def D.fit : Nat → D → Bool
  | _, .non => true
  | _, .bl _ => true
  | _, .int _ => true
  | _, .str x => x.cps.all (· < 0x110000)
  | 0, .tup _ => false
  | 0, .lst _ => false
  | n + 1, .tup xs => D.fits n xs
  | n + 1, .lst xs => D.fits n xs
  | _, _ => false
def D.fits : Nat → List D → Bool
  | _, [] => true
  | n, d :: r => D.fit n d && D.fits n r
end

mutual
theorem D.fit_py : ∀ (n : Nat) (d : D), D.fit n d = true → d.py.canLay0 = true ∧ d.py.depth ≤ n
  | n, .non, _ => ⟨rfl, Nat.zero_le _⟩
  | n, .bl _, _ => ⟨rfl, Nat.zero_le _⟩
  | n, .int _, _ => ⟨rfl, Nat.zero_le _⟩
  | n, .str x, h => by
    cases n <;> exact ⟨h, Nat.zero_le _⟩
  | 0, .tup _, h => by simp [D.fit] at h
  | 0, .lst _, h => by simp [D.fit] at h
  | n + 1, .tup xs, h => by
    have q := D.fits_py n xs (by simpa only [D.fit] using h)
    exact ⟨q.1, by simp only [D.py, PyData.depth]; omega⟩
  | n + 1, .lst xs, h => by
    have q := D.fits_py n xs (by simpa only [D.fit] using h)
    exact ⟨q.1, by simp only [D.py, PyData.depth]; omega⟩
  | n, .frz _, h => by cases n <;> simp [D.fit] at h
  | n, .dct _, h => by cases n <;> simp [D.fit] at h
  | n, .ref _, h => by cases n <;> simp [D.fit] at h
theorem D.fits_py : ∀ (n : Nat) (ds : List D), D.fits n ds = true → PyData.canLayAll0 (D.pys ds) = true ∧ PyData.depthAll (D.pys ds) ≤ n
  | _, [], _ => ⟨rfl, Nat.zero_le _⟩
  | n, d :: r, h => by
    simp only [D.fits, Bool.and_eq_true] at h
    have q1 := D.fit_py n d h.1
    have q2 := D.fits_py n r h.2
    refine ⟨?_, ?_⟩
    · simp only [D.pys, PyData.canLayAll0, q1.1, q2.1, Bool.and_self]
    · simp only [D.pys, PyData.depthAll]
      have := q1.2
      have := q2.2
      omega
end
theorem D.shaped {d : D} (h : D.fit 60 d = true) : SeqAt.shaped d.py = true := by
  have q := D.fit_py 60 d h
  unfold SeqAt.shaped
  rw [q.1, decide_eq_true (by omega : d.py.depth ≤ 64)]
  rfl
section
variable {K : PySem.W.Frag} {g : Gp} {F : Hp} {μ : List Addr} {H : Hp} {st : List O}
mutual
theorem Rep.dp (s : RdSub F H) : ∀ {v : V} {d : D} (n : Nat), Rep K F μ v d → D.fit n d = true → Dp K H v d.py
  | _, _, _, .non, _ => .non
  | _, _, _, .bl b, _ => .bl b
  | _, _, _, .int i, _ => .int i
  | _, _, _, .str x, _ => .str x
  | _, _, 0, .tup h r, f => by simp [D.fit] at f
  | _, _, n + 1, .tup h r, f => .tup (s.t h) (r.dp s n (by simpa only [D.fit] using f))
  | _, _, 0, .lst h r, f => by simp [D.fit] at f
  | _, _, n + 1, .lst h r, f => .lst (.inl (.inl (s _ _ h))) (r.dp s n (by simpa only [D.fit] using f))
  | _, _, n, .frz _ _, f => by cases n <;> simp [D.fit] at f
  | _, _, n, .dK _ _, f => by cases n <;> simp [D.fit] at f
  | _, _, n, .dT _ _, f => by cases n <;> simp [D.fit] at f
  | _, _, n, .ref _, f => by cases n <;> simp [D.fit] at f
theorem Reps.dp (s : RdSub F H) : ∀ {vs : List V} {ds : List D} (n : Nat), Reps K F μ vs ds → D.fits n ds = true → DpAll K H vs (D.pys ds)
  | _, _, _, .nil, _ => .nil
  | _, _, n, .cons h r, f => by
    simp only [D.fits, Bool.and_eq_true] at f
    exact .cons (h.dp s n f.1) (r.dp s n f.2)
end
end

/-! ### the operations -/
section
variable {X : Cx} {g : Gp}
/-- from a rule of the hand layer: its reading at what stands for x, y -/
theorem or_of {fo : Value → Value → Sem Value} {h : F2} {r : R2} (ho : OpR X fo r)
    (q : ∀ F μ H st dx dy d x y Q, Ok X.K g F μ H st → Rep X.K F μ x dx → Rep X.K F μ y dy → h st dx dy = some d → Gives X.K g F μ H st d Q → r x y H Q) : OpR X fo (r2 X.K g h) := by
  intro pins s σ H x y v u Q I rx ry z
  obtain ⟨F, μ, st, dx, dy, d, k, r1, r2, e, gv⟩ := z
  exact ho pins s σ H x y v u Q I rx ry (q F μ H st dx dy d x y Q k r1 r2 e gv)
theorem gv_now {K : PySem.W.Frag} {F : Hp} {μ : List Addr} {H : Hp} {st : List O} {d : D} {v : V} {Q : VK} (gv : Gives K g F μ H st d Q) (k : Ok K g F μ H st) (r : Rep K F μ v d) : Q v H := gv F H v Go.refl k r
theorem gv_tup {K : PySem.W.Frag} {F : Hp} {μ : List Addr} {H : Hp} {st : List O} {ds : List D} {vs : List V} {Q : VK} {p : Addr} (gv : Gives K g F μ H st (.tup ds) Q) (k : Ok K g F μ H st) (r : Reps K F μ vs ds) (hp : H p = none) : Q (.ref p) (upd H p (.tup vs)) := by
  obtain ⟨x, k2⟩ := k.put (o := .tup vs) hp (fun ps z => by cases z)
  exact gv _ _ _ x k2 (.tup (.of upd_same) (r.mono x.sub x.pre))
theorem gv_lst {K : PySem.W.Frag} {F : Hp} {μ : List Addr} {H : Hp} {st : List O} {ds : List D} {vs : List V} {Q : VK} {p : Addr} (gv : Gives K g F μ H st (.lst ds) Q) (k : Ok K g F μ H st) (r : Reps K F μ vs ds) (hp : H p = none) : Q (.ref p) (upd H p (.lst vs)) := by
  obtain ⟨x, k2⟩ := k.put (o := .lst vs) hp (fun ps z => by cases z)
  exact gv _ _ _ x k2 (.lst upd_same (r.mono x.sub x.pre))
end
end DV

set_option Elab.async false
set_option linter.all false
set_option maxRecDepth 100000
namespace DV
open PySem PySem.Spec PyProof.Rows L2
open PySem.W (alike alikeAll dataLt lt_data gt_data le_data ge_data)
section
variable {X : Cx} {g : Gp}
/-! ### arithmetic -/
def mulOk (i j : Int) : Bool := decide (i.natAbs < 2 ^ 64) || decide (j.natAbs < 2 ^ 64) || decide (i.natAbs.log2 + j.natAbs.log2 < 1000000)
def divOk (j : Int) : Bool := decide (j ≠ 0) && (decide (j.natAbs < 1073741824) || (decide (0 < j) && decide (j.natAbs.log2 < 9000)))
def szOk (n : Nat) : Bool := decide (n ≤ 100000)
theorem szOk_line {n : Nat} (h : szOk n = true) : n ≤ sizeLine := small_sz (of_decide_eq_true h)
def hAdd : F2 := fun _ x y => match x, y with
  | .int i, .int j => some (.int (i + j))
  | .int i, .bl b => some (.int (i + b2i b))
  | .lst xs, .lst ys => if szOk (xs.length + ys.length) then some (.lst (xs ++ ys)) else none
  | .tup xs, .tup ys => if szOk (xs.length + ys.length) then some (.tup (xs ++ ys)) else none
  | .str a, .str b => if szOk (a.length + b.length) then some (.str (a ++ b)) else none
  | _, _ => none
theorem op_Add : OpR X (binaryOp .Add) (r2 X.K g hAdd) := by
  intro pins s σ H x y v u Q I rx ry z
  obtain ⟨F, μ, st, dx, dy, d, k, r1, r2, e, gv⟩ := z
  unfold hAdd at e
  split at e
  · cases e; cases r1; cases r2
    exact op_add pins s σ H _ _ v u Q I rx ry ⟨_, _, rfl, rfl, gv_now gv k (.int _)⟩
  · cases e; cases r1; cases r2
    exact op_add_ib pins s σ H _ _ v u Q I rx ry ⟨_, _, rfl, rfl, gv_now gv k (.int _)⟩
  · split at e
    · rename_i hl
      cases e
      cases r1 with
      | lst h1 q1 => cases r2 with
        | lst h2 q2 => exact op_cat pins s σ H _ _ v u Q I rx ry ⟨_, _, _, _, rfl, rfl, k.sub _ _ h1, k.sub _ _ h2, by rw [q1.length, q2.length]; exact szOk_line hl, fun p hp => gv_lst gv k (q1.append q2) hp⟩
    · cases e
  · split at e
    · rename_i hl
      cases e
      cases r1 with
      | tup h1 q1 => cases r2 with
        | tup h2 q2 =>
          have e1 := q1.length
          have e2 := q2.length
          refine op_catA pins s σ H _ _ v u Q I rx ry ⟨_, _, _, _, rfl, rfl, k.sub.t h1, k.sub.t h2, by rw [e1, e2]; exact szOk_line hl, fun z => ?_, fun _ z => ?_, fun _ _ p hp => gv_tup gv k (q1.append q2) hp⟩
          · subst z
            cases q1
            exact gv_now gv k (.tup h2 q2)
          · subst z
            cases q2
            rw [List.append_nil] at gv
            exact gv_now gv k (.tup h1 q1)
    · cases e
  · split at e
    · rename_i hl
      cases e; cases r1; cases r2
      exact op_add_str pins s σ H _ _ v u Q I rx ry ⟨_, _, rfl, rfl, szOk_line hl, gv_now gv k (.str _)⟩
    · cases e
  · cases e
def hSub : F2 := fun _ x y => match x, y with
  | .int i, .int j => some (.int (i - j))
  | .bl a, .bl b => some (.int (b2i a - b2i b))
  | _, _ => none
def hMul : F2 := fun _ x y => match x, y with
  | .int i, .int j => if mulOk i j then some (.int (i * j)) else none
  | .tup xs, .int k => if decide (xs.length ≠ 0) && decide (2 ≤ k) && decide (k ≤ 1000) && decide (xs.length ≤ 1000) then some (.tup (List.replicate k.toNat xs).flatten) else none
  | .lst xs, .int k => if decide (0 ≤ k) && decide (k ≤ 1000) && decide (xs.length ≤ 100) then some (.lst (List.replicate k.toNat xs).flatten) else none
  | _, _ => none
def hDiv : F2 := fun _ x y => match x, y with
  | .int i, .int j => if divOk j then some (.int (i.fdiv j)) else none
  | _, _ => none
def hMod : F2 := fun _ x y => match x, y with
  | .int i, .int j => if decide (j ≠ 0) then some (.int (i.fmod j)) else none
  | _, _ => none
def hPow : F2 := fun _ x y => match x, y with
  | .int i, .int j => if decide (0 ≤ j) && decide (j ≤ 1000) && decide (i.natAbs < 2 ^ 64) then some (.int (i ^ j.toNat)) else none
  | _, _ => none
def hNeg : F1 := fun _ x => match x with
  | .int i => some (.int (-i))
  | _ => none
theorem op_Sub : OpR X (binaryOp .Sub) (r2 X.K g hSub) := by
  intro pins s σ H x y v u Q I rx ry z
  obtain ⟨F, μ, st, dx, dy, d, k, r1, r2, e, gv⟩ := z
  unfold hSub at e
  split at e
  · cases e; cases r1; cases r2
    exact op_sub pins s σ H _ _ v u Q I rx ry ⟨_, _, rfl, rfl, gv_now gv k (.int _)⟩
  · cases e; cases r1; cases r2; cases rx; cases ry
    exact sub_bool ⟨.int _, H, I.tok _, ⟨_, rfl⟩, gv_now gv k (.int _)⟩
  · cases e
theorem mulOk_ok {i j : Int} (h : mulOk i j = true) : IntMulOk i j := by
  unfold mulOk at h
  simp only [Bool.or_eq_true, decide_eq_true_eq] at h
  rcases h with (h | h) | h
  · exact CMul.ok (.inl (by omega))
  · exact CMul.ok (.inr (by omega))
  · exact CMulW.ok h
theorem reps_rep {K : PySem.W.Frag} {F : Hp} {μ : List Addr} {vs : List V} {ds : List D} (h : Reps K F μ vs ds) : ∀ n : Nat, Reps K F μ (List.replicate n vs).flatten (List.replicate n ds).flatten
  | 0 => .nil
  | n + 1 => by
    rw [List.replicate_succ, List.replicate_succ, List.flatten_cons, List.flatten_cons]
    exact h.append (reps_rep h n)
theorem op_Mul : OpR X (binaryOp .Mult) (r2 X.K g hMul) := by
  intro pins s σ H x y v u Q I rx ry z
  obtain ⟨F, μ, st, dx, dy, d, k, r1, r2, e, gv⟩ := z
  unfold hMul at e
  split at e
  · split at e
    · rename_i hm
      cases e; cases r1; cases r2
      obtain ⟨t, rfl⟩ := rx
      obtain ⟨t', rfl⟩ := ry
      exact mul_int ⟨.int _, H, I.tok _, ⟨_, rfl⟩, gv_now gv k (.int _)⟩ (mulOk_ok hm)
    · cases e
  · split at e
    · rename_i hm
      simp only [Bool.and_eq_true, decide_eq_true_eq] at hm
      obtain ⟨⟨⟨h1, h2⟩, h3⟩, h4⟩ := hm
      cases e
      cases r1 with
      | tup ha q1 =>
        cases r2
        have el := q1.length
        refine op_repT pins s σ H _ _ v u Q I rx ry ⟨_, _, _, rfl, rfl, k.sub.t ha, fun z => ?_, h2, h3, by omega, fun p hp => gv_tup gv k ?_ hp⟩
        · subst z
          cases q1
          exact h1 rfl
        · exact reps_rep q1 _
    · cases e
  · split at e
    · rename_i hm
      simp only [Bool.and_eq_true, decide_eq_true_eq] at hm
      obtain ⟨⟨h1, h2⟩, h3⟩ := hm
      cases e
      cases r1 with
      | lst ha q1 =>
        cases r2
        have el := q1.length
        refine op_rep pins s σ H _ _ v u Q I rx ry ⟨_, _, _, rfl, rfl, k.sub _ _ ha, by omega, by omega, ?_, fun p hp => gv_lst gv k ?_ hp⟩
        · rw [el]
          exact Nat.le_trans (Nat.mul_le_mul h3 (show Int.toNat _ ≤ 1000 by omega)) (by decide)
        · exact reps_rep q1 _
    · cases e
  · cases e
theorem op_Div : OpR X (binaryOp .FloorDiv) (r2 X.K g hDiv) := by
  intro pins s σ H x y v u Q I rx ry z
  obtain ⟨F, μ, st, dx, dy, d, k, r1, r2, e, gv⟩ := z
  unfold hDiv at e
  split at e
  · split at e
    · rename_i hm
      unfold divOk at hm
      simp only [Bool.and_eq_true, Bool.or_eq_true, decide_eq_true_eq] at hm
      cases e; cases r1; cases r2
      rcases hm with ⟨h0, h1 | ⟨h1, h2⟩⟩
      · exact op_fdivN pins s σ H _ _ v u Q I rx ry ⟨_, _, rfl, rfl, ⟨h0, h1⟩, gv_now gv k (.int _)⟩
      · exact op_fdivW pins s σ H _ _ v u Q I rx ry ⟨_, _, rfl, rfl, ⟨h1, h2⟩, by
          show Q (.int (_ / _)) H
          rw [← Int.fdiv_eq_ediv_of_nonneg _ (by omega)]
          exact gv_now gv k (.int _)⟩
    · cases e
  · cases e
theorem op_Mod : OpR X (binaryOp .Mod) (r2 X.K g hMod) := by
  intro pins s σ H x y v u Q I rx ry z
  obtain ⟨F, μ, st, dx, dy, d, k, r1, r2, e, gv⟩ := z
  unfold hMod at e
  split at e
  · split at e
    · rename_i hm
      cases e; cases r1; cases r2
      exact op_modN pins s σ H _ _ v u Q I rx ry ⟨_, _, rfl, rfl, of_decide_eq_true hm, gv_now gv k (.int _)⟩
    · cases e
  · cases e
theorem op_Pow : OpR X (binaryOp .Pow) (r2 X.K g hPow) := by
  intro pins s σ H x y v u Q I rx ry z
  obtain ⟨F, μ, st, dx, dy, d, k, r1, r2, e, gv⟩ := z
  unfold hPow at e
  split at e
  · split at e
    · rename_i hm
      simp only [Bool.and_eq_true, decide_eq_true_eq] at hm
      obtain ⟨⟨h1, h2⟩, h3⟩ := hm
      cases e; cases r1; cases r2
      exact op_pow pins s σ H _ _ v u Q I rx ry ⟨_, _, rfl, rfl, ⟨h1, by omega, h3⟩, gv_now gv k (.int _)⟩
    · cases e
  · cases e
theorem op_Neg : UnR X (unaryOp .USub) (r1 X.K g hNeg) := by
  intro pins s σ H x v Q I rx z
  obtain ⟨F, μ, st, dx, d, k, r1, e, gv⟩ := z
  unfold hNeg at e
  split at e
  · cases e; cases r1
    exact un_neg pins s σ H _ v Q I rx ⟨_, rfl, gv_now gv k (.int _)⟩
  · cases e

/-! ### comparisons -/
def hEq : F2 := fun _ x y => if D.fit 60 x && D.fit 60 y then some (.bl (D.eqb x y)) else none
def hNe : F2 := fun _ x y => if D.fit 60 x && D.fit 60 y then some (.bl (!D.eqb x y)) else none
theorem op_Eq (hu : X.A.units + 65 < cLine) : OpR X (compareOp .Eq) (r2 X.K g hEq) := by
  refine or_of (op_eqD (by omega)) fun F μ H st dx dy d x y Q k r1 r2 e gv => ?_
  unfold hEq at e
  split at e
  · rename_i hf
    simp only [Bool.and_eq_true] at hf
    cases e
    exact ⟨dx.py, dy.py, r1.dp k.sub _ hf.1, r2.dp k.sub _ hf.2, D.shaped hf.1, D.shaped hf.2, by rw [D.eqb_py]; exact gv_now gv k (.bl _)⟩
  · cases e
theorem op_Ne (hu : X.A.units + 65 < cLine) : OpR X (compareOp .NotEq) (r2 X.K g hNe) := by
  refine or_of (op_neD (by omega)) fun F μ H st dx dy d x y Q k r1 r2 e gv => ?_
  unfold hNe at e
  split at e
  · rename_i hf
    simp only [Bool.and_eq_true] at hf
    cases e
    exact ⟨dx.py, dy.py, r1.dp k.sub _ hf.1, r2.dp k.sub _ hf.2, D.shaped hf.1, D.shaped hf.2, by rw [D.eqb_py]; exact gv_now gv k (.bl _)⟩
  · cases e
/-- order of data of one kind -/
def cmpOk (x y : D) : Bool := D.fit 60 x && D.fit 60 y && alike x.py y.py && (match x with | .non => false | _ => true)
def hLt : F2 := fun _ x y => match x, y with
  | .int i, .int j => some (.bl (decide (i < j)))
  | x, y => if cmpOk x y then some (.bl (dataLt x.py y.py)) else none
def hGt : F2 := fun _ x y => match x, y with
  | .int i, .int j => some (.bl (decide (j < i)))
  | x, y => if cmpOk x y then some (.bl (dataLt y.py x.py)) else none
def hLe : F2 := fun _ x y => match x, y with
  | .int i, .int j => some (.bl (decide (i ≤ j)))
  | x, y => if cmpOk x y then some (.bl (!dataLt y.py x.py)) else none
def hGe : F2 := fun _ x y => match x, y with
  | .int i, .int j => some (.bl (decide (j ≤ i)))
  | x, y => if cmpOk x y then some (.bl (!dataLt x.py y.py)) else none
theorem cmp_of {fo : Value → Value → Sem Value} {h : F2} {pi : Int → Int → Bool} {pd : PyData → PyData → Bool} (hu : X.A.units + 65 < cLine) (hi : OpR X fo (rI0 fun i j => .bl (pi i j)))
    (hd : ∀ {da db : PyData} {s : Shared} {a b : Value} {as bs : List Addr} {Q : Value → Shared → Prop}, Reads s.heap a da as → Reads s.heap b db bs → alike da db = true → da ≠ .none → X.A.units + min da.depth db.depth < cLine → Q (.bool (pd da db)) s → wpAny (model X.prog X.w) X.A (fo a b) Q X.xe s)
    (e1 : ∀ st i j, h st (.int i) (.int j) = some (.bl (pi i j))) (e2 : ∀ st x y d, h st x y = some d → (∃ i j, x = .int i ∧ y = .int j) ∨ (cmpOk x y = true ∧ d = .bl (pd x.py y.py))) : OpR X fo (r2 X.K g h) := by
  intro pins s σ H x y v u Q I rx ry z
  obtain ⟨F, μ, st, dx, dy, d, k, r1, r2, e, gv⟩ := z
  rcases e2 st dx dy d e with ⟨i, j, rfl, rfl⟩ | ⟨hc, rfl⟩
  · rw [e1] at e
    cases e; cases r1; cases r2
    exact hi pins s σ H _ _ v u Q I rx ry ⟨_, _, rfl, rfl, gv_now gv k (.bl _)⟩
  · unfold cmpOk at hc
    simp only [Bool.and_eq_true] at hc
    obtain ⟨⟨⟨h1, h2⟩, h3⟩, h4⟩ := hc
    obtain ⟨as, q1⟩ := Dp.reads I _ x v (r1.dp k.sub _ h1) rx
    obtain ⟨bs, q2⟩ := Dp.reads I _ y u (r2.dp k.sub _ h2) ry
    have dp := (D.fit_py 60 dx h1).2
    refine hd q1 q2 h3 (fun z => ?_) (by omega) ⟨.bl _, H, I, rfl, gv_now gv k (.bl _)⟩
    cases dx <;> simp [D.py] at z h4
theorem op_Lt (hu : X.A.units + 65 < cLine) : OpR X (compareOp .Lt) (r2 X.K g hLt) :=
  cmp_of (pd := dataLt) hu op_lt (fun a b c d e f => lt_data a b c d e f) (fun _ _ _ => rfl) fun st x y d e => by
    unfold hLt at e
    split at e
    · exact .inl ⟨_, _, rfl, rfl⟩
    · split at e
      · cases e; exact .inr ⟨‹_›, rfl⟩
      · cases e
theorem op_Gt (hu : X.A.units + 65 < cLine) : OpR X (compareOp .Gt) (r2 X.K g hGt) :=
  cmp_of (pd := fun a b => dataLt b a) hu op_gt (fun a b c d e f => gt_data a b c d e f) (fun _ _ _ => rfl) fun st x y d e => by
    unfold hGt at e
    split at e
    · exact .inl ⟨_, _, rfl, rfl⟩
    · split at e
      · cases e; exact .inr ⟨‹_›, rfl⟩
      · cases e
theorem op_Le (hu : X.A.units + 65 < cLine) : OpR X (compareOp .LtE) (r2 X.K g hLe) :=
  cmp_of (pd := fun a b => !dataLt b a) hu op_le (fun a b c d e f => le_data a b c d e f) (fun _ _ _ => rfl) fun st x y d e => by
    unfold hLe at e
    split at e
    · exact .inl ⟨_, _, rfl, rfl⟩
    · split at e
      · cases e; exact .inr ⟨‹_›, rfl⟩
      · cases e
theorem op_Ge (hu : X.A.units + 65 < cLine) : OpR X (compareOp .GtE) (r2 X.K g hGe) :=
  cmp_of (pd := fun a b => !dataLt a b) hu op_ge (fun a b c d e f => ge_data a b c d e f) (fun _ _ _ => rfl) fun st x y d e => by
    unfold hGe at e
    split at e
    · exact .inl ⟨_, _, rfl, rfl⟩
    · split at e
      · cases e; exact .inr ⟨‹_›, rfl⟩
      · cases e
/-- x in a list, a tuple -/
def hIn (neg : Bool) : F2 := fun _ x y => match y with
  | .lst ys => if D.fit 50 x && D.fit 50 y then some (.bl (ys.any (fun z => D.eqb z x) != neg)) else none
  | .tup ys => if D.fit 50 x && D.fit 50 y then some (.bl (ys.any (fun z => D.eqb z x) != neg)) else none
  | _ => none
theorem any_py (d : D) : ∀ ys : List D, ((D.pys ys).any fun z => PyData.eqv z d.py) = ys.any fun z => D.eqb z d
  | [] => rfl
  | y :: r => by simp only [D.pys, List.any_cons, D.eqb_py, any_py d r]
theorem D.fit_up {d : D} (h : D.fit 50 d = true) : SeqAt.shaped d.py = true := by
  have q := D.fit_py 50 d h
  unfold SeqAt.shaped
  rw [q.1, decide_eq_true (by omega : d.py.depth ≤ 64)]
  rfl
theorem in_gv {K : PySem.W.Frag} {F : Hp} {μ : List Addr} {H : Hp} {st : List O} {b neg : Bool} {Q : VK} {X : Cx} {pins : List (Addr × Obj)} {σ : St} {s : Shared} (I : Inv X pins σ H s) (gv : Gives K g F μ H st (.bl (b != neg)) Q) (k : Ok K g F μ H st) :
    EP X pins σ Q (.bool (b != neg)) s := ⟨.bl _, H, I, rfl, gv_now gv k (.bl _)⟩
theorem op_In (hu : X.A.units + 65 < cLine) : OpR X (compareOp .In) (r2 X.K g (hIn false)) := by
  intro pins s σ H x y v u Q I rx ry z
  obtain ⟨F, μ, st, dx, dy, d, k, r1, r2, e, gv⟩ := z
  unfold hIn at e
  split at e
  · split at e
    · rename_i hf
      simp only [Bool.and_eq_true] at hf
      cases e
      obtain ⟨as, q1⟩ := Dp.reads I _ x v (r1.dp k.sub _ hf.1) rx
      obtain ⟨bs, q2⟩ := Dp.reads I _ y u (r2.dp k.sub _ hf.2) ry
      refine SeqAt.in_list_reads q2 q1 (SeqAt.canLay_of_shaped (D.fit_up hf.2)) (SeqAt.canLay_of_shaped (D.fit_up hf.1)) (room_in_shaped (D.fit_up hf.1) hu) ?_
      rw [any_py, ← Bool.bne_false (List.any _ _)]
      exact in_gv I gv k
    · cases e
  · split at e
    · rename_i hf
      simp only [Bool.and_eq_true] at hf
      cases e
      obtain ⟨as, q1⟩ := Dp.reads I _ x v (r1.dp k.sub _ hf.1) rx
      obtain ⟨bs, q2⟩ := Dp.reads I _ y u (r2.dp k.sub _ hf.2) ry
      refine SeqAt.in_tuple_reads q2 q1 (SeqAt.canLay_of_shaped (D.fit_up hf.2)) (SeqAt.canLay_of_shaped (D.fit_up hf.1)) (room_in_shaped (D.fit_up hf.1) hu) ?_
      rw [any_py, ← Bool.bne_false (List.any _ _)]
      exact in_gv I gv k
    · cases e
  · cases e
theorem op_NotIn (hu : X.A.units + 65 < cLine) : OpR X (compareOp .NotIn) (r2 X.K g (hIn true)) := by
  intro pins s σ H x y v u Q I rx ry z
  obtain ⟨F, μ, st, dx, dy, d, k, r1, r2, e, gv⟩ := z
  unfold hIn at e
  split at e
  · split at e
    · rename_i hf
      simp only [Bool.and_eq_true] at hf
      cases e
      obtain ⟨as, q1⟩ := Dp.reads I _ x v (r1.dp k.sub _ hf.1) rx
      obtain ⟨bs, q2⟩ := Dp.reads I _ y u (r2.dp k.sub _ hf.2) ry
      refine SeqAt.notIn_list_reads q2 q1 (SeqAt.canLay_of_shaped (D.fit_up hf.2)) (SeqAt.canLay_of_shaped (D.fit_up hf.1)) (room_in_shaped (D.fit_up hf.1) hu) ?_
      rw [any_py, ← Bool.bne_true (List.any _ _)]
      exact in_gv I gv k
    · cases e
  · split at e
    · rename_i hf
      simp only [Bool.and_eq_true] at hf
      cases e
      obtain ⟨as, q1⟩ := Dp.reads I _ x v (r1.dp k.sub _ hf.1) rx
      obtain ⟨bs, q2⟩ := Dp.reads I _ y u (r2.dp k.sub _ hf.2) ry
      refine SeqAt.notIn_tuple_reads q2 q1 (SeqAt.canLay_of_shaped (D.fit_up hf.2)) (SeqAt.canLay_of_shaped (D.fit_up hf.1)) (room_in_shaped (D.fit_up hf.1) hu) ?_
      rw [any_py, ← Bool.bne_true (List.any _ _)]
      exact in_gv I gv k
    · cases e
  · cases e
/-- is None -/
def hIsN (neg : Bool) : F2 := fun _ x y => match y with
  | .non => some (.bl ((match x with | .non => true | _ => false) != neg))
  | _ => none
theorem op_Is : OpR X (compareOp .Is) (r2 X.K g (hIsN false)) :=
  or_of op_isN fun F μ H st dx dy d x y Q k r1 r2 e gv => by
    unfold hIsN at e
    split at e
    · cases e; cases r2; cases r1 <;> exact ⟨rfl, gv_now gv k (.bl _)⟩
    · cases e
theorem op_IsNot : OpR X (compareOp .IsNot) (r2 X.K g (hIsN true)) :=
  or_of op_notN fun F μ H st dx dy d x y Q k r1 r2 e gv => by
    unfold hIsN at e
    split at e
    · cases e; cases r2; cases r1 <;> exact ⟨rfl, gv_now gv k (.bl _)⟩
    · cases e
end
end DV

set_option Elab.async false
set_option linter.all false
set_option maxRecDepth 100000
set_option maxHeartbeats 1000000
namespace DV
open PySem PySem.Spec PyProof.Rows L2
open PySem.W (alike alikeAll dataLt minD maxD AllAlike Sortable EachIs dataLe)
section
variable {K : PySem.W.Frag} {F : Hp} {μ : List Addr}
theorem Reps.atI {vs : List V} {ds : List D} {i : Int} {d : D} (h : Reps K F μ vs ds) (e : L2.atI ds i = some d) : ∃ v, L2.atI vs i = some v ∧ Rep K F μ v d := by
  unfold L2.atI at e ⊢
  rw [h.length]
  cases q : ixN ds.length i with
  | none => rw [q] at e; cases e
  | some j =>
    rw [q] at e
    exact h.get e
end
section
variable {X : Cx} {g : Gp} {B : Bs} {Z : ZZ} {a b : Expr} {fa fb : EF} {pos : Pos}
/-! ### subscripts -/
def hIx : F2 := fun st x y => match x, y with
  | .tup xs, .int i => L2.atI xs i
  | .lst xs, .int i => L2.atI xs i
  | .frz xs, .int i => L2.atI xs i
  | .str z, .int i => if szOk z.length then (L2.atI z.cps.toList i).map fun c => .str ⟨#[c]⟩ else none
  | .ref n, .int i => match st[n]? with
    | some (.lst xs) => L2.atI xs i
    | none => none
  | _, _ => none
theorem ix_D : IxR X (r2 X.K g hIx) := by
  intro value slice pins s σ H x y v u Q I rx ry z hs
  obtain ⟨F, μ, st, dx, dy, d, k, r1, r2, e, gv⟩ := z
  unfold hIx at e
  split at e
  · cases r1 with
    | tup h q =>
      cases r2
      obtain ⟨w, h1, h2⟩ := q.atI e
      exact ix_tup value slice pins s σ H _ _ v u Q I rx ry ⟨_, _, _, w, rfl, rfl, k.sub.t h, h1, gv_now gv k h2⟩ hs
  · cases r1 with
    | lst h q =>
      cases r2
      obtain ⟨w, h1, h2⟩ := q.atI e
      exact ix_list value slice pins s σ H _ _ v u Q I rx ry ⟨_, _, _, w, rfl, rfl, .inl (.inl (k.sub _ _ h)), h1, gv_now gv k h2⟩ hs
  · cases r1 with
    | frz h q =>
      cases r2
      obtain ⟨w, h1, h2⟩ := q.atI e
      exact ix_list value slice pins s σ H _ _ v u Q I rx ry ⟨_, _, _, w, rfl, rfl, k.sub.l h, h1, gv_now gv k h2⟩ hs
  · split at e
    · rename_i hz
      cases r1; cases r2
      cases q : L2.atI _ _ with
      | none => rw [q] at e; cases e
      | some c =>
        rw [q] at e; cases e
        exact ix_str value slice pins s σ H _ _ v u Q I rx ry ⟨_, _, c, rfl, rfl, szOk_line hz, q, gv_now gv k (.str _)⟩ hs
    · cases e
  · split at e
    · rename_i ys hy
      cases r1 with
      | ref hn =>
        cases r2
        obtain ⟨vs, e1, q⟩ := k.obj _ _ _ hn hy
        obtain ⟨w, h1, h2⟩ := q.atI e
        exact ix_list value slice pins s σ H _ _ v u Q I rx ry ⟨_, _, _, w, rfl, rfl, .inl (.inl e1), h1, gv_now gv k h2⟩ hs
    · cases e
  · cases e
theorem de_ix (ha : DE g X B Z a fa) (hb : DE g X B Z b fb) (hs : PlainIx b) : DE g X B Z (.Subscript a b pos) (eOp hIx fa fb) := PE.imp (pe_ix ix_D ha hb hs) op_of

/-! ### slices -/
abbrev OF := List Sl → List O → R (Option Int)
def tO (K : PySem.W.Frag) (g : Gp) (B : Bs) (Z : ZZ) (f : OF) : TO := fun σ H Q => ∃ env F μ st, Rl K g B F μ H env st σ ∧ Aft K g F μ H Z (f env st) fun o _ _ _ H' => Q o H'
def DO (g : Gp) (X : Cx) (B : Bs) (Z : ZZ) (e : Option Expr) (f : OF) : Prop := PO X e (tO X.K g B Z f)
def oNone : OF := fun _ st => .ok none st
def oSome (f : EF) : OF := fun env st => (f env st).bind fun d st1 => match d with
  | .int i => .ok (some i) st1
  | _ => .bad
theorem PO.imp {e : Option Expr} {t t' : TO} (h : PO X e t) (q : ∀ σ H Q, t' σ H Q → t σ H Q) : PO X e t' := ⟨fun pins s σ H Q I z => h.run pins s σ H Q I (q σ H Q z)⟩
theorem do_none : DO g X B Z none oNone := PO.imp po_none fun σ H Q h => by
  obtain ⟨env, F, μ, st, r, h⟩ := h
  exact Aft.here (a := (none : Option Int)) h r.ok
theorem do_some (ha : DE g X B Z a fa) : DO g X B Z (some a) (oSome fa) := PO.imp (po_some ha) fun σ H Q h => by
  obtain ⟨env, F, μ, st, r, h⟩ := h
  refine tD_of r h.bind fun d s v F1 μ1 H1 x1 r1 h1 rv => ?_
  cases d <;> first
    | exact h1.elim
    | (cases rv; exact ⟨_, rfl, Aft.here (a := some _) h1 r1.ok⟩)
def cutD {α : Type} (xs : List α) (lo hi : Option Int) : List α := (xs.drop (HT.sIx xs.length 0 lo)).take (HT.sIx xs.length xs.length hi - HT.sIx xs.length 0 lo)
def hSlice (x : D) (lo hi : Option Int) : Option D := match x with
  | .lst xs => some (.lst (cutD xs lo hi))
  | .frz xs => some (.lst (cutD xs lo hi))
  | .tup xs => some (.tup (cutD xs lo hi))
  | .str z => if szOk z.length then some (.str (cutS z lo hi)) else none
  | _ => none
def rSl (K : PySem.W.Frag) (g : Gp) : V → Option Int → Option Int → Hp → VK → Prop := fun x lo hi H Q => ∃ F μ st dx d, Ok K g F μ H st ∧ Rep K F μ x dx ∧ hSlice dx lo hi = some d ∧ Gives K g F μ H st d Q
theorem Reps.cut {K : PySem.W.Frag} {F : Hp} {μ : List Addr} {vs : List V} {ds : List D} (h : Reps K F μ vs ds) (lo hi : Option Int) : Reps K F μ (cutV vs lo hi) (cutD ds lo hi) := by
  unfold cutV cutD
  rw [h.length]
  exact (h.drop _).take _
theorem sl_D : SlR X (rSl X.K g) := by
  intro pins s σ H x v vl vu lo hi sl Q I rx hs pl pu z
  obtain ⟨F, μ, st, dx, d, k, r1, e, gv⟩ := z
  unfold hSlice at e
  split at e
  · cases e
    cases r1 with
    | lst h q => exact sl_list pins s σ H _ v vl vu lo hi sl Q I rx hs pl pu ⟨_, _, rfl, .inl (.inl (k.sub _ _ h)), fun p hp => gv_lst gv k (q.cut lo hi) hp⟩
  · cases e
    cases r1 with
    | frz h q => exact sl_list pins s σ H _ v vl vu lo hi sl Q I rx hs pl pu ⟨_, _, rfl, k.sub.l h, fun p hp => gv_lst gv k (q.cut lo hi) hp⟩
  · cases e
    cases r1 with
    | tup h q =>
      refine sl_tupA pins s σ H _ v vl vu lo hi sl Q I rx hs pl pu ⟨_, _, rfl, k.sub.t h, fun hw => ?_, fun _ p hp => gv_tup gv k (q.cut lo hi) hp⟩
      have e : ∀ {xs : List D}, HT.sIx xs.length 0 lo = 0 → HT.sIx xs.length xs.length hi = xs.length → cutD xs lo hi = xs := fun {xs} h1 h2 => by
        unfold cutD
        rw [h1, h2, List.drop_zero, Nat.sub_zero]
        exact List.take_of_length_le (Nat.le_refl _)
      rw [q.length] at hw
      rw [e hw.1 hw.2] at gv
      exact gv_now gv k (.tup h q)
  · split at e
    · rename_i hz
      cases e
      cases r1
      exact sl_str pins s σ H _ v vl vu lo hi sl Q I rx hs pl pu ⟨_, rfl, szOk_line hz, gv_now gv k (.str _)⟩
    · cases e
  · cases e
def eSl (f : EF) (lo hi : OF) : EF := fun env st => (f env st).bind fun d st1 => (lo env st1).bind fun l st2 => (hi env st2).bind fun h st3 => .of (hSlice d l h) st3
theorem de_sl {lo hi : Option Expr} {fl fh : OF} {p2 : Pos} (ha : DE g X B Z a fa) (hl : DO g X B Z lo fl) (hh : DO g X B Z hi fh) : DE g X B Z (.Subscript a (.Slice lo hi none p2) pos) (eSl fa fl fh) :=
  PE.imp (pe_slice sl_D ha hl hh) fun σ H Q z => by
    obtain ⟨env, F, μ, st, r, z⟩ := z
    refine tD_of r z.bind fun d s v F1 μ1 H1 x1 r1 h1 rv => ?_
    refine ⟨env, F1, μ1, s, r1, h1.bind.mono fun l s2 F2 μ2 H2 e2 x2 k2 h2 => ?_⟩
    have r2 := r1.step x2 k2
    refine ⟨env, F2, μ2, s2, r2, h2.bind.mono fun h s3 F3 μ3 H3 e3 x3 k3 h3 => ?_⟩
    obtain ⟨y, e, h3⟩ := aft_of h3
    exact ⟨F3, μ3, s3, d, y, k3, rv.mono (x2.trans x3).sub (x2.trans x3).pre, e, fun F' H' v' x k rr => h3 F' μ3 H' x k v' rr⟩

/-! ### built-in functions of values -/
theorem cn_of {f : Value} {h : FN} {r : List V → Hp → VK → Prop} (hc : CallR X f r)
    (q : ∀ F μ H st ds d xs Q, Ok X.K g F μ H st → Reps X.K F μ xs ds → h st ds = some d → Gives X.K g F μ H st d Q → r xs H Q) : CallR X f (rN X.K g h) := by
  intro pins s σ H xs us Q I rs z
  obtain ⟨F, μ, st, ds, d, k, r1, e, gv⟩ := z
  exact hc pins s σ H xs us Q I rs (q F μ H st ds d xs Q k r1 e gv)
def hLen : FN := fun st xs => match xs with
  | [.lst xs] => some (.int (xs.length : Nat))
  | [.frz xs] => some (.int (xs.length : Nat))
  | [.tup xs] => some (.int (xs.length : Nat))
  | [.str z] => if szOk z.length then some (.int (z.length : Nat)) else none
  | [.ref n] => match st[n]? with
    | some (.lst xs) => some (.int (xs.length : Nat))
    | none => none
  | _ => none
theorem reps1 {K : PySem.W.Frag} {F : Hp} {μ : List Addr} {vs : List V} {d : D} (h : Reps K F μ vs [d]) : ∃ v, vs = [v] ∧ Rep K F μ v d := by
  cases h with
  | cons h r => cases r; exact ⟨_, rfl, h⟩
theorem reps2 {K : PySem.W.Frag} {F : Hp} {μ : List Addr} {vs : List V} {d e : D} (h : Reps K F μ vs [d, e]) : ∃ v w, vs = [v, w] ∧ Rep K F μ v d ∧ Rep K F μ w e := by
  cases h with
  | cons h r =>
    obtain ⟨w, rfl, h2⟩ := reps1 r
    exact ⟨_, w, rfl, h, h2⟩
theorem c_len : CallR X (.builtin "len") (rN X.K g hLen) := cn_of call_len fun F μ H st ds d xs Q k r e gv => by
  unfold hLen at e
  split at e
  · cases e
    obtain ⟨v, rfl, w⟩ := reps1 r
    cases w with
    | lst h q => exact ⟨_, _, rfl, .inl ⟨_, .inl (.inl (k.sub _ _ h)), rfl⟩, by rw [q.length]; exact gv_now gv k (.int _)⟩
  · cases e
    obtain ⟨v, rfl, w⟩ := reps1 r
    cases w with
    | frz h q => exact ⟨_, _, rfl, .inl ⟨_, k.sub.l h, rfl⟩, by rw [q.length]; exact gv_now gv k (.int _)⟩
  · cases e
    obtain ⟨v, rfl, w⟩ := reps1 r
    cases w with
    | tup h q => exact ⟨_, _, rfl, .inr ⟨_, k.sub.t h, rfl⟩, by rw [q.length]; exact gv_now gv k (.int _)⟩
  · split at e
    · rename_i hz
      cases e
      obtain ⟨v, rfl, w⟩ := reps1 r
      cases w
      exact ⟨_, _, rfl, ⟨szOk_line hz, rfl⟩, gv_now gv k (.int _)⟩
    · cases e
  · split at e
    · rename_i ys hy
      cases e
      obtain ⟨v, rfl, w⟩ := reps1 r
      cases w with
      | ref hn =>
        obtain ⟨vs, e1, q⟩ := k.obj _ _ _ hn hy
        exact ⟨_, _, rfl, .inl ⟨_, .inl (.inl e1), rfl⟩, by rw [q.length]; exact gv_now gv k (.int _)⟩
    · cases e
  · cases e
def hAbs : FN := fun _ xs => match xs with
  | [.int i] => some (.int (if i < 0 then -i else i))
  | _ => none
theorem c_abs : CallR X (.builtin "abs") (rN X.K g hAbs) := cn_of call_abs fun F μ H st ds d xs Q k r e gv => by
  unfold hAbs at e
  split at e
  · cases e
    obtain ⟨v, rfl, w⟩ := reps1 r
    cases w
    exact ⟨_, rfl, gv_now gv k (.int _)⟩
  · cases e
def hInt : FN := fun _ xs => match xs with
  | [.int i] => some (.int i)
  | [.bl b] => some (.int (if b then 1 else 0))
  | _ => none
theorem c_int : CallR X (.type "int") (rN X.K g hInt) := cn_of call_int1 fun F μ H st ds d xs Q k r e gv => by
  unfold hInt at e
  split at e
  · cases e
    obtain ⟨v, rfl, w⟩ := reps1 r
    cases w
    exact .inl ⟨_, rfl, gv_now gv k (.int _)⟩
  · cases e
    obtain ⟨v, rfl, w⟩ := reps1 r
    cases w
    exact .inr ⟨_, rfl, gv_now gv k (.int _)⟩
  · cases e
def hList : FN := fun st xs => match xs with
  | [.lst xs] => some (.lst xs)
  | [.tup xs] => some (.lst xs)
  | [.ref n] => match st[n]? with
    | some (.lst xs) => some (.lst xs)
    | none => none
  | _ => none
theorem c_list : CallR X (.type "list") (rN X.K g hList) := cn_of call_list_of fun F μ H st ds d xs Q k r e gv => by
  unfold hList at e
  split at e
  · cases e
    obtain ⟨v, rfl, w⟩ := reps1 r
    cases w with
    | lst h q => exact ⟨_, _, rfl, .inl (.inl (.inl (k.sub _ _ h))), fun p hp => gv_lst gv k q hp⟩
  · cases e
    obtain ⟨v, rfl, w⟩ := reps1 r
    cases w with
    | tup h q => exact ⟨_, _, rfl, .inr (k.sub.t h), fun p hp => gv_lst gv k q hp⟩
  · split at e
    · rename_i ys hy
      cases e
      obtain ⟨v, rfl, w⟩ := reps1 r
      cases w with
      | ref hn =>
        obtain ⟨vs, e1, q⟩ := k.obj _ _ _ hn hy
        exact ⟨_, _, rfl, .inl (.inl (.inl e1)), fun p hp => gv_lst gv k q hp⟩
    · cases e
  · cases e
def hTuple : FN := fun st xs => match xs with
  | [.lst xs] => some (.tup xs)
  | [.tup xs] => some (.tup xs)
  | [.ref n] => match st[n]? with
    | some (.lst xs) => some (.tup xs)
    | none => none
  | _ => none
theorem c_tuple : CallR X (.type "tuple") (rN X.K g hTuple) := cn_of call_tuple_of fun F μ H st ds d xs Q k r e gv => by
  unfold hTuple at e
  split at e
  · cases e
    obtain ⟨v, rfl, w⟩ := reps1 r
    cases w with
    | lst h q => exact ⟨_, _, rfl, .inl ⟨.inl (.inl (k.sub _ _ h)), fun p hp => gv_tup gv k q hp⟩⟩
  · cases e
    obtain ⟨v, rfl, w⟩ := reps1 r
    cases w with
    | tup h q => exact ⟨_, _, rfl, .inr ⟨k.sub.t h, gv_now gv k (.tup h q)⟩⟩
  · split at e
    · rename_i ys hy
      cases e
      obtain ⟨v, rfl, w⟩ := reps1 r
      cases w with
      | ref hn =>
        obtain ⟨vs, e1, q⟩ := k.obj _ _ _ hn hy
        exact ⟨_, _, rfl, .inl ⟨.inl (.inl e1), fun p hp => gv_tup gv k q hp⟩⟩
    · cases e
  · cases e
end
end DV

set_option Elab.async false
set_option linter.all false
set_option maxRecDepth 100000
set_option maxHeartbeats 1000000
namespace DV
open PySem PySem.Spec PyProof.Rows L2
open PySem.W (alike alikeAll dataLt minD maxD AllAlike Sortable EachIs dataLe)
mutual
theorem D.py_inj : ∀ (n : Nat) (d e : D), D.fit n d = true → D.fit n e = true → d.py = e.py → d = e
  | n, .non, e, _, f, h => by cases e <;> cases n <;> simp_all [D.py, D.fit]
  | n, .bl _, e, _, f, h => by cases e <;> cases n <;> simp_all [D.py, D.fit]
  | n, .int _, e, _, f, h => by cases e <;> cases n <;> simp_all [D.py, D.fit]
  | n, .str _, e, _, f, h => by cases e <;> cases n <;> simp_all [D.py, D.fit]
  | 0, .tup _, _, f, _, _ => by simp [D.fit] at f
  | 0, .lst _, _, f, _, _ => by simp [D.fit] at f
  | n + 1, .tup xs, e, f, g, h => by
    cases e with
    | tup ys =>
      simp only [D.fit] at f g
      simp only [D.py, PyData.tuple.injEq] at h
      rw [D.pys_inj n xs ys f g h]
    | _ => simp [D.py] at h
  | n + 1, .lst xs, e, f, g, h => by
    cases e with
    | lst ys =>
      simp only [D.fit] at f g
      simp only [D.py, PyData.list.injEq] at h
      rw [D.pys_inj n xs ys f g h]
    | _ => simp [D.py] at h
  | n, .frz _, _, f, _, _ => by cases n <;> simp [D.fit] at f
  | n, .dct _, _, f, _, _ => by cases n <;> simp [D.fit] at f
  | n, .ref _, _, f, _, _ => by cases n <;> simp [D.fit] at f
theorem D.pys_inj : ∀ (n : Nat) (xs ys : List D), D.fits n xs = true → D.fits n ys = true → D.pys xs = D.pys ys → xs = ys
  | _, [], [], _, _, _ => rfl
  | _, [], _ :: _, _, _, h => by simp [D.pys] at h
  | _, _ :: _, [], _, _, h => by simp [D.pys] at h
  | n, x :: xs, y :: ys, f, g, h => by
    simp only [D.fits, Bool.and_eq_true] at f g
    simp only [D.pys, List.cons.injEq] at h
    rw [D.py_inj n x y f.1 g.1 h.1, D.pys_inj n xs ys f.2 g.2 h.2]
end
theorem D.pys_map : ∀ xs : List D, D.pys xs = xs.map D.py
  | [] => rfl
  | x :: xs => by rw [D.pys, List.map_cons, D.pys_map xs]
theorem D.fits_all : ∀ (n : Nat) (xs : List D), D.fits n xs = xs.all (D.fit n)
  | _, [] => rfl
  | n, x :: xs => by rw [D.fits, List.all_cons, D.fits_all n xs]
theorem D.fits_mem {n : Nat} {xs : List D} (h : D.fits n xs = true) {d : D} (hd : d ∈ xs) : D.fit n d = true := by
  rw [D.fits_all] at h
  exact List.all_eq_true.mp h d hd
def D.maxD (x : D) (xs : List D) : D := xs.foldl (fun a y => if dataLt a.py y.py then y else a) x
def D.minD (x : D) (xs : List D) : D := xs.foldl (fun a y => if dataLt y.py a.py then y else a) x
theorem D.maxD_py : ∀ (xs : List D) (x : D), (D.maxD x xs).py = W.maxD x.py (xs.map D.py)
  | [], _ => rfl
  | y :: ys, x => by
    have h := D.maxD_py ys (if dataLt x.py y.py then y else x)
    unfold D.maxD W.maxD at h ⊢
    simp only [List.foldl_cons, List.map_cons] at h ⊢
    rw [h]
    congr 1
    split <;> rfl
theorem D.minD_py : ∀ (xs : List D) (x : D), (D.minD x xs).py = W.minD x.py (xs.map D.py)
  | [], _ => rfl
  | y :: ys, x => by
    have h := D.minD_py ys (if dataLt y.py x.py then y else x)
    unfold D.minD W.minD at h ⊢
    simp only [List.foldl_cons, List.map_cons] at h ⊢
    rw [h]
    congr 1
    split <;> rfl
theorem D.maxD_mem : ∀ (xs : List D) (x : D), D.maxD x xs ∈ x :: xs
  | [], x => by simp [D.maxD]
  | y :: ys, x => by
    have h := D.maxD_mem ys (if dataLt x.py y.py then y else x)
    unfold D.maxD at h ⊢
    rw [List.foldl_cons]
    split at h <;> simp_all
    rcases h with h | h <;> simp_all
theorem D.minD_mem : ∀ (xs : List D) (x : D), D.minD x xs ∈ x :: xs
  | [], x => by simp [D.minD]
  | y :: ys, x => by
    have h := D.minD_mem ys (if dataLt y.py x.py then y else x)
    unfold D.minD at h ⊢
    rw [List.foldl_cons]
    split at h <;> simp_all
    rcases h with h | h <;> simp_all
def notNon (d : D) : Bool := match d with
  | .non => false
  | _ => true
def likes (ds : List D) : Bool := D.fits 50 ds && ds.all (fun x => notNon x && ds.all fun y => alike x.py y.py)
theorem likes_all {ds : List D} (h : likes ds = true) : W.AlikeAll (D.pys ds) := by
  unfold likes at h
  simp only [Bool.and_eq_true, List.all_eq_true] at h
  rw [D.pys_map]
  refine ⟨fun x hx y hy => ?_, fun x hx z => ?_⟩
  · obtain ⟨d, hd, rfl⟩ := List.mem_map.mp hx
    obtain ⟨e, he, rfl⟩ := List.mem_map.mp hy
    exact (h.2 d hd).2 e he
  · obtain ⟨d, hd, rfl⟩ := List.mem_map.mp hx
    have q := (h.2 d hd).1
    cases d <;> simp [D.py, notNon] at z q
theorem vals_getU : ∀ {xs : List V} {us : List Value} {i : Nat} {u : Value}, Vals xs us → us[i]? = some u → ∃ x, xs[i]? = some x ∧ RelV x u
  | _, _, _, _, .nil, e => by simp at e
  | _, _, 0, _, .cons r _, e => by simp at e; subst e; exact ⟨_, rfl, r⟩
  | _, _, i + 1, u, .cons _ t, e => by
    obtain ⟨x, h1, h2⟩ := vals_getU (i := i) (u := u) t (by simpa using e)
    exact ⟨x, by simpa using h1, h2⟩
section
variable {X : Cx} {g : Gp}
/-- the item that a builtin has chosen -/
theorem pick_of {pins : List (Addr × Obj)} {σ : St} {H F : Hp} {μ : List Addr} {st : List O} {s s' : Shared} {Q : VK} {vs : List V} {its : List Value} {ds : List D} {i : Nat} {u : Value} {m : D} {bs : List Addr}
    (I1 : Inv X pins σ H s') (k : Ok X.K g F μ H st) (rv : Vals vs its) (rd : Reps X.K F μ vs ds) (hf : D.fits 50 ds = true) (hm : m ∈ ds) (hi : its[i]? = some u) (hr : Reads s'.heap u m.py bs) (gv : Gives X.K g F μ H st m Q) : EP X pins σ Q u s' := by
  obtain ⟨v, hv, ru⟩ := vals_getU rv hi
  obtain ⟨d, hd, rr⟩ := rd.getV hv
  have hdm : d ∈ ds := List.mem_of_getElem? hd
  obtain ⟨as, r2⟩ := Dp.reads I1 _ v u (rr.dp k.sub 50 (D.fits_mem hf hdm)) ru
  have e := (Reads.unique r2 _ _ hr).1
  have e2 := D.py_inj 50 d m (D.fits_mem hf hdm) (D.fits_mem hf hm) e
  subst e2
  exact ⟨v, H, I1, ru, gv_now gv k rr⟩
theorem likes_fits {ds : List D} (h : likes ds = true) : D.fits 50 ds = true := by
  unfold likes at h
  simp only [Bool.and_eq_true] at h
  exact h.1
theorem depth_all {ds : List D} (h : D.fits 50 ds = true) : PyData.depthAll (D.pys ds) ≤ 50 := (D.fits_py 50 ds h).2
def hMax : FN := fun _ xs => match xs with
  | [.int i, .int j] => some (.int (if j > i then j else i))
  | [.lst (x :: xs)] => if likes (x :: xs) then some (D.maxD x xs) else none
  | [.tup (x :: xs)] => if likes (x :: xs) then some (D.maxD x xs) else none
  | _ => none
def hMin : FN := fun _ xs => match xs with
  | [.int i, .int j] => some (.int (if j < i then j else i))
  | [.lst (x :: xs)] => if likes (x :: xs) then some (D.minD x xs) else none
  | [.tup (x :: xs)] => if likes (x :: xs) then some (D.minD x xs) else none
  | _ => none
theorem c_max (hc : X.calm = true) (hu : X.A.units + 65 < cLine) : CallR X (.builtin "max") (rN X.K g hMax) := by
  intro pins s σ H xs us Q I rs z
  obtain ⟨F, μ, st, ds, d, k, r1, e, gv⟩ := z
  unfold hMax at e
  split at e
  · cases e
    obtain ⟨v, w, rfl, a, b⟩ := reps2 r1
    cases a; cases b
    exact call_max2 hc pins s σ H _ us Q I rs ⟨_, _, rfl, gv_now gv k (.int _)⟩
  · split at e
    · rename_i hl
      cases e
      obtain ⟨v, rfl, w⟩ := reps1 r1
      cases w with
      | lst h q =>
        obtain ⟨its, rv, pl, hz⟩ := I.list (.inl (.inl (k.sub _ _ h)))
        have hf := likes_fits hl
        obtain ⟨as, hr⟩ := Dp.readsAll I _ _ its (q.dp k.sub 50 hf) rv
        have hd := depth_all hf
        rw [Vals.ref1 rs]
        refine W.max_list_data (I.ok.hd hc) pl.isList hr (likes_all hl) (by simp only [D.pys] at hd; omega) fun i v h' tk bs hi hv hk => ?_
        exact pick_of (s := s) (I.kept hk) k rv q hf (D.maxD_mem _ _) (by simpa using hi) (by rw [D.maxD_py, ← D.pys_map]; exact hv) gv
    · cases e
  · split at e
    · rename_i hl
      cases e
      obtain ⟨v, rfl, w⟩ := reps1 r1
      cases w with
      | tup h q =>
        obtain ⟨its, rv, pl, hz⟩ := I.tuple (k.sub.t h)
        have hf := likes_fits hl
        obtain ⟨as, hr⟩ := Dp.readsAll I _ _ its (q.dp k.sub 50 hf) rv
        have hd := depth_all hf
        rw [Vals.ref1 rs]
        refine W.max_tuple_data (I.ok.hd hc) pl hr (likes_all hl) (by simp only [D.pys] at hd; omega) fun i v h' tk bs hi hv hk => ?_
        exact pick_of (s := s) (I.kept hk) k rv q hf (D.maxD_mem _ _) (by simpa using hi) (by rw [D.maxD_py, ← D.pys_map]; exact hv) gv
    · cases e
  · cases e
theorem c_min (hc : X.calm = true) (hu : X.A.units + 65 < cLine) : CallR X (.builtin "min") (rN X.K g hMin) := by
  intro pins s σ H xs us Q I rs z
  obtain ⟨F, μ, st, ds, d, k, r1, e, gv⟩ := z
  unfold hMin at e
  split at e
  · cases e
    obtain ⟨v, w, rfl, a, b⟩ := reps2 r1
    cases a; cases b
    exact call_min2 hc pins s σ H _ us Q I rs ⟨_, _, rfl, gv_now gv k (.int _)⟩
  · split at e
    · rename_i hl
      cases e
      obtain ⟨v, rfl, w⟩ := reps1 r1
      cases w with
      | lst h q =>
        obtain ⟨its, rv, pl, hz⟩ := I.list (.inl (.inl (k.sub _ _ h)))
        have hf := likes_fits hl
        obtain ⟨as, hr⟩ := Dp.readsAll I _ _ its (q.dp k.sub 50 hf) rv
        have hd := depth_all hf
        rw [Vals.ref1 rs]
        refine W.min_list_data (I.ok.hd hc) pl.isList hr (likes_all hl) (by simp only [D.pys] at hd; omega) fun i v h' tk bs hi hv hk => ?_
        exact pick_of (s := s) (I.kept hk) k rv q hf (D.minD_mem _ _) (by simpa using hi) (by rw [D.minD_py, ← D.pys_map]; exact hv) gv
    · cases e
  · split at e
    · rename_i hl
      cases e
      obtain ⟨v, rfl, w⟩ := reps1 r1
      cases w with
      | tup h q =>
        obtain ⟨its, rv, pl, hz⟩ := I.tuple (k.sub.t h)
        have hf := likes_fits hl
        obtain ⟨as, hr⟩ := Dp.readsAll I _ _ its (q.dp k.sub 50 hf) rv
        have hd := depth_all hf
        rw [Vals.ref1 rs]
        refine W.min_tuple_data (I.ok.hd hc) pl hr (likes_all hl) (by simp only [D.pys] at hd; omega) fun i v h' tk bs hi hv hk => ?_
        exact pick_of (s := s) (I.kept hk) k rv q hf (D.minD_mem _ _) (by simpa using hi) (by rw [D.minD_py, ← D.pys_map]; exact hv) gv
    · cases e
  · cases e
/-- the ints of a row -/
def D.ints : List D → Option (List Int)
  | [] => some []
  | .int i :: r => (D.ints r).map (i :: ·)
  | _ :: _ => none
theorem D.ints_eq : ∀ {ds : List D} {ns : List Int}, D.ints ds = some ns → ds = ns.map D.int
  | [], ns, h => by
    simp only [D.ints, Option.some.injEq] at h
    subst h
    rfl
  | d :: r, ns, h => by
    cases d with
    | int i =>
      simp only [D.ints] at h
      cases q : D.ints r with
      | none => rw [q] at h; cases h
      | some ms =>
        rw [q] at h
        cases h
        rw [D.ints_eq q]
        rfl
    | _ => simp [D.ints] at h
theorem D.ints_map : ∀ ns : List Int, D.ints (ns.map D.int) = some ns
  | [] => rfl
  | n :: ns => by
    show (D.ints (ns.map D.int)).map (n :: ·) = _
    rw [D.ints_map ns]
    rfl
theorem Reps.ints {K : PySem.W.Frag} {F : Hp} {μ : List Addr} : ∀ {vs : List V} {ns : List Int}, Reps K F μ vs (ns.map D.int) → vs = ns.map V.int
  | _, [], h => by
    cases h
    rfl
  | _, n :: ns, h => by
    cases h with
    | cons h r =>
      cases h
      rw [Reps.ints r]
      rfl
def hSum : FN := fun _ xs => match xs with
  | [.lst xs] => (D.ints xs).map fun ns => .int ns.sum
  | _ => none
theorem c_sum (hc : X.calm = true) : CallR X (.builtin "sum") (rN X.K g hSum) := cn_of (cr_sum hc) fun F μ H st ds d xs Q k r e gv => by
  unfold hSum at e
  split at e
  · cases q : D.ints _ with
    | none => rw [q] at e; cases e
    | some ns =>
      rw [q] at e; cases e
      rw [D.ints_eq q] at r
      obtain ⟨v, rfl, w⟩ := reps1 r
      cases w with
      | lst h q2 =>
        rw [q2.ints] at h
        exact ⟨_, ns, rfl, .inl (.inl (k.sub _ _ h)), gv_now gv k (.int _)⟩
  · cases e

/-! ### sorted -/
def sortable (ds : List D) : Bool := ds.all (fun d => match d with | .tup (_ :: _) => true | _ => false) || ds.all fun d => match d with | .tup _ => false | .non => false | _ => true
def hSorted : FN := fun _ xs => match xs with
  | [.lst ds] => if likes ds && sortable ds then some (.lst (ds.mergeSort (dataLe false D.py))) else none
  | _ => none
theorem each_of {K : PySem.W.Frag} {F : Hp} {μ : List Addr} : ∀ {vs : List V} {us : List Value} {ds : List D}, Vals vs us → Reps K F μ vs ds → EachIs (fun u d => ∃ v, RelV v u ∧ Rep K F μ v d) us ds
  | _, _, _, .nil, .nil => .nil
  | _, _, _, .cons r t, .cons h q => .cons ⟨_, r, h⟩ (each_of t q)
theorem each_back {K : PySem.W.Frag} {F : Hp} {μ : List Addr} : ∀ {us : List Value} {ds : List D}, EachIs (fun u d => ∃ v, RelV v u ∧ Rep K F μ v d) us ds → ∃ vs, Vals vs us ∧ Reps K F μ vs ds
  | _, _, .nil => ⟨[], .nil, .nil⟩
  | _, _, .cons ⟨v, r, h⟩ t => by
    obtain ⟨vs, h1, h2⟩ := each_back t
    exact ⟨v :: vs, .cons r h1, .cons h h2⟩
theorem each_imp {α β : Type} {R S : α → β → Prop} : ∀ {us : List α} {ds : List β}, EachIs R us ds → (∀ u d, d ∈ ds → R u d → S u d) → EachIs S us ds
  | _, _, .nil, _ => .nil
  | _, _, .cons h t, f => .cons (f _ _ List.mem_cons_self h) (each_imp t fun u d hd => f u d (List.mem_cons_of_mem _ hd))
theorem c_sorted (hu : X.A.units + 65 < cLine) : CallR X (.builtin "sorted") (rN X.K g hSorted) := by
  intro pins s σ H xs us Q I rs z
  obtain ⟨F, μ, st, ds, d, k, r1, e, gv⟩ := z
  unfold hSorted at e
  split at e
  · rename_i ds
    split at e
    · rename_i hl
      simp only [Bool.and_eq_true] at hl
      cases e
      obtain ⟨v, rfl, w⟩ := reps1 r1
      cases w with
      | @lst a vs _ h q =>
        obtain ⟨its, rv, pl, hz⟩ := I.list (.inl (.inl (k.sub _ _ h)))
        have hf := likes_fits hl.1
        have la := likes_all hl.1
        have ee := each_of rv q
        have ql := q.length
        rw [Vals.ref1 rs]
        refine W.sorted_data (enc := D.py) pl.isList ee (each_imp ee fun u d hd ⟨v, r, h⟩ => ?_) (fun x hx y hy => ?_) ?_ (by omega) (fun b hb => ?_) fun out hlen eo => ?_
        · exact Dp.reads I _ v u (h.dp k.sub 50 (D.fits_mem hf hd)) r
        · rw [← D.pys_map] at hx hy
          exact la.1 x hx y hy
        · have hs := hl.2
          unfold sortable at hs
          simp only [Bool.or_eq_true, List.all_eq_true] at hs
          rcases hs with hs | hs
          · refine .inl fun x hx => ?_
            obtain ⟨d, hd, rfl⟩ := List.mem_map.mp hx
            have z := hs d hd
            cases d with
            | tup zs =>
              cases zs with
              | nil => simp at z
              | cons z1 zs => exact ⟨z1.py, D.pys zs, by simp only [D.py, D.pys]⟩
            | _ => simp at z
          · refine .inr fun x hx => ?_
            obtain ⟨d, hd, rfl⟩ := List.mem_map.mp hx
            have z := hs d hd
            cases d <;> simp [D.py] at z ⊢
        · have z := (D.fit_py 50 b (D.fits_mem hf hb)).2
          omega
        · obtain ⟨ws, h1, h2⟩ := each_back eo
          obtain ⟨c, hc⟩ := sortedAll_at s.heap its out.toArray
          have hl1 := h1.length
          have hp : H (s.heap.objs.size + 1) = none := I.hok.fresh (Nat.le_succ _)
          refine ⟨.ref (s.heap.objs.size + 1), upd H (s.heap.objs.size + 1) (.lst ws), ?_, rfl, gv_lst gv k h2 hp⟩
          exact I.laid (t' := s.toks) (fun b o e => sortedAll_old e) (Nat.le_succ _) ⟨by rw [hl1, hlen]; omega, out, c, h1, hc⟩
    · cases e
  · cases e
end
end DV

set_option Elab.async false
set_option linter.all false
set_option maxRecDepth 100000
set_option maxHeartbeats 1000000
namespace DV
open PySem PySem.Spec PyProof.Rows L2

/-! ### tests -/
section
variable {g : Gp} {X : Cx} {B : Bs} {Z : ZZ} {e a b c : Expr} {es rest : List Expr} {f fa fb fc : EF} {fr : AF} {ft fu fv : TF} {pos : Pos}
def truth (st : List O) : D → Option Bool
  | .non => some false
  | .bl b => some b
  | .int i => some (i != 0)
  | .str x => if szOk x.length then some ((x.length : Int) != 0) else none
  | .lst xs => some (!xs.isEmpty)
  | .frz xs => some (!xs.isEmpty)
  | .tup xs => some (!xs.isEmpty)
  | .dct _ => none
  | .ref n => match st[n]? with
    | some (.lst xs) => some (!xs.isEmpty)
    | none => none
def ofB (o : Option Bool) (st : List O) : R Bool := match o with
  | some b => .ok b st
  | none => .bad
def tVal (f : EF) : TF := fun env st => (f env st).bind fun d st1 => ofB (truth st1 d) st1
theorem Reps.emp {K : PySem.W.Frag} {F : Hp} {μ : List Addr} {vs : List V} {ds : List D} (h : Reps K F μ vs ds) : vs.isEmpty = ds.isEmpty := by
  cases h <;> rfl
theorem truth_ok {K : PySem.W.Frag} {F : Hp} {μ : List Addr} {H : Hp} {st : List O} {v : V} {d : D} {b : Bool} (k : Ok K g F μ H st) (r : Rep K F μ v d) (h : truth st d = some b) : TruV K v H b := by
  unfold truth at h
  split at h
  · cases h; cases r; rfl
  · cases h; cases r; rfl
  · cases h; cases r; rfl
  · split at h
    · rename_i hz
      cases h; cases r
      exact ⟨szOk_line hz, rfl⟩
    · cases h
  · cases h
    cases r with
    | lst h q => exact .inl ⟨_, .inl (.inl (k.sub _ _ h)), by rw [q.emp]⟩
  · cases h
    cases r with
    | frz h q => exact .inl ⟨_, k.sub.l h, by rw [q.emp]⟩
  · cases h
    cases r with
    | tup h q => exact .inr (.inl ⟨_, k.sub.t h, by rw [q.emp]⟩)
  · cases h
  · split at h
    · rename_i ys hy
      cases h
      cases r with
      | ref hn =>
        obtain ⟨vs, e1, q⟩ := k.obj _ _ _ hn hy
        exact .inl ⟨_, .inl (.inl e1), by rw [q.emp]⟩
    · cases h
theorem aft_ofB {K : PySem.W.Frag} {F : Hp} {μ : List Addr} {H : Hp} {st : List O} {o : Option Bool} {P : Bool → List O → Hp → List Addr → Hp → Prop} (h : Aft K g F μ H Z (ofB o st) P) : ∃ d, o = some d ∧ Aft K g F μ H Z (.ok d st) P := by
  cases o with
  | none => exact h.elim
  | some d => exact ⟨d, rfl, h⟩
/-- any value by its truth -/
theorem dt_val (ha : DE g X B Z a fa) (he : ∀ whole, isTrue a X.env whole = (do let v ← whole; standAt a.pos; holding [v] (truthy v)) := by intro _; rfl) : DT g X B Z a (tVal fa) :=
  PT.imp (pt_truth ha he) fun σ H Q z => by
    obtain ⟨env, F, μ, st, r, z⟩ := z
    refine tD_of r z.bind fun d s v F1 μ1 H1 x1 r1 h1 rv => ?_
    obtain ⟨y, e, h1⟩ := aft_ofB h1
    exact ⟨y, truth_ok r1.ok rv e, h1.here r1.ok⟩
/-- a comparison, as a test: its answer is a truth value -/
def tCmpD (h : F2) (fa fb : EF) : TF := fun env st => (eOp h fa fb env st).bind fun d st1 => match d with
  | .bl b => .ok b st1
  | _ => .bad
theorem dt_cmp {op : CmpOp} {h : F2} (ho : OpR X (compareOp op) (r2 X.K g h)) (ha : DE g X B Z a fa) (hb : DE g X B Z b fb) (hm : behindInMarks op b = false) : DT g X B Z (.Compare a [op] [b] pos) (tCmpD h fa fb) :=
  PT.imp (pt_cmpR ho ha hb hm) fun σ H Q z => by
    obtain ⟨env, F, μ, st, r, z⟩ := z
    refine op_of σ H _ ⟨env, F, μ, st, r, z.bind.mono fun d s F' μ' H' _ _ k h v rv => ?_⟩
    cases d <;> first
      | exact h.elim
      | (cases rv; exact ⟨_, rfl, h.here k⟩)
/-- two comparisons in a row -/
def eChain (h h' : F2) (fa fb fc : EF) : EF := fun env st => (fa env st).bind fun x st1 => (fb env st1).bind fun y st2 => match h st2 x y with
  | some (.bl true) => (fc env st2).bind fun z st3 => .of (h' st3 y z) st3
  | some (.bl false) => .ok (.bl false) st2
  | _ => .bad
theorem chain_of {K : PySem.W.Frag} {h h' : F2} : ∀ σ H Q, tD K g B Z (eChain h h' fa fb fc) σ H Q → tChain (r2 K g h) (r2 K g h') (tD K g B Z fa) (tD K g B Z fb) (tD K g B Z fc) σ H Q := fun σ H Q z => by
  obtain ⟨env, F, μ, st, r, z⟩ := z
  refine tD_of r z.bind fun d s v F1 μ1 H1 x1 r1 h1 rv => ?_
  refine tD_of r1 h1.bind fun d2 s2 w F2 μ2 H2 x2 r2 h2 rw2 => ?_
  split at h2
  · rename_i e
    refine ⟨F2, μ2, s2, d, d2, _, r2.ok, rv.mono x2.sub x2.pre, rw2, e, fun F' H' v' x k rr => ?_⟩
    cases rr
    refine ⟨true, rfl, ?_⟩
    rw [if_pos rfl]
    have r3 := r2.step x k
    have h3 : Aft K g F' μ2 H' Z ((fc env s2).bind fun z st3 => R.of (h' st3 d2 z) st3) _ := Aft.shift h2 x
    refine tD_of r3 h3.bind fun d3 s3 w3 F3 μ3 H3 x3 r4 h4 rw3 => ?_
    obtain ⟨y, e, h4⟩ := aft_of h4
    exact ⟨F3, μ3, s3, d2, d3, y, r4.ok, rw2.mono (x.trans x3).sub (x.trans x3).pre, rw3, e, fun F' H' v' x k rr => h4 F' μ3 H' x k v' rr⟩
  · rename_i e
    refine ⟨F2, μ2, s2, d, d2, _, r2.ok, rv.mono x2.sub x2.pre, rw2, e, fun F' H' v' x k rr => ?_⟩
    cases rr
    refine ⟨false, rfl, ?_⟩
    rw [if_neg Bool.false_ne_true]
    exact h2 F' μ2 H' x k _ (.bl false)
  · exact h2.elim
end
end DV

set_option Elab.async false
set_option linter.all false
set_option maxRecDepth 100000
set_option maxHeartbeats 1000000
namespace DV
open PySem PySem.Spec PyProof.Rows L2
section
variable {g : Gp} {X : Cx} {B : Bs} {Z : ZZ} {e a b c : Expr} {es rest : List Expr} {f fa fb fc : EF} {fr : AF} {ft fu fv : TF} {pos : Pos}
/-! ### and, or, not -/
def tAnd2 (t u : TF) : TF := fun env st => (t env st).bind fun b st1 => if b then u env st1 else .ok false st1
def tOr2 (t u : TF) : TF := fun env st => (t env st).bind fun b st1 => if b then .ok true st1 else u env st1
def tNot1 (t : TF) : TF := fun env st => (t env st).bind fun b st1 => .ok (!b) st1
theorem dw_and1 (ha : DT g X B Z a ft) : DW g X B Z (.BoolOp .And [a] pos) ft := pw_and1 ha
theorem dw_or1 (ha : DT g X B Z a ft) : DW g X B Z (.BoolOp .Or [a] pos) ft := pw_or1 ha
theorem dw_and (ha : DT g X B Z a ft) (hb : DW g X B Z (.BoolOp .And (b :: rest) pos) fu) : DW g X B Z (.BoolOp .And (a :: b :: rest) pos) (tAnd2 ft fu) :=
  PW.imp (pw_and ha hb) fun σ H Q z => by
    obtain ⟨env, F, μ, st, r, z⟩ := z
    refine tT_of r z.bind fun d s F1 μ1 H1 x1 r1 h1 => ?_
    cases d with
    | true => exact ⟨env, F1, μ1, s, r1, h1⟩
    | false => exact h1.here r1.ok
theorem dw_or (ha : DT g X B Z a ft) (hb : DW g X B Z (.BoolOp .Or (b :: rest) pos) fu) : DW g X B Z (.BoolOp .Or (a :: b :: rest) pos) (tOr2 ft fu) :=
  PW.imp (pw_or ha hb) fun σ H Q z => by
    obtain ⟨env, F, μ, st, r, z⟩ := z
    refine tT_of r z.bind fun d s F1 μ1 H1 x1 r1 h1 => ?_
    cases d with
    | true => exact h1.here r1.ok
    | false => exact ⟨env, F1, μ1, s, r1, h1⟩
theorem dt_w (h : DW g X B Z a ft) : DT g X B Z a ft := PW.pt h
theorem dt_not (ha : DT g X B Z a ft) : DT g X B Z (.UnaryOp .Not a pos) (tNot1 ft) := PT.imp (pt_not ha) fun σ H Q z => by
  obtain ⟨env, F, μ, st, r, z⟩ := z
  exact tT_of r z.bind fun d s F1 μ1 H1 x1 r1 h1 => h1.here r1.ok
/-- as values: all but the last are truth values -/
def eAnd (f : EF) (r : EF) : EF := fun env st => (f env st).bind fun d st1 => match d with
  | .bl true => r env st1
  | .bl false => .ok (.bl false) st1
  | _ => .bad
def eOr (f : EF) (r : EF) : EF := fun env st => (f env st).bind fun d st1 => match d with
  | .bl true => .ok (.bl true) st1
  | .bl false => r env st1
  | _ => .bad
def eNot (f : EF) : EF := fun env st => (f env st).bind fun d st1 => match d with
  | .bl b => .ok (.bl (!b)) st1
  | _ => .bad
theorem de_one {op} (ha : DE g X B Z a fa) : DE g X B Z (.BoolOp op [a] pos) fa := pe_one ha
theorem de_and (ha : DE g X B Z a fa) (hb : DE g X B Z (.BoolOp .And (b :: rest) pos) fb) : DE g X B Z (.BoolOp .And (a :: b :: rest) pos) (eAnd fa fb) :=
  PE.imp (pe_and ha hb) fun σ H Q z => by
    obtain ⟨env, F, μ, st, r, z⟩ := z
    refine tD_of r z.bind fun d s v F1 μ1 H1 x1 r1 h1 rv => ?_
    split at h1
    · cases rv
      refine ⟨true, rfl, ?_⟩
      rw [if_pos rfl]
      exact ⟨env, F1, μ1, s, r1, h1⟩
    · cases rv
      refine ⟨false, rfl, ?_⟩
      rw [if_neg Bool.false_ne_true]
      exact h1.here r1.ok _ (.bl false)
    · exact h1.elim
theorem de_or (ha : DE g X B Z a fa) (hb : DE g X B Z (.BoolOp .Or (b :: rest) pos) fb) : DE g X B Z (.BoolOp .Or (a :: b :: rest) pos) (eOr fa fb) :=
  PE.imp (pe_or ha hb) fun σ H Q z => by
    obtain ⟨env, F, μ, st, r, z⟩ := z
    refine tD_of r z.bind fun d s v F1 μ1 H1 x1 r1 h1 rv => ?_
    split at h1
    · cases rv
      refine ⟨true, rfl, ?_⟩
      rw [if_pos rfl]
      exact h1.here r1.ok _ (.bl true)
    · cases rv
      refine ⟨false, rfl, ?_⟩
      rw [if_neg Bool.false_ne_true]
      exact ⟨env, F1, μ1, s, r1, h1⟩
    · exact h1.elim
theorem de_not (ha : DE g X B Z a fa) : DE g X B Z (.UnaryOp .Not a pos) (eNot fa) := PE.imp (pe_not ha) fun σ H Q z => by
  obtain ⟨env, F, μ, st, r, z⟩ := z
  refine tD_of r z.bind fun d s v F1 μ1 H1 x1 r1 h1 rv => ?_
  split at h1
  · cases rv
    exact ⟨_, rfl, h1.here r1.ok _ (.bl _)⟩
  · exact h1.elim
def eIf (t : TF) (f h : EF) : EF := fun env st => (t env st).bind fun b st1 => if b then f env st1 else h env st1
theorem de_if (hc : DT g X B Z c ft) (ha : DE g X B Z a fa) (hb : DE g X B Z b fb) : DE g X B Z (.IfExp c a b pos) (eIf ft fa fb) := PE.imp (pe_ifExp hc ha hb) fun σ H Q z => by
  obtain ⟨env, F, μ, st, r, z⟩ := z
  refine tT_of r z.bind fun d s F1 μ1 H1 x1 r1 h1 => ?_
  cases d with
  | true => exact ⟨env, F1, μ1, s, r1, h1⟩
  | false => exact ⟨env, F1, μ1, s, r1, h1⟩
theorem de_chain {op op' : CmpOp} {h h' : F2} (ho : OpR X (compareOp op) (r2 X.K g h)) (ho' : OpR X (compareOp op') (r2 X.K g h')) (ha : DE g X B Z a fa) (hb : DE g X B Z b fb) (hc : DE g X B Z c fc) (hm : lastMarks [op, op'] [b, c] = false := by rfl) :
    DE g X B Z (.Compare a [op, op'] [b, c] pos) (eChain h h' fa fb fc) := PE.imp (pe_chain ho ho' ha hb hc hm) chain_of
def tOfE (f : EF) : TF := fun env st => (f env st).bind fun d st1 => match d with
  | .bl b => .ok b st1
  | _ => .bad
theorem dt_chain {op op' : CmpOp} {h h' : F2} (ho : OpR X (compareOp op) (r2 X.K g h)) (ho' : OpR X (compareOp op') (r2 X.K g h')) (ha : DE g X B Z a fa) (hb : DE g X B Z b fb) (hc : DE g X B Z c fc) (hm : lastMarks [op, op'] [b, c] = false := by rfl) :
    DT g X B Z (.Compare a [op, op'] [b, c] pos) (tOfE (eChain h h' fa fb fc)) := PT.imp (pt_chain ho ho' ha hb hc hm) fun σ H Q z => by
  obtain ⟨env, F, μ, st, r, z⟩ := z
  refine chain_of σ H _ ⟨env, F, μ, st, r, z.bind.mono fun d s F' μ' H' _ _ k h v rv => ?_⟩
  cases d <;> first
    | exact h.elim
    | (cases rv; exact ⟨_, rfl, h.here k⟩)

/-! ### calls of built-in functions, of the text's own -/
theorem de_callB {x : Str} {ids : String} {h : FN} {p : Pos} (hc : CallR X (.builtin ids) (rN X.K g h)) (hg : Gl X x) (hm : X.mg x = none) (hv : bootBuiltins x = some (.builtin ids)) (ha : DA g X B Z (e :: es) fr)
    (hn : x ≠ "__name__" := by decide) (hd : (x == ("__debug__" : Str)) = false := by decide) (he : starEach (e :: es) X.env = (false, eval e X.env) :: starEach es X.env := by rfl) (hpl : (backTo pos (starEach es X.env)).any (·.1) = false := by rfl) :
    DE g X B Z (.Call (.Name x p) (e :: es) [] pos) (eN h fr) := PE.imp (pe_callB hc hg hm hv ha hn hd he hpl) n_of
theorem de_callT {x : Str} {T : String} {h : FN} {p : Pos} (hc : CallR X (.type T) (rN X.K g h)) (hg : Gl X x) (hm : X.mg x = none) (hv : bootBuiltins x = some (.type T)) (ha : DA g X B Z (e :: es) fr)
    (hn : x ≠ "__name__" := by decide) (hd : (x == ("__debug__" : Str)) = false := by decide) (he : starEach (e :: es) X.env = (false, eval e X.env) :: starEach es X.env := by rfl) (hpl : (backTo pos (starEach es X.env)).any (·.1) = false := by rfl) :
    DE g X B Z (.Call (.Name x p) (e :: es) [] pos) (eN h fr) := PE.imp (pe_callTy hc hg hm hv ha hn hd he hpl) n_of
/-- a def on data -/
abbrev Fn := List D → List O → R D
def EffE (K : PySem.W.Frag) (g : Gp) (B : Bs) (Z : ZZ) : XK := fun cv d H' => d = none ∧ ∃ c st F' μ', cv = g.ec c ∧ Z c st ∧ Go B.F B.μ B.H F' μ' H' ∧ Ok K g F' μ' H' st
def spD (K : PySem.W.Frag) (g : Gp) (n : Nat) (f : Fn) : Sp := fun vs H Q E => ∃ F μ st ds, Ok K g F μ H st ∧ Reps K F μ vs ds ∧ vs.length = n ∧ (match f ds st with
  | .ok d st' => ∀ F' μ' H', Go F μ H F' μ' H' → Ok K g F' μ' H' st' → ∀ v, Rep K F' μ' v d → Q v H'
  | .exc c st' => ∀ F' μ' H', Go F μ H F' μ' H' → Ok K g F' μ' H' st' → E (g.ec c) none H'
  | .bad => False)
def eCallD (f : Fn) (dds : List D) (r : AF) : EF := fun env st => (r env st).bind fun ds st1 => f (ds ++ dds) st1
def eCall (f : Fn) (r : AF) : EF := fun env st => (r env st).bind fun ds st1 => f ds st1
theorem eCall_eq (f : Fn) (r : AF) : eCall f r = eCallD f [] r := by
  funext env st
  unfold eCall eCallD
  simp only [List.append_nil]
theorem call_of {K : PySem.W.Frag} {n : Nat} {fn : Fn} {dvs : List V} {dds : List D} (hdv : ∀ F μ, Reps K F μ dvs dds) (hn : ∀ ds st, fn ds st ≠ .bad → ds.length = n) : ∀ σ H Q, tD K g B Z (eCallD fn dds fr) σ H Q → tCall (spD K g n fn) dvs (EffE K g B Z) (tA K g B Z fr) σ H Q := fun σ H Q z => by
  obtain ⟨env, F, μ, st, r, z⟩ := z
  refine tA_of r z.bind fun ds s vs F1 μ1 H1 x1 r1 h1 rs => ?_
  have q := rs.append (hdv F1 μ1)
  have hl := q.length
  cases hf : fn (ds ++ dds) s with
  | ok d s2 =>
    rw [hf] at h1
    refine ⟨F1, μ1, s, ds ++ dds, r1.ok, q, by rw [hl]; exact hn _ s (by rw [hf]; simp), ?_⟩
    rw [hf]
    exact h1
  | exc c s2 =>
    rw [hf] at h1
    refine ⟨F1, μ1, s, ds ++ dds, r1.ok, q, by rw [hl]; exact hn _ s (by rw [hf]; simp), ?_⟩
    rw [hf]
    exact fun F' μ' H' x k => ⟨rfl, c, s2, F', μ', rfl, h1, r1.go.trans x, k⟩
  | bad =>
    rw [hf] at h1
    exact h1.elim
theorem de_callD {CX : CXT} {k n : Nat} {fa : Addr} {fd : FuncData} {ps : List Str} {fn : Fn} {dvs : List V} {dds : List D} {ds : List Value} {x : Str} {p : Pos} (F : FnOk X.prog X.w X.K X.mg X.base CX k fa fd ps (spD X.K g n fn)) (hn : ∀ ds st, fn ds st ≠ .bad → ds.length = n)
    (hr : Room k X.A) (hg : Gl X x) (hm : X.mg x = some (.ref fa)) (hk : PySem.W.keepIn X.K (.ref fa) = true) (hb : Binds X.K fd ps ds) (hd : Vals dvs ds) (hdv : ∀ F μ, Reps X.K F μ dvs dds) (hx : Passes CX X (EffE X.K g B Z)) (ha : DA g X B Z (e :: es) fr)
    (hdb : (x == ("__debug__" : Str)) = false := by decide) (he : starEach (e :: es) X.env = (false, eval e X.env) :: starEach es X.env := by rfl) (hpl : (backTo pos (starEach es X.env)).any (·.1) = false := by rfl) :
    DE g X B Z (.Call (.Name x p) (e :: es) [] pos) (eCallD fn dds fr) := PE.imp (pe_call F hr hg hm hk hb hd hx ha hdb he hpl) (call_of hdv hn)
theorem de_call0D {CX : CXT} {k n : Nat} {fa : Addr} {fd : FuncData} {ps : List Str} {fn : Fn} {dvs : List V} {dds : List D} {ds : List Value} {x : Str} {p : Pos} (F : FnOk X.prog X.w X.K X.mg X.base CX k fa fd ps (spD X.K g n fn)) (hn : ∀ ds st, fn ds st ≠ .bad → ds.length = n)
    (hr : Room k X.A) (hg : Gl X x) (hm : X.mg x = some (.ref fa)) (hk : PySem.W.keepIn X.K (.ref fa) = true) (hb : Binds X.K fd ps ds) (hd : Vals dvs ds) (hdv : ∀ F μ, Reps X.K F μ dvs dds) (hx : Passes CX X (EffE X.K g B Z))
    (hdb : (x == ("__debug__" : Str)) = false := by decide) :
    DE g X B Z (.Call (.Name x p) [] [] pos) (eCallD fn dds aNil) := PE.imp (pe_call0 F hr hg hm hk hb hd hx hdb) fun σ H Q z => by
  have q := call_of (fr := aNil) hdv hn σ H Q z
  obtain ⟨env, F, μ, st, r, z⟩ := q
  exact (Aft.here (a := []) z r.ok) [] .nil

/-! ### statements -/
inductive RS where
  | nx (env : List Sl) (st : List O) | rt (d : D) (st : List O) | bk (env : List Sl) (st : List O) | ct (env : List Sl) (st : List O) | exc (c : Nat) (st : List O) | bad
abbrev SF := List Sl → List O → RS
def Hd (hw : Hp) (mw : List Addr) (F : Hp) (μ : List Addr) : Prop := RdSub hw F ∧ Pre mw μ
theorem Hd.go {hw : Hp} {mw : List Addr} {F F' : Hp} {μ μ' : List Addr} {H H' : Hp} (h : Hd hw mw F μ) (x : Go F μ H F' μ' H') : Hd hw mw F' μ' := by
  refine ⟨h.1.trans x.sub, ?_⟩
  obtain ⟨m1, rfl⟩ := h.2
  obtain ⟨m2, rfl⟩ := x.pre
  exact ⟨m1 ++ m2, by rw [List.append_assoc]⟩
theorem Hd.refl (F : Hp) (μ : List Addr) : Hd F μ F μ := ⟨RdSub.refl F, Pre.refl μ⟩
/-- what is wanted of a statement's end: D the ends; hw, mw: what stays frozen -/
def AftS (K : PySem.W.Frag) (g : Gp) (B : Bs) (Z : ZZ) (hw : Hp) (mw : List Addr) (r : RS) (D : Ends) : Prop := match r with
  | .nx env st => ∀ F μ H σ, Rl K g B F μ H env st σ → Hd hw mw F μ → D.nx σ H
  | .rt d st => ∀ F μ H v, Ok K g F μ H st → Go B.F B.μ B.H F μ H → Rep K F μ v d → D.rt v H
  | .bk env st => ∀ F μ H σ, Rl K g B F μ H env st σ → Hd hw mw F μ → D.bk σ H
  | .ct env st => ∀ F μ H σ, Rl K g B F μ H env st σ → Hd hw mw F μ → D.ct σ H
  | .exc c st => Z c st
  | .bad => False
def tS (K : PySem.W.Frag) (g : Gp) (B : Bs) (Z : ZZ) (f : SF) : TS := fun D σ H => ∃ hw mw env F μ st, Rl K g B F μ H env st σ ∧ Hd hw mw F μ ∧ AftS K g B Z hw mw (f env st) D
def DS (g : Gp) (X : Cx) (B : Bs) (Z : ZZ) (s : Stmt) (f : SF) : Prop := PS X s (tS X.K g B Z f)
def DSs (g : Gp) (X : Cx) (B : Bs) (Z : ZZ) (s : List Stmt) (f : SF) : Prop := PSs X s (tS X.K g B Z f)
theorem PS.imp {X : Cx} {e : Stmt} {t t' : TS} (h : PS X e t) (q : ∀ D σ H, t' D σ H → t D σ H) : PS X e t' := ⟨fun pins s σ H D I z => h.run pins s σ H D I (q D σ H z)⟩
theorem PSs.imp {X : Cx} {e : List Stmt} {t t' : TS} (h : PSs X e t) (q : ∀ D σ H, t' D σ H → t D σ H) : PSs X e t' := ⟨fun pins s σ H D I z => h.run pins s σ H D I (q D σ H z)⟩
variable {s : Stmt} {ss sb sc : List Stmt} {fs gs hs : SF}
def sNx : SF := .nx
def sSeq (f h : SF) : SF := fun env st => match f env st with
  | .nx env st => h env st
  | r => r
theorem dss_nil : DSs g X B Z [] sNx := PSs.imp pss_nil fun D σ H ⟨hw, mw, env, F, μ, st, r, d, h⟩ => h F μ H σ r d
theorem dss_cons (h1 : DS g X B Z s fs) (h2 : DSs g X B Z ss gs) : DSs g X B Z (s :: ss) (sSeq fs gs) := PSs.imp (pss_cons h1 h2) fun D σ H ⟨hw, mw, env, F, μ, st, r, d, h⟩ => by
  refine ⟨hw, mw, env, F, μ, st, r, d, ?_⟩
  unfold sSeq at h
  cases q : fs env st with
  | nx env' st' =>
    rw [q] at h
    exact fun F' μ' H' σ' r' d' => ⟨hw, mw, env', F', μ', st', r', d', h⟩
  | rt v st' => rw [q] at h; exact h
  | bk env' st' => rw [q] at h; exact h
  | ct env' st' => rw [q] at h; exact h
  | exc c st' => rw [q] at h; exact h
  | bad => rw [q] at h; exact h
theorem dss_one (h1 : DS g X B Z s fs) : DSs g X B Z [s] fs := pss_one h1
def RS.ofR {α : Type} (r : R α) (k : α → List O → RS) : RS := match r with
  | .ok a st => k a st
  | .exc c st => .exc c st
  | .bad => .bad
/-- an expression ahead of what a statement does -/
theorem AftS.ofR {K : PySem.W.Frag} {F : Hp} {μ : List Addr} {H : Hp} {hw : Hp} {mw : List Addr} {α : Type} {r : R α} {k : α → List O → RS} {D : Ends} (h : AftS K g B Z hw mw (RS.ofR r k) D) : Aft K g F μ H Z r fun a st _ _ _ => AftS K g B Z hw mw (k a st) D := by
  cases r with
  | ok a st => exact fun _ _ _ _ _ => h
  | exc c st => exact h
  | bad => exact h
theorem Rl.set {K : PySem.W.Frag} {F : Hp} {μ : List Addr} {H : Hp} {env : List Sl} {st : List O} {σ : St} (r : Rl K g B F μ H env st σ) {i : Nat} {v : V} {d : D} (rv : Rep K F μ v d) : Rl K g B F μ H (env.set i (.v d)) st (σ.set i (some v)) :=
  ⟨r.ok, r.sl.set rv, r.go, fun j ds a h1 h2 => by
    rcases get_set h1 with ⟨_, e2⟩ | ⟨ne, h1⟩
    · cases e2
    · rw [List.getElem?_set_ne ne] at h2
      exact r.lb j ds a h1 h2⟩
def sDrop (f : EF) : SF := fun env st => RS.ofR (f env st) fun _ st => .nx env st
theorem ds_expr (he : DE g X B Z e f) (hs : swapsWith e none pos.line X.env = pure false := by rfl) : DS g X B Z (.Expr e pos) (sDrop f) := PS.imp (ps_expr he hs) fun D σ H ⟨hw, mw, env, F, μ, st, r, d, h⟩ =>
  tD_of r (AftS.ofR h) fun _ s v F' μ' H' x r' p _ => p F' μ' H' σ r' (d.go x)
def sRet (f : EF) : SF := fun env st => RS.ofR (f env st) fun d st => .rt d st
theorem ds_ret (he : DE g X B Z e f) : DS g X B Z (.Return (some e) pos) (sRet f) := PS.imp (ps_ret he) fun D σ H ⟨hw, mw, env, F, μ, st, r, d, h⟩ =>
  tD_of r (AftS.ofR h) fun _ s v F' μ' H' x r' p rv => p F' μ' H' v r'.ok r'.go rv
def sRetN : SF := fun _ st => .rt .non st
theorem ds_retN : DS g X B Z (.Return none pos) sRetN := PS.imp ps_retN fun D σ H ⟨hw, mw, env, F, μ, st, r, d, h⟩ => h F μ H .non r.ok r.go .non
theorem ds_pass : DS g X B Z (.Pass pos) sNx := PS.imp ps_pass fun D σ H ⟨hw, mw, env, F, μ, st, r, d, h⟩ => h F μ H σ r d
def sBrk : SF := .bk
def sCont : SF := .ct
theorem ds_break : DS g X B Z (.Break pos) sBrk := PS.imp ps_break fun D σ H ⟨hw, mw, env, F, μ, st, r, d, h⟩ => h F μ H σ r d
theorem ds_continue : DS g X B Z (.Continue pos) sCont := PS.imp ps_continue fun D σ H ⟨hw, mw, env, F, μ, st, r, d, h⟩ => h F μ H σ r d
def sIf (t : TF) (f h : SF) : SF := fun env st => RS.ofR (t env st) fun b st => if b then f env st else h env st
theorem ds_if (hc : DT g X B Z c ft) (ha : DSs g X B Z sb fs) (hb : DSs g X B Z sc gs) : DS g X B Z (.If c sb sc pos) (sIf ft fs gs) := PS.imp (ps_if hc ha hb) fun D σ H ⟨hw, mw, env, F, μ, st, r, d, h⟩ =>
  tT_of r (AftS.ofR h) fun b s F' μ' H' x r' p => by
    cases b with
    | true => exact ⟨hw, mw, env, F', μ', s, r', d.go x, p⟩
    | false => exact ⟨hw, mw, env, F', μ', s, r', d.go x, p⟩
def sSet (i : Nat) (f : EF) : SF := fun env st => RS.ofR (f env st) fun v st => .nx (env.set i (.v v)) st
theorem ds_set {i : Nat} {x : Str} {pos' : Pos} (hN : X.N.Nodup) (hi : X.N[i]? = some x) (hx : Loc X.env.scope x) (he : DE g X B Z e f) (hs : swapsWith e (some (.Name x pos')) pos.line X.env = pure false := by rfl)
    (hf : X.fn x = true ∨ X.env.scope.names.lookup x = some .local := by first | exact .inl rfl | exact .inr rfl | assumption) : DS g X B Z (.Assign [.Name x pos'] e pos) (sSet i f) := PS.imp (ps_set hN hi hx he hs hf) fun D σ H ⟨hw, mw, env, F, μ, st, r, d, h⟩ =>
  tD_of r (AftS.ofR h) fun _ s v F' μ' H' x r' p rv => p F' μ' H' _ (r'.set rv) (d.go x)
/-- code that is never come to -/
def sBad : SF := fun _ _ => .bad
theorem ds_never : DS g X B Z s sBad := PS.imp ps_never fun D σ H ⟨hw, mw, env, F, μ, st, r, d, h⟩ => h.elim
theorem dss_never : DSs g X B Z ss sBad := PSs.imp pss_never fun D σ H ⟨hw, mw, env, F, μ, st, r, d, h⟩ => h.elim
end
end DV

set_option Elab.async false
set_option linter.all false
set_option maxRecDepth 100000
set_option maxHeartbeats 1000000
namespace DV
open PySem PySem.Spec PyProof.Rows L2

/-! ### writes -/
section
variable {K : PySem.W.Frag} {g : Gp} {F F' F1 : Hp} {μ μ' μ1 : List Addr} {H H' H1 : Hp} {st st' : List O}
theorem tabs_mut {T : List (Addr × Str)} {p : Addr} {xs : List V} {o : HO} (t : LamX.Tabs T H) (hp : H p = some (.lst xs)) : LamX.Tabs T (upd H p o) := fun q hq => by
  obtain ⟨ps, h1, h2, h3⟩ := t q hq
  have ne : ∀ b u, H b = some u → u ≠ .lst xs → b ≠ p := fun b u e n z => by
    rw [z, hp] at e
    exact n (Option.some.inj e).symm
  refine ⟨ps, by rw [upd_ne (ne _ _ h1 (fun z => by cases z))]; exact h1, h2, fun pos cv hc => ?_⟩
  obtain ⟨c, e1, e2⟩ := h3 pos cv hc
  exact ⟨c, e1, by rw [upd_ne (ne _ _ e2 (fun z => by cases z))]; exact e2⟩
/-- a list that nobody else holds is changed -/
theorem Ok.mut (k : Ok K g F μ H st) {p : Addr} {xs : List V} {o : HO} (hF : F p = none) (hm : p ∉ μ) (hp : H p = some (.lst xs)) : Ok K g F μ (upd H p o) st where
  sub := fun a u h => by rw [upd_ne (fun z => by rw [z, hF] at h; cases h)]; exact k.sub a u h
  nt := k.nt
  len := k.len
  nd := k.nd
  dis := k.dis
  obj := fun n a ob h1 h2 => by
    have z := k.obj n a ob h1 h2
    have ne : a ≠ p := fun e => hm (by rw [← e]; exact List.mem_of_getElem? h1)
    cases ob with
    | lst ds =>
      obtain ⟨vs, e, r⟩ := z
      exact ⟨vs, by rw [upd_ne ne]; exact e, r⟩
  tab := tabs_mut k.tab hp
theorem Go.mut (x : Go F μ H F1 μ1 H1) {p : Addr} {ys : List V} (h : ¬ Live H p ∨ p ∈ μ) (hl : H1 p ≠ none) : Go F μ H F1 μ1 (upd H1 p (.lst ys)) where
  sub := x.sub
  new := x.new
  mem := x.mem
  keep := fun a u h1 h2 h3 => by
    rw [upd_ne (fun z => ?_)]
    · exact x.keep a u h1 h2 h3
    · subst z
      rcases h with h | h
      · exact h ⟨u, h1, h3⟩
      · exact h2 h
  live := fun a h1 => by
    by_cases e : a = p
    · subst e; exact live_lst upd_same
    · obtain ⟨u, q, n⟩ := x.live a h1; exact ⟨u, by rw [upd_ne e]; exact q, n⟩
theorem nodup_addr {l : List Addr} (hN : l.Nodup) {i j : Nat} {x : Addr} (a : l[i]? = some x) (b : l[j]? = some x) : i = j := by
  obtain ⟨h1, e1⟩ := List.getElem?_eq_some_iff.mp a
  obtain ⟨h2, e2⟩ := List.getElem?_eq_some_iff.mp b
  exact (List.getElem_inj hN).mp (e1.trans e2.symm)
/-- a thing of the store is changed -/
theorem Ok.store (k : Ok K g F μ H st) {n : Nat} {p : Addr} {ds : List D} {xs : List V} (hn : μ[n]? = some p) (hp : ∃ ys, H p = some (.lst ys)) (r : Reps K F μ xs ds) : Ok K g F μ (upd H p (.lst xs)) (st.set n (.lst ds)) where
  sub := fun a u h => by rw [upd_ne (fun z => by rw [z, k.dis p (List.mem_of_getElem? hn)] at h; cases h)]; exact k.sub a u h
  nt := k.nt
  len := by rw [List.length_set]; exact k.len
  nd := k.nd
  dis := k.dis
  obj := fun m a ob h1 h2 => by
    rcases get_set h2 with ⟨e1, e2⟩ | ⟨ne, h2⟩
    · subst e1
      subst e2
      rw [hn] at h1
      cases h1
      exact ⟨xs, upd_same, r⟩
    · have na : a ≠ p := fun e => ne (nodup_addr k.nd hn (by rw [← e]; exact h1))
      have z := k.obj m a ob h1 h2
      cases ob with
      | lst es =>
        obtain ⟨vs, e, q⟩ := z
        exact ⟨vs, by rw [upd_ne na]; exact e, q⟩
  tab := by
    obtain ⟨ys, hp⟩ := hp
    exact tabs_mut k.tab hp
/-- a list that nobody else holds stays as it is from now on -/
theorem Ok.frz (k : Ok K g F μ H st) {p : Addr} {xs : List V} (hF : F p = none) (hm : p ∉ μ) (hp : H p = some (.lst xs)) : RdSub F (upd F p (.lst xs)) ∧ Ok K g (upd F p (.lst xs)) μ H st := by
  have rs : RdSub F (upd F p (.lst xs)) := fun a u h => by
    rw [upd_ne (ne_of_none h hF)]
    exact h
  refine ⟨rs, ⟨fun a u h => ?_, fun a ps => ?_, k.len, k.nd, fun a h => by rw [upd_ne (fun z => hm (by rw [← z]; exact h))]; exact k.dis a h, fun n a ob h1 h2 => ?_, k.tab⟩⟩
  · by_cases e : a = p
    · subst e; rw [upd_same] at h; cases h; exact hp
    · rw [upd_ne e] at h; exact k.sub a u h
  · by_cases e : a = p
    · subst e; rw [upd_same]; intro z; cases z
    · rw [upd_ne e]; exact k.nt a ps
  · have z := k.obj n a ob h1 h2
    cases ob with
    | lst ds =>
      obtain ⟨vs, e, r⟩ := z
      exact ⟨vs, e, r.mono rs (Pre.refl _)⟩
theorem Go.frz (x : Go F μ H F1 μ1 H1) {p : Addr} {xs : List V} (h : ¬ Live H p) (hF : F1 p = none) : Go F μ H (upd F1 p (.lst xs)) μ1 H1 where
  sub := x.sub.trans fun a u h => by rw [upd_ne (ne_of_none h hF)]; exact h
  new := fun a h1 h2 => by rw [upd_ne (fun z => h (by rw [← z]; exact h2))]; exact x.new a h1 h2
  mem := x.mem
  keep := x.keep
  live := x.live
end

/-! ### targets -/
section
variable {g : Gp} {X : Cx} {B : Bs} {Z : ZZ} {e a b c : Expr} {es rest : List Expr} {f fa fb fc : EF} {fr : AF} {ft fu fv : TF} {pos : Pos} {s : Stmt} {ss sb sc : List Stmt} {fs gs hs : SF}
abbrev GF := D → List Sl → Option (List Sl)
def gN (i : Nat) : GF := fun d env => some (env.set i (.v d))
def gAll : List GF → List D → List Sl → Option (List Sl)
  | [], [], env => some env
  | t :: ts, d :: ds, env => (t d env).bind (gAll ts ds)
  | _, _, _ => none
def gT (ts : List GF) : GF := fun d env => match d with
  | .tup ds => gAll ts ds env
  | .lst ds => gAll ts ds env
  | _ => none
/-- other slots than vs stay -/
def Off (vs : List Nat) (σ σ' : St) : Prop := σ'.length = σ.length ∧ ∀ j, j ∉ vs → σ'[j]? = σ[j]?
theorem Off.refl (vs : List Nat) (σ : St) : Off vs σ σ := ⟨rfl, fun _ _ => rfl⟩
theorem Off.trans {vs : List Nat} {σ σ1 σ2 : St} (a : Off vs σ σ1) (b : Off vs σ1 σ2) : Off vs σ σ2 := ⟨b.1.trans a.1, fun j h => (b.2 j h).trans (a.2 j h)⟩
theorem Off.set {vs : List Nat} {σ : St} {i : Nat} {v : Option V} (h : i ∈ vs) : Off vs σ (σ.set i v) := ⟨List.length_set, fun j hj => List.getElem?_set_ne fun e => hj (by rw [← e]; exact h)⟩
def tG (K : PySem.W.Frag) (g : Gp) (B : Bs) (ws : List Nat) (t : GF) : TG := fun v σ H Q => ∃ F μ st env d env', Rl K g B F μ H env st σ ∧ Rep K F μ v d ∧ t d env = some env' ∧ ∀ σ', Rl K g B F μ H env' st σ' → Off ws σ σ' → Q σ' H
def tGs (K : PySem.W.Frag) (g : Gp) (B : Bs) (ws : List Nat) (ts : List GF) : TGs := fun vs σ H Q => ∃ F μ st env ds env', Rl K g B F μ H env st σ ∧ Reps K F μ vs ds ∧ gAll ts ds env = some env' ∧ ∀ σ', Rl K g B F μ H env' st σ' → Off ws σ σ' → Q σ' H
def DG (g : Gp) (X : Cx) (B : Bs) (ws : List Nat) (tg : Expr) (t : GF) : Prop := PG X tg (tG X.K g B ws t)
def DGs (g : Gp) (X : Cx) (B : Bs) (ws : List Nat) (tg : List Expr) (ts : List GF) : Prop := PGs X tg (tGs X.K g B ws ts)
variable {ws : List Nat}
theorem PG.imp {X : Cx} {e : Expr} {t t' : TG} (h : PG X e t) (q : ∀ v σ H Q, t' v σ H Q → t v σ H Q) : PG X e t' := ⟨fun pins s σ H v u Q I r z => h.run pins s σ H v u Q I r (q v σ H Q z)⟩
theorem PGs.imp {X : Cx} {e : List Expr} {t t' : TGs} (h : PGs X e t) (q : ∀ v σ H Q, t' v σ H Q → t v σ H Q) : PGs X e t' := ⟨fun pins s σ H v u Q I r z => h.run pins s σ H v u Q I r (q v σ H Q z)⟩
theorem dg_name {i : Nat} {x : Str} (hN : X.N.Nodup) (hi : X.N[i]? = some x) (hx : Loc X.env.scope x) (hf : X.fn x = true ∨ X.env.scope.names.lookup x = some .local := by first | exact .inl rfl | exact .inr rfl | assumption) (hw : i ∈ ws := by decide) : DG g X B ws (.Name x pos) (gN i) :=
  PG.imp (pg_name hN hi hx hf) fun v σ H Q ⟨F, μ, st, env, d, env', r, rv, e, h⟩ => by
    cases e
    exact h _ (r.set rv) (.set hw)
theorem dgs_nil : DGs g X B ws [] [] := PGs.imp pgs_nil fun v σ H Q ⟨F, μ, st, env, ds, env', r, rv, e, h⟩ => by
  cases rv with
  | nil => cases e; exact ⟨rfl, h σ r (.refl _ _)⟩
  | cons _ _ => cases e
theorem dgs_cons {t : GF} {ts : List GF} (h1 : DG g X B ws e t) (h2 : DGs g X B ws es ts) (hs : (assignEach (e :: es) X.env).map (·.2) = assign e X.env :: (assignEach es X.env).map (·.2) := by rfl) : DGs g X B ws (e :: es) (t :: ts) :=
  PGs.imp (pgs_cons h1 h2 hs) fun v σ H Q ⟨F, μ, st, env, ds, env', r, rv, e, h⟩ => by
    cases rv with
    | nil => cases e
    | @cons v vs d ds hd hr =>
      cases q : t d env with
      | none => simp only [gAll, q, Option.bind_none] at e; cases e
      | some env1 =>
        simp only [gAll, q, Option.bind_some] at e
        exact ⟨v, vs, rfl, F, μ, st, env, d, env1, r, hd, q, fun σ1 r1 o1 => ⟨F, μ, st, env1, ds, env', r1, hr, e, fun σ2 r2 o2 => h σ2 r2 (o1.trans o2)⟩⟩
theorem gAll_len : ∀ {ts : List GF} {ds : List D} {env env' : List Sl}, gAll ts ds env = some env' → ds.length = ts.length
  | [], [], _, _, _ => rfl
  | [], _ :: _, _, _, h => by cases h
  | _ :: _, [], _, _, h => by cases h
  | t :: ts, d :: ds, env, env', h => by
    cases q : t d env with
    | none => simp only [gAll, q, Option.bind_none] at h; cases h
    | some env1 =>
      simp only [gAll, q, Option.bind_some] at h
      rw [List.length_cons, List.length_cons, gAll_len h]
theorem dg_tup {k : Nat} {ts : List GF} (hc : X.calm = true) (h : DGs g X B ws es ts) (hn : (assignEach es X.env).length = ts.length := by rfl) (hst : (assignEach es X.env).findIdx? (·.1) = none := by rfl) : DG g X B ws (.Tuple es k pos) (gT ts) := by
  refine ⟨fun pins s σ H v u Q I rv z => ?_⟩
  obtain ⟨F, μ, st, env, d, env', r, rd, e, hq⟩ := z
  unfold gT at e
  split at e
  · cases rd with
    | tup hs q => exact (pg_tup hc h hn hst).run pins s σ H _ u Q I rv ⟨_, _, rfl, r.ok.sub.t hs, q.length.trans (gAll_len e), F, μ, st, env, _, env', r, q, e, hq⟩
  · cases rd with
    | lst hs q => exact (pg_lst hc h hn hst).run pins s σ H _ u Q I rv ⟨_, _, rfl, .inl (.inl (r.ok.sub _ _ hs)), q.length.trans (gAll_len e), F, μ, st, env, _, env', r, q, e, hq⟩
  · cases e
/-- target = value -/
def sAsg (f : EF) (t : GF) : SF := fun env st => RS.ofR (f env st) fun d st => match t d env with
  | some env' => .nx env' st
  | none => .bad
theorem ds_asg {tg : Expr} {t : GF} (he : DE g X B Z e f) (hg : DG g X B ws tg t) (hs : swapsWithSole [tg] e pos.line X.env = pure false := by rfl) (hw : swappedStores [tg] e X.env = pure none := by rfl)
    (h1 : (assignEach [tg] X.env).map (·.2) = [assign tg X.env] := by rfl) : DS g X B Z (.Assign [tg] e pos) (sAsg f t) := PS.imp (ps_asg he hg hs hw h1) fun D σ H ⟨hw, mw, env, F, μ, st, r, d, h⟩ =>
  tD_of r (AftS.ofR h) fun y s v F' μ' H' x r' p rv => by
    cases q : t y env with
    | none => rw [q] at p; exact p.elim
    | some env' =>
      rw [q] at p
      exact ⟨F', μ', s, env, y, env', r', rv, q, fun σ' r2 _ => p F' μ' H' σ' r2 (d.go x)⟩
/-- a, b = x, y -/
def sPar (i j : Nat) (fr : AF) : SF := fun env st => RS.ofR (fr env st) fun ds st => match ds with
  | [d, e] => .nx ((env.set i (.v d)).set j (.v e)) st
  | _ => .bad
theorem ds_par {i j : Nat} {x y : Str} {px py pt : Pos} {kt k2 pt2} (hc : X.calm = true) (hN : X.N.Nodup) (hi : X.N[i]? = some x) (hj : X.N[j]? = some y) (hij : i ≠ j)
    (hx : X.env.scope.names.lookup x = some .local) (hy : X.env.scope.names.lookup y = some .local) (ha : DA g X B Z [a, b] fr) (hw : swappedStores [.Tuple [.Name x px, .Name y py] kt pt] (.Tuple [a, b] k2 pt2) X.env = pure (some [x, y]))
    (hs : swapsWithSole [.Tuple [.Name x px, .Name y py] kt pt] (.Tuple [a, b] k2 pt2) pos.line X.env = pure false := by rfl) :
    DS g X B Z (.Assign [.Tuple [.Name x px, .Name y py] kt pt] (.Tuple [a, b] k2 pt2) pos) (sPar i j fr) := PS.imp (ps_par hc hN hi hj hij hx hy ha hw hs) fun D σ H ⟨hw, mw, env, F, μ, st, r, d, h⟩ =>
  tA_of r (AftS.ofR h) fun ys s vs F' μ' H' x r' p rv => by
    split at p
    · obtain ⟨v, w, rfl, h1, h2⟩ := reps2 rv
      exact ⟨v, w, rfl, p F' μ' H' _ ((r'.set h1).set h2) (d.go x)⟩
    · exact p.elim
/-- a, b, c = x, y, z -/
def sPar3 (i j l : Nat) (fr : AF) : SF := fun env st => RS.ofR (fr env st) fun ds st => match ds with
  | [d, e, f] => .nx (((env.set i (.v d)).set j (.v e)).set l (.v f)) st
  | _ => .bad
/-- name op= value -/
def sAug (i : Nat) (h : F2) (f : EF) : SF := fun env st => match env[i]? with
  | some (.v x) => RS.ofR (f env st) fun d st => match h st x d with
    | some y => .nx (env.set i (.v y)) st
    | none => .bad
  | _ => .bad
theorem ds_aug {i : Nat} {x : Str} {op : Operator} {h : F2} {pos' : Pos} (hN : X.N.Nodup) (hi : X.N[i]? = some x) (hx : Loc X.env.scope x) (he : DE g X B Z e f) (ho : OpR X (inplaceOp op) (r2 X.K g h)) (hf : X.fn x = true ∨ X.env.scope.names.lookup x = some .local := by first | exact .inl rfl | exact .inr rfl | assumption) :
    DS g X B Z (.AugAssign (.Name x pos') op e pos) (sAug i h f) := PS.imp (ps_aug (ti := r2 X.K g h) hN hi hx he (fun pins s σ H x y v u Q I r1 r2 q => ho pins s σ H x y v u Q I r1 r2 q) hf) fun D σ H ⟨hw, mw, env, F, μ, st, r, d, z⟩ => by
  unfold sAug at z
  split at z
  · rename_i y hy
    obtain ⟨v, h1, h2⟩ := r.sl.val i y hy
    refine ⟨v, h1, tD_of r (AftS.ofR z) fun w s vw F' μ' H' x r' p rv => ?_⟩
    split at p
    · rename_i q hq
      exact ⟨F', μ', s, y, w, q, r'.ok, h2.mono x.sub x.pre, rv, hq, fun F2 H2 v2 x2 k2 rr => p F2 μ' H2 _ ((r'.step x2 k2).set rr) ((d.go x).go x2)⟩
    · exact p.elim
  · exact z.elim
def hAddI : F2 := fun _ x y => match x, y with
  | .int i, .int j => some (.int (i + j))
  | _, _ => none
def hSubI : F2 := fun _ x y => match x, y with
  | .int i, .int j => some (.int (i - j))
  | _, _ => none
theorem iop_Add : OpR X (inplaceOp .Add) (r2 X.K g hAddI) := or_of iop_add fun F μ H st dx dy d x y Q k r1 r2 e gv => by
  unfold hAddI at e
  split at e
  · cases e; cases r1; cases r2
    exact ⟨_, _, rfl, rfl, gv_now gv k (.int _)⟩
  · cases e
theorem iop_Sub : OpR X (inplaceOp .Sub) (r2 X.K g hSubI) := or_of iop_sub fun F μ H st dx dy d x y Q k r1 r2 e gv => by
  unfold hSubI at e
  split at e
  · cases e; cases r1; cases r2
    exact ⟨_, _, rfl, rfl, gv_now gv k (.int _)⟩
  · cases e
/-- o[i] = value, o of the store -/
def sSetIx (f fo fi : EF) : SF := fun env st => RS.ofR (f env st) fun d st => RS.ofR (fo env st) fun o st => RS.ofR (fi env st) fun i st => match o, i with
  | .ref n, .int k => match st[n]? with
    | some (.lst ds) => match ixN ds.length k with
      | some j => .nx env (st.set n (.lst (ds.set j d)))
      | none => .bad
    | none => .bad
  | _, _ => .bad
theorem ds_setix {o i : Expr} {fo fi : EF} {pos' : Pos} (he : DE g X B Z e f) (ho : DE g X B Z o fo) (hi : DE g X B Z i fi)
    (ha : ∀ v, assign (.Subscript o i pos') X.env v = (do
      let ov ← holding [v] (eval o X.env)
      let iv ← holding [v, ov] (eval i X.env)
      standAt pos'
      holding [v, ov, iv] (setItem ov iv v)
      release [v, ov, iv] []) := by intro _; rfl)
    (hs : swapsWithSole [.Subscript o i pos'] e pos.line X.env = pure false := by rfl) (hw : swappedStores [.Subscript o i pos'] e X.env = pure none := by rfl) (h1 : (assignEach [.Subscript o i pos'] X.env).map (·.2) = [assign (.Subscript o i pos') X.env] := by rfl) :
    DS g X B Z (.Assign [.Subscript o i pos'] e pos) (sSetIx f fo fi) := PS.imp (ps_asg he (pg_sub ho hi set_list ha) hs hw h1) fun D σ H ⟨hw, mw, env, F, μ, st, r, d, h⟩ =>
  tD_of r (AftS.ofR h) fun y s v F1 μ1 H1 x1 r1 p1 rv => tD_of r1 (AftS.ofR p1) fun w s2 vo F2 μ2 H2 x2 r2 p2 ro => tD_of r2 (AftS.ofR p2) fun k s3 vi F3 μ3 H3 x3 r3 p3 ri => by
    split at p3
    · rename_i n j
      split at p3
      · rename_i ds hds
        split at p3
        · rename_i m hm
          have ro3 := ro.mono x3.sub x3.pre
          cases ro3 with
          | @ref pa _ hn =>
            cases ri
            have rv3 := rv.mono (x2.trans x3).sub (x2.trans x3).pre
            obtain ⟨vs, e1, q⟩ := r3.ok.obj _ _ _ hn hds
            refine ⟨pa, vs, j, m, rfl, rfl, e1, by rw [q.length]; exact hm, ?_⟩
            have hmem : pa ∈ μ3 := List.mem_of_getElem? hn
            have gg : Go F3 μ3 H3 F3 μ3 (upd H3 pa (.lst (vs.set m v))) := Go.refl.mut (.inr hmem) (by rw [e1]; simp)
            exact p3 F3 μ3 _ σ (r3.step gg (r3.ok.store hn ⟨vs, e1⟩ (q.set rv3 m))) (((d.go x1).go x2).go x3)
        · exact p3.elim
      · exact p3.elim
    · exact p3.elim

/-! ### lists that one name alone holds -/
theorem Rl.lin {K : PySem.W.Frag} {F : Hp} {μ : List Addr} {H : Hp} {env : List Sl} {st : List O} {σ : St} (r : Rl K g B F μ H env st σ) {i : Nat} {p : Addr} {vs : List V} {ds : List D} (hp : H p = none) (rv : Reps K F μ vs ds) :
    Rl K g B F μ (upd H p (.lst vs)) (env.set i (.lin ds)) st (σ.set i (some (.ref p))) := by
  have fp := r.ok.fresh hp
  have pm : p ∉ μ := fun z => r.ok.there z hp
  have k2 : Ok K g F μ (upd H p (.lst vs)) st := by
    obtain ⟨x, k⟩ := r.ok.put (o := .lst vs) hp (fun ps z => by cases z)
    refine ⟨fun a u h => ?_, r.ok.nt, k.len, k.nd, r.ok.dis, fun n a ob h1 h2 => ?_, k.tab⟩
    · rw [upd_ne (ne_of_none h fp)]; exact r.ok.sub a u h
    · have z := r.ok.obj n a ob h1 h2
      have ne : a ≠ p := fun e => z.there (by rw [e]; exact hp)
      cases ob with
      | lst es => obtain ⟨ws, e, q⟩ := z; exact ⟨ws, by rw [upd_ne ne]; exact e, q⟩
  have g2 : Go F μ H F μ (upd H p (.lst vs)) := ⟨RdSub.refl F, fun _ h _ => h, ⟨[], by simp, by simp⟩, fun a o h _ _ => by rw [upd_ne (ne_of_none h hp)]; exact h, fun a ⟨u, e, n⟩ => ⟨u, by rw [upd_ne (ne_of_none e hp)]; exact e, n⟩⟩
  have old : ∀ (j : Nat) es a, env[j]? = some (.lin es) → σ[j]? = some (some (.ref a)) → a ≠ p := fun j es a h1 h2 z => by
    obtain ⟨a', ws, h3, h4, _⟩ := r.sl.lin j es h1
    rw [h2] at h3
    cases h3
    rw [z, hp] at h4
    cases h4
  refine ⟨k2, ⟨by rw [List.length_set, List.length_set, r.sl.len], fun j d h => ?_, fun j es h => ?_, fun j l es fs a jl h1 h2 h3 => ?_⟩, r.go.trans g2, fun j es a h1 h2 => ?_⟩
  · rcases get_set h with ⟨_, e2⟩ | ⟨ne, h⟩
    · cases e2
    · rw [List.getElem?_set_ne ne]
      exact r.sl.val j d h
  · rcases get_set h with ⟨e1, e2⟩ | ⟨ne, h⟩
    · subst e1
      cases e2
      exact ⟨p, vs, List.getElem?_set_self (by rw [← r.sl.len]; exact lt_set ‹_›), upd_same, rv, fp, pm⟩
    · obtain ⟨a, ws, h1, h2, h3, h4, h5⟩ := r.sl.lin j es h
      exact ⟨a, ws, by rw [List.getElem?_set_ne ne]; exact h1, by rw [upd_ne (ne_of_none h2 hp)]; exact h2, h3, h4, h5⟩
  · rcases get_set h1 with ⟨e1, e2⟩ | ⟨ne, h1⟩
    · subst e1
      rw [List.getElem?_set_self (by rw [← r.sl.len]; exact lt_set ‹_›)] at h3
      cases h3
      rcases get_set h2 with ⟨e1, _⟩ | ⟨ne2, h2⟩
      · exact absurd e1 jl
      · rw [List.getElem?_set_ne ne2]
        exact fun z => old l fs p h2 z rfl
    · rw [List.getElem?_set_ne ne] at h3
      rcases get_set h2 with ⟨e1, e2⟩ | ⟨ne2, h2⟩
      · subst e1
        rw [List.getElem?_set_self (by rw [← r.sl.len]; exact lt_set ‹_›)]
        intro z
        cases z
        exact old j es p h1 h3 rfl
      · rw [List.getElem?_set_ne ne2]
        exact r.sl.dis j l es fs a jl h1 h2 h3
  · rcases get_set h1 with ⟨e1, e2⟩ | ⟨ne, h1⟩
    · subst e1
      rw [List.getElem?_set_self (by rw [← r.sl.len]; exact lt_set ‹_›)] at h2
      cases h2
      exact r.go.fresh (nl hp)
    · rw [List.getElem?_set_ne ne] at h2
      exact r.lb j es a h1 h2
end
end DV

set_option Elab.async false
set_option linter.all false
set_option maxRecDepth 100000
set_option maxHeartbeats 1000000
namespace DV
open PySem PySem.Spec PyProof.Rows L2
/-! ### iterators: lists, tuples by one rule -/
inductive Kq where
  | l | t
def Kq.sq (K : PySem.W.Frag) : Kq → Hp → Addr → List V → Prop
  | .l => SqL K
  | .t => SqT K
def Kq.st : Kq → Heap → Addr → Addr → Nat → Prop
  | .l => fun h it a i => h.IsListIter it a i
  | .t => fun h it a i => h.IsTupleIter it a i
def Kq.isq : Kq → Heap → Addr → Array Value → Prop
  | .l => fun h a its => h.IsList a its
  | .t => fun h a its => h.IsTuple a its
def Kq.obj : Kq → Addr → Obj
  | .l => fun a => { cls := .type "list_iterator", data := .fields #[.ref a, .int 0 0] }
  | .t => fun a => { cls := .type "tuple_iterator", data := .fields #[.ref a, .int 0 0] }
section
variable {X : Cx} {pins : List (Addr × Obj)} {σ : St} {H : Hp} {s : Shared} {a it : Addr} {xs ys : List V} {k : Kq} {h h' : Heap} {i : Nat}
theorem kq_of (I : Inv X pins σ H s) (q : k.sq X.K H a xs) : ∃ its : List Value, Vals xs its ∧ k.isq s.heap a its.toArray ∧ a < s.heap.objs.size := by
  cases k with
  | l => obtain ⟨its, r, p, _⟩ := I.list q; exact ⟨its, r, p.isList, p.lt⟩
  | t => obtain ⟨its, r, p, _⟩ := I.tuple q; obtain ⟨o, ho, _⟩ := id p; exact ⟨its, r, p, Heap.lt_size ho⟩
theorem kq_inj (I : Inv X pins σ H s) (q : k.sq X.K H a xs) (q' : k.sq X.K H a ys) : xs = ys := by
  cases k with
  | l => exact I.list_inj q q'
  | t => exact I.tuple_inj q q'
theorem kq_obj (k : Kq) {h : Heap} (e : h.get? it = some (k.obj a)) : k.st h it a 0 := by
  cases k with
  | l => exact ⟨_, e, rfl, rfl⟩
  | t => exact ⟨_, e, rfl, rfl⟩
theorem kq_at (q : k.st h it a i) (c : ∀ o, h.get? it = some o → h'.get? it = some o) : k.st h' it a i := by
  cases k with
  | l => exact Heap.IsListIter.at q c
  | t => exact Heap.IsTupleIter.at q c
theorem kq_ex (q : k.st h it a i) : ∃ o, h.get? it = some o ∧ ∀ v, o.data ≠ .cell v := by
  cases k with
  | l => obtain ⟨o, e, _, d⟩ := q; exact ⟨o, e, fun v z => by rw [d] at z; cases z⟩
  | t => obtain ⟨o, e, _, d⟩ := q; exact ⟨o, e, fun v z => by rw [d] at z; cases z⟩
theorem kq_draws {prog : Program} {w : World} {A : Around} (hh : A.handled = none) (k : Kq) (it a : Addr) (hne : a ≠ it) (items : Array Value) : Draws prog w A it [it, a] items.size (fun i v => items[i]? = some v) (fun i h => k.st h it a i ∧ k.isq h a items) := by
  cases k with
  | l => exact Draws.list hh it a hne items
  | t => exact Draws.tuple hh it a hne items
theorem kq_begins (k : Kq) (a : Addr) (items : Array Value) : Begins (.ref a) (k.obj a) fun h => k.isq h a items := by
  cases k with
  | l => exact begins_list a items
  | t => exact begins_tuple a items
end
/-! ### enumerate -/
def Itek (K : PySem.W.Frag) (k : Kq) (a : Addr) (c : Int) : It :=
  ⟨fun i H => ∃ (xs : List V) (x : V), k.sq K H a xs ∧ xs[i]? = some x, fun i H v H' => ∃ T x, v = .ref T ∧ H T = none ∧ H' = upd H T (.tup [.int (c + (i : Int)), x]) ∧ ∀ xs, k.sq K H a xs → xs[i]? = some x, fun i H => ∃ xs : List V, k.sq K H a xs ∧ xs.length = i⟩
theorem turn_enumK {P : Program} {w : World} {K : PySem.W.Frag} {elts : List Expr} {kk : Nat} {tpos : Pos} (k : Kq) (c : Int) (a e it : Addr) :
    Turn P w K (.Tuple elts kk tpos) (Itek K k a c) [e, it] e (fun i h => (∃ old, IsEnum h e it (c + (i : Int)) old) ∧ k.st h it a i ∧ e ≠ it ∧ e ≠ a ∧ a ≠ it) where
  mem := by simp
  obj := fun i h st b hb => by
    obtain ⟨⟨old, he⟩, hi, _⟩ := st
    rcases (by simpa using hb : b = e ∨ b = it) with z | z
    · rw [z]; exact ⟨_, he, fun v q => nomatch q⟩
    · rw [z]; exact kq_ex hi
  keep := fun i h h' st q => ⟨st.1.imp fun old z => q e (by simp) _ z, kq_at st.2.1 fun o z => q it (by simp) o z, st.2.2⟩
  item := by
    intro X hP hw hK hc i pins s σ H E I hf st hg
    subst hP hw hK
    obtain ⟨he, hit, n1, n2, n3⟩ := st
    obtain ⟨xs, x, hq, hx⟩ := hg
    obtain ⟨its, rv, p, hlt⟩ := kq_of I hq
    have hl : xs.length = its.length := rv.length
    have hi : i < its.toArray.size := by
      have := (List.getElem?_eq_some_iff.mp hx).1
      simp only [List.size_toArray]
      omega
    have hel : e < s.heap.objs.size := by obtain ⟨_, z⟩ := he; exact Heap.lt_size z
    have hil : it < s.heap.objs.size := by obtain ⟨o, z, _⟩ := kq_ex hit; exact Heap.lt_size z
    have G := GoesN.enumFrom (prog := X.prog) (w := X.w) (A := X.A) (elts := elts) (x1 := kk) (pos := tpos) c (kq_draws (prog := X.prog) (w := X.w) (A := X.A.in1) (I.ok.hd hc) k it a n3 its.toArray) e n1 (by simp [n1, n2]) (by simp)
    refine G.goes i s _ E hi ⟨he, hit, p⟩ fun v h' tk hY st' hk _ => ?_
    obtain ⟨T, t, u, rfl, hT0, hu, hT⟩ := hY
    obtain ⟨u', hu', ru⟩ := rv.get hx
    rw [List.getElem?_toArray, hu'] at hu
    cases hu
    have new : ObjOk X.prog X.w (upd H T (.tup [.int (c + (i : Int)), x])) h' T (.tup [.int (c + (i : Int)), x]) :=
      ⟨by show 2 ≤ sizeLine; decide, [.int (c + (i : Int)) t, u], .cons ⟨_, rfl⟩ (.cons ru .nil), hT⟩
    have I1 : Inv X pins σ (upd H T (.tup [.int (c + (i : Int)), x])) { s with heap := h', toks := tk } := I.turnedNew (ch := [e, it]) hk hf hT0 new
    refine ⟨.ref T, _, I1, rfl, ⟨T, x, rfl, I.hok.fresh hT0, rfl, fun ys hy => by rw [kq_inj I hy hq]; exact hx⟩, ⟨st'.1, st'.2.1, n1, n2, n3⟩, fun b hb => ?_⟩
    have hb' : b < s.heap.objs.size := by
      rcases (by simpa using hb : b = e ∨ b = it) with z | z
      · rw [z]; exact hel
      · rw [z]; exact hil
    rw [upd_ne (Nat.ne_of_lt (Nat.lt_of_lt_of_le hb' hT0))]
    exact (hf b hb).1
  done := by
    intro X hP hw hK hc i pins s σ H E I hf st hg
    subst hP hw hK
    obtain ⟨he, hit, n1, n2, n3⟩ := st
    obtain ⟨xs, hq, hx⟩ := hg
    obtain ⟨its, rv, p, hlt⟩ := kq_of I hq
    have hl : xs.length = its.length := rv.length
    have G := GoesN.enumFrom (prog := X.prog) (w := X.w) (A := X.A) (elts := elts) (x1 := kk) (pos := tpos) c (kq_draws (prog := X.prog) (w := X.w) (A := X.A.in1) (I.ok.hd hc) k it a n3 its.toArray) e n1 (by simp [n1, n2]) (by simp)
    have hi : i = its.toArray.size := by
      simp only [List.size_toArray]
      omega
    refine G.stops s _ E (by rw [← hi]; exact ⟨he, hit, p⟩) fun h' tk hk _ => I.turnedL hk hf
  self := fun A i s Q E st h => let ⟨⟨_, he⟩, _⟩ := st; wpAny_pyIter_enum he h

theorem meets_enum1B {v : Value} {o : Obj} {L : Heap → Prop} (B : Begins v o L) :
    Meets (Builtin.«enumerate.__new__» ⟨[.type "enumerate", v], []⟩) (fun _ R s => L s.heap ∧ R (.ok (.ret (.ref (s.heap.push o).objs.size)))
      { s with heap := (s.heap.push o).push { cls := .type "enumerate", data := .fields #[.none, .bool false, .ref s.heap.objs.size, rawInt 0, .none, .none] } }) :=
  .of_wp fun prog w A R s h => by
    obtain ⟨hp, gg, dd, tk, os⟩ := s
    obtain ⟨hL, h⟩ := h
    have hsub := sub_enumerate
    have it0 : ∀ {A' : Around} {E : Value → Shared → Prop} {Q : Value → Shared → Prop}, Q (.ref hp.objs.size) ⟨hp.push o, gg, dd, tk, os⟩ → wpAny (model prog w) A' (pyIter v) Q E ⟨hp, gg, dd, tk, os⟩ := fun q => B.iter prog w _ _ _ _ hL q
    wp_walk using it0
    refine wpAny_stack_any fun st => wpAny_pure ?_
    split
    · rename_i c _ _ _ _ _
      cases (c == Value.type "enumerate") <;> (wp_walk using it0; exact ⟨_, rfl, h⟩)
    · wp_walk using it0
      exact ⟨_, rfl, h⟩
theorem call_enum1 {prog : Program} {w : World} {A : Around} {E : Value → Shared → Prop} {s : Shared} {v : Value} {o : Obj} {L : Heap → Prop} {Q : Value → Shared → Prop} (B : Begins v o L) (hL : L s.heap)
    (h : ∀ h', IsEnum h' (s.heap.objs.size + 1) s.heap.objs.size 0 .none → h'.get? s.heap.objs.size = some o → (∀ b o, s.heap.get? b = some o → h'.get? b = some o) → Q (.ref (s.heap.objs.size + 1)) { s with heap := h' }) :
    wpAny (model prog w) A (call (.type "enumerate") [v]) Q E s := by
  refine callType_new F.called_enumerate (by decide) (F.typeCall_enumerate_1 _) (F.newCall_enumerate_1 _) (fun obj => F.args_object_init_2 obj _) F.entry_enumerate_new (meets_enum1B B) ⟨hL, ?_⟩
  have hz : (s.heap.push o).objs.size = s.heap.objs.size + 1 := Heap.size_push ..
  show _ ∧ _
  rw [hz]
  have he := Heap.get?_push_size (s.heap.push o) (o := { cls := .type "enumerate", data := .fields #[.none, .bool false, .ref s.heap.objs.size, rawInt 0, .none, .none] }) rfl
  rw [hz] at he
  exact ⟨⟨_, he, rfl⟩, h _ he (Heap.get?_push_of_some _ (Heap.get?_push_size _ B.free)) fun b q x => Heap.get?_push_of_some _ (Heap.get?_push_of_some _ x)⟩
def iEnumK (K : PySem.W.Frag) (k : Kq) (ta : TA) : TI := fun σ H R => ta σ H fun vs H1 => ∃ a xs, vs = [.ref a] ∧ k.sq K H1 a xs ∧ R (Itek K k a 0) H1
theorem pi_enumK {X : Cx} {e : Expr} {ta : TA} {p pos tpos : Pos} {elts : List Expr} {kk : Nat} (k : Kq) (hg : Gl X "enumerate") (hm : X.mg "enumerate" = none) (ha : PA X [e] ta) (hs : starEach [e] X.env = [(false, eval e X.env)] := by rfl) :
    PI X (.Tuple elts kk tpos) (.Call (.Name "enumerate" p) [e] [] pos) (iEnumK X.K k ta) := by
  refine ⟨fun pins s σ H R I h => ?_⟩
  refine Call_ (ld_blt I hg hm boot_enumerate (PyProof.Rows.callWith_type1 (thn (ha.run pos pins s σ H _ I h) fun us s1 ⟨vs, H1, I1, r1, q1⟩ => ?_) hs rfl))
  obtain ⟨a, xs, ex, hq, q⟩ := q1
  subst ex
  obtain ⟨u, rfl, ru⟩ := vals1 r1
  cases ru
  obtain ⟨its, rv, pq, hlt⟩ := kq_of I1 hq
  refine call_enum1 (kq_begins k a its.toArray) pq fun h' he ho hk => wpAny_pyIter_enum he ?_
  refine ⟨s1.heap.objs.size + 1, [s1.heap.objs.size + 1, s1.heap.objs.size], _, _, H1, rfl, I1.kept (t' := s1.toks) hk, turn_enumK k 0 a (s1.heap.objs.size + 1) s1.heap.objs.size,
    ⟨⟨.none, by simpa using he⟩, kq_obj k ho, Nat.succ_ne_self _, Nat.ne_of_gt (Nat.lt_succ_of_lt hlt), Nat.ne_of_lt hlt⟩, fun b hb => ?_, q⟩
  have hle : s1.heap.objs.size ≤ b := by
    rcases (by simpa using hb : b = s1.heap.objs.size + 1 ∨ b = s1.heap.objs.size) with z | z <;> rw [z]
    · exact Nat.le_succ _
    · exact Nat.le_refl _
  exact I1.fpOk hle (I1.hok.fresh hle)

/-! ### zip -/
def Itzk (K : PySem.W.Frag) (k l : Kq) (a b : Addr) : It :=
  ⟨fun i H => ∃ (xs ys : List V) (x y : V), k.sq K H a xs ∧ l.sq K H b ys ∧ xs[i]? = some x ∧ ys[i]? = some y,
    fun i H v H' => ∃ T x y, v = .ref T ∧ H T = none ∧ H' = upd H T (.tup [x, y]) ∧ (∀ xs, k.sq K H a xs → xs[i]? = some x) ∧ ∀ ys, l.sq K H b ys → ys[i]? = some y,
    fun i H => ∃ xs ys : List V, k.sq K H a xs ∧ l.sq K H b ys ∧ min xs.length ys.length = i⟩
theorem turn_zipK {P : Program} {w : World} {K : PySem.W.Frag} {elts : List Expr} {kk : Nat} {tpos : Pos} (k l : Kq) {a b z TI TO i1 i2 : Addr} (S : ZipSep2 z TI TO i1 i2 [i1, a] [i2, b]) (na : a ≠ i1) (nb : b ≠ i2) :
    Turn P w K (.Tuple elts kk tpos) (Itzk K k l a b) [z, TI, TO, i1, i2] z (fun i h => IsZip h z TI TO .none ∧ IsTupOf2 h TI (.ref i1) (.ref i2) ∧ (∃ x y, IsTupOf2 h TO x y) ∧ k.st h i1 a i ∧ l.st h i2 b i) where
  mem := by simp
  obj := fun i h st c hc => by
    obtain ⟨hz, hTI, ⟨x, y, hTO⟩, h1, h2⟩ := st
    rcases (by simpa using hc : c = z ∨ c = TI ∨ c = TO ∨ c = i1 ∨ c = i2) with q | q | q | q | q
    · rw [q]; exact ⟨_, hz, fun v q => nomatch q⟩
    · rw [q]; exact ⟨_, hTI, fun v q => nomatch q⟩
    · rw [q]; exact ⟨_, hTO, fun v q => nomatch q⟩
    · rw [q]; exact kq_ex h1
    · rw [q]; exact kq_ex h2
  keep := fun i h h' st q => by
    obtain ⟨hz, hTI, ⟨x, y, hTO⟩, h1, h2⟩ := st
    exact ⟨q z (by simp) _ hz, q TI (by simp) _ hTI, ⟨x, y, q TO (by simp) _ hTO⟩, kq_at h1 fun o e => q i1 (by simp) o e, kq_at h2 fun o e => q i2 (by simp) o e⟩
  item := by
    intro X hP hw hK hc i pins s σ H E I hf st hg
    subst hP hw hK
    obtain ⟨hz, hTI, hTO, h1, h2⟩ := st
    obtain ⟨xs, ys, x, y, hqx, hqy, hx, hy⟩ := hg
    obtain ⟨its, rv, p, _⟩ := kq_of I hqx
    obtain ⟨its2, rv2, p2, _⟩ := kq_of I hqy
    have l1 : xs.length = its.length := rv.length
    have l2 : ys.length = its2.length := rv2.length
    have hi : i < min its.toArray.size its2.toArray.size := by
      have := (List.getElem?_eq_some_iff.mp hx).1
      have := (List.getElem?_eq_some_iff.mp hy).1
      simp only [List.size_toArray]
      omega
    have G := GoesN.zip2 (prog := X.prog) (w := X.w) (A := X.A) (elts := elts) (x1 := kk) (pos := tpos) S (kq_draws (prog := X.prog) (w := X.w) (A := X.A.in1) (I.ok.hd hc) k i1 a na its.toArray) (kq_draws (prog := X.prog) (w := X.w) (A := X.A.in1) (I.ok.hd hc) l i2 b nb its2.toArray)
    refine G.goes i s _ E hi ⟨hz, hTI, hTO, ⟨h1, p⟩, h2, p2⟩ fun v h' tk hY st' hk _ => ?_
    obtain ⟨T, u, u2, rfl, hT0, hu, hu2, hT⟩ := hY
    obtain ⟨v1, hv1, ru⟩ := rv.get hx
    rw [List.getElem?_toArray, hv1] at hu
    cases hu
    obtain ⟨v2, hv2, ru2⟩ := rv2.get hy
    rw [List.getElem?_toArray, hv2] at hu2
    cases hu2
    have new : ObjOk X.prog X.w (upd H T (.tup [x, y])) h' T (.tup [x, y]) :=
      ⟨by show 2 ≤ sizeLine; decide, [u, u2], .cons ru (.cons ru2 .nil), hT⟩
    have I1 : Inv X pins σ (upd H T (.tup [x, y])) { s with heap := h', toks := tk } := I.turnedNew (ch := [z, TI, TO, i1, i2]) (fun c o hb e => hk c o (fun q' => hb (by simp at q' ⊢; rcases q' with q' | q' | q' | q' <;> simp [q'])) e) hf hT0 new
    obtain ⟨s1, s2, s3, s4, s5⟩ := st'
    refine ⟨.ref T, _, I1, rfl, ⟨T, x, y, rfl, I.hok.fresh hT0, rfl, fun zs hz => by rw [kq_inj I hz hqx]; exact hx, fun zs hz => by rw [kq_inj I hz hqy]; exact hy⟩, ⟨s1, s2, s3, s4.1, s5.1⟩, fun c hcm => ?_⟩
    have hlt : c < s.heap.objs.size := by
      obtain ⟨x0, y0, hTO⟩ := hTO
      rcases (by simpa using hcm : c = z ∨ c = TI ∨ c = TO ∨ c = i1 ∨ c = i2) with q | q | q | q | q
      · rw [q]; exact Heap.lt_size hz
      · rw [q]; exact Heap.lt_size hTI
      · rw [q]; exact Heap.lt_size hTO
      · rw [q]; obtain ⟨_, e1, _⟩ := kq_ex h1; exact Heap.lt_size e1
      · rw [q]; obtain ⟨_, e2, _⟩ := kq_ex h2; exact Heap.lt_size e2
    rw [upd_ne (Nat.ne_of_lt (Nat.lt_of_lt_of_le hlt hT0))]
    exact (hf c hcm).1
  done := by
    intro X hP hw hK hc i pins s σ H E I hf st hg
    subst hP hw hK
    obtain ⟨hz, hTI, hTO, h1, h2⟩ := st
    obtain ⟨xs, ys, hqx, hqy, hx⟩ := hg
    obtain ⟨its, rv, p, _⟩ := kq_of I hqx
    obtain ⟨its2, rv2, p2, _⟩ := kq_of I hqy
    have l1 : xs.length = its.length := rv.length
    have l2 : ys.length = its2.length := rv2.length
    have hi : i = min its.toArray.size its2.toArray.size := by
      simp only [List.size_toArray]
      omega
    have G := GoesN.zip2 (prog := X.prog) (w := X.w) (A := X.A) (elts := elts) (x1 := kk) (pos := tpos) S (kq_draws (prog := X.prog) (w := X.w) (A := X.A.in1) (I.ok.hd hc) k i1 a na its.toArray) (kq_draws (prog := X.prog) (w := X.w) (A := X.A.in1) (I.ok.hd hc) l i2 b nb its2.toArray)
    exact G.stops s _ E (by rw [← hi]; exact ⟨hz, hTI, hTO, ⟨h1, p⟩, h2, p2⟩) fun h' tk hk _ => I.turnedL (ch := [z, TI, TO, i1, i2]) (fun c o hb e => hk c o (fun q' => hb (by simp at q' ⊢; rcases q' with q' | q' | q' | q' <;> simp [q'])) e) hf
  self := fun A i s Q E st h => wpAny_pyIter_zip st.1 h
theorem zsep (n a b : Nat) (la : a < n) (lb : b < n) : ZipSep2 (n + 4) (n + 2) (n + 3) n (n + 1) [n, a] [n + 1, b] ∧ a ≠ n ∧ b ≠ n + 1 := by
  have nm : ∀ x y z : Nat, x ≠ y → x ≠ z → x ∉ [y, z] := fun x y z h1 h2 => by simp [h1, h2]
  have ne : ∀ x y : Nat, (x < y ∨ y < x) → x ≠ y := fun x y h => by omega
  exact ⟨⟨ne _ _ (by omega), ne _ _ (by omega), ne _ _ (by omega), ne _ _ (by omega), by simp, nm _ _ _ (by omega) (by omega), nm _ _ _ (by omega) (by omega), ne _ _ (by omega), by simp,
    nm _ _ _ (by omega) (by omega), nm _ _ _ (by omega) (by omega), nm _ _ _ (by omega) (by omega), nm _ _ _ (by omega) (by omega)⟩, by omega, by omega⟩
theorem zle (n c : Nat) (h : c ∈ [n + 4, n + 2, n + 3, n, n + 1]) : n ≤ c := by
  simp only [List.mem_cons, List.not_mem_nil, or_false] at h
  omega
def iZipK (K : PySem.W.Frag) (k l : Kq) (ta : TA) : TI := fun σ H R => ta σ H fun vs H1 => ∃ a b xs ys, vs = [.ref a, .ref b] ∧ k.sq K H1 a xs ∧ l.sq K H1 b ys ∧ R (Itzk K k l a b) H1
theorem pi_zipK {X : Cx} {e e2 : Expr} {ta : TA} {p pos tpos : Pos} {elts : List Expr} {kk : Nat} (k l : Kq) (hg : Gl X "zip") (hm : X.mg "zip" = none) (ha : PA X [e, e2] ta)
    (hs : starEach [e, e2] X.env = (false, eval e X.env) :: starEach [e2] X.env := by rfl) (hpl : (backTo pos (starEach [e2] X.env)).any (·.1) = false := by rfl) :
    PI X (.Tuple elts kk tpos) (.Call (.Name "zip" p) [e, e2] [] pos) (iZipK X.K k l ta) := by
  refine ⟨fun pins s σ H R I h => Call_ (ld_blt I hg hm PyProof.Rows.boot_zip (PyProof.Rows.callWith_type1 (thn (ha.run pos pins s σ H _ I h) fun us s1 ⟨vs, H1, I1, r1, q1⟩ => ?_) hs hpl))⟩
  obtain ⟨a, b, xs, ys, ex, hqx, hqy, q⟩ := q1
  subst ex
  obtain ⟨u, v, rfl, ru, rv⟩ := vals2 r1
  cases ru
  cases rv
  obtain ⟨its, _, p1, la⟩ := kq_of I1 hqx
  obtain ⟨its2, _, p2, lb⟩ := kq_of I1 hqy
  refine zip_begins2 (kq_begins k a its.toArray) (kq_begins l b its2.toArray) p1 p2 fun h' hz hTI hTO h1 h2 hsz hk => wpAny_pyIter_zip hz ?_
  have sp := zsep s1.heap.objs.size a b la lb
  refine ⟨s1.heap.objs.size + 4, [s1.heap.objs.size + 4, s1.heap.objs.size + 2, s1.heap.objs.size + 3, s1.heap.objs.size, s1.heap.objs.size + 1], _, _, H1, rfl, I1.kept (t' := s1.toks) hk, turn_zipK k l (a := a) (b := b) sp.1 sp.2.1 sp.2.2, ⟨hz, hTI, ⟨_, _, hTO⟩, kq_obj k h1, kq_obj l h2⟩, fun c hcm => ?_, q⟩
  have hle : s1.heap.objs.size ≤ c := zle _ c hcm
  exact I1.fpOk hle (I1.hok.fresh hle)
end DV

set_option Elab.async false
set_option linter.all false
set_option maxRecDepth 100000
set_option maxHeartbeats 1000000
namespace DV
open PySem PySem.Spec PyProof.Rows L2
theorem Hd.trans {h1 h2 h3 : Hp} {m1 m2 m3 : List Addr} (a : Hd h1 m1 h2 m2) (b : Hd h2 m2 h3 m3) : Hd h1 m1 h3 m3 := by
  refine ⟨a.1.trans b.1, ?_⟩
  obtain ⟨x, rfl⟩ := a.2
  obtain ⟨y, rfl⟩ := b.2
  exact ⟨x ++ y, by rw [List.append_assoc]⟩
theorem Hd.rep {K : PySem.W.Frag} {F F' : Hp} {μ μ' : List Addr} {v : V} {d : D} (h : Hd F μ F' μ') (r : Rep K F μ v d) : Rep K F' μ' v d := r.mono h.1 h.2
theorem Hd.reps {K : PySem.W.Frag} {F F' : Hp} {μ μ' : List Addr} {v : List V} {d : List D} (h : Hd F μ F' μ') (r : Reps K F μ v d) : Reps K F' μ' v d := r.mono h.1 h.2
/-- J goes over ds, from any state that holds F0, μ0 -/
structure DWk (K : PySem.W.Frag) (g : Gp) (J : It) (F0 : Hp) (μ0 : List Addr) (ds : List D) : Prop where
  stop : ∀ F μ H st, Ok K g F μ H st → Hd F0 μ0 F μ → J.stop ds.length H
  go : ∀ i F μ H st, Ok K g F μ H st → Hd F0 μ0 F μ → i < ds.length → J.go i H
  yld : ∀ i F μ H st x H', Ok K g F μ H st → Hd F0 μ0 F μ → i < ds.length → J.yld i H x H' → ∃ d F', ds[i]? = some d ∧ Go F μ H F' μ H' ∧ Ok K g F' μ H' st ∧ Rep K F' μ x d
def tI (K : PySem.W.Frag) (g : Gp) (B : Bs) (Z : ZZ) (f : AF) : TI := fun σ H Q => ∃ env F μ st, Rl K g B F μ H env st σ ∧ Aft K g F μ H Z (f env st) fun ds _ F' μ' H' => ∀ J, DWk K g J F' μ' ds → Q J H'
def DI (g : Gp) (X : Cx) (B : Bs) (Z : ZZ) (tg iter : Expr) (f : AF) : Prop := PI X tg iter (tI X.K g B Z f)
section
variable {g : Gp} {X : Cx} {B : Bs} {Z : ZZ} {e a b c l tg iter : Expr} {es rest : List Expr} {f fa fb fc : EF} {fr fi : AF} {ft fu fv : TF} {pos : Pos} {s : Stmt} {ss sb sc : List Stmt} {fs gs hs : SF} {ws : List Nat}
theorem PI.imp {w w' : TI} (h : PI X tg iter w) (q : ∀ σ H R, w' σ H R → w σ H R) : PI X tg iter w' := ⟨fun pins s σ H R I z => h.run pins s σ H R I (q σ H R z)⟩
/-! ### what is walked -/
theorem dw_seq {K : PySem.W.Frag} {k : Kq} {F : Hp} {μ : List Addr} {p : Addr} {vs : List V} {ds : List D} (J : It) (hs : ∀ F' H st μ', Ok K g F' μ' H st → Hd F μ F' μ' → k.sq K H p vs) (r : Reps K F μ vs ds)
    (e1 : J.stop = fun i H => ∃ xs, k.sq K H p xs ∧ xs.length ≤ i) (e2 : J.go = fun i H => ∃ xs x, k.sq K H p xs ∧ xs[i]? = some x) (e3 : J.yld = fun i H x H' => H' = H ∧ ∀ xs, k.sq K H p xs → xs[i]? = some x) : DWk K g J F μ ds where
  stop := fun F' μ' H st ok hd => by rw [e1]; exact ⟨vs, hs _ _ _ _ ok hd, Nat.le_of_eq r.length⟩
  go := fun i F' μ' H st ok hd hi => by
    rw [e2]
    have : i < vs.length := by rw [r.length]; exact hi
    exact ⟨vs, vs[i], hs _ _ _ _ ok hd, List.getElem?_eq_getElem this⟩
  yld := fun i F' μ' H st x H' ok hd hi y => by
    rw [e3] at y
    obtain ⟨rfl, y⟩ := y
    obtain ⟨d, h1, h2⟩ := r.getV (y vs (hs _ _ _ _ ok hd))
    exact ⟨d, F', h1, Go.refl, ok, hd.rep h2⟩
theorem hs_l {K : PySem.W.Frag} {F : Hp} {μ : List Addr} {p : Addr} {vs : List V} (h : SqL K F p vs) : ∀ F' H st μ', Ok K g F' μ' H st → Hd F μ F' μ' → Kq.l.sq K H p vs := fun F' H st μ' ok hd => ok.sub.l (hd.1.l h)
theorem hs_t {K : PySem.W.Frag} {F : Hp} {μ : List Addr} {p : Addr} {vs : List V} (h : SqT K F p vs) : ∀ F' H st μ', Ok K g F' μ' H st → Hd F μ F' μ' → Kq.t.sq K H p vs := fun F' H st μ' ok hd => ok.sub.t (hd.1.t h)
def chars (x : Str) : List D := x.cps.toList.map fun c => .str ⟨#[c]⟩
def D.items : D → Option (List D)
  | .tup ds => some ds
  | .lst ds => some ds
  | .frz ds => some ds
  | .str x => some (chars x)
  | _ => none
def aIt (f : EF) : AF := fun env st => (f env st).bind fun d st => match d.items with
  | some ds => .ok ds st
  | none => .bad
theorem dw_str {K : PySem.W.Frag} {F : Hp} {μ : List Addr} (x : Str) : DWk K g (Its x) F μ (chars x) where
  stop := fun F' μ' H st ok hd => by
    show x.cps.size ≤ _
    simp [chars]
  go := fun i F' μ' H st ok hd hi => by
    show i < x.cps.size
    simpa [chars] using hi
  yld := fun i F' μ' H st y H' ok hd hi h => by
    obtain ⟨rfl, c, hc, rfl⟩ := h
    refine ⟨.str ⟨#[c]⟩, F', ?_, Go.refl, ok, .str _⟩
    unfold chars
    rw [List.getElem?_map, Array.getElem?_toList, hc]
    rfl
theorem di_seq (he : DE g X B Z e f) : DI g X B Z tg e (aIt f) := by
  refine ⟨fun pins s σ H R I z => ?_⟩
  obtain ⟨env, F, μ, st, r, z⟩ := z
  unfold aIt at z
  cases q : f env st with
  | bad => rw [q] at z; exact z.elim
  | exc c st' =>
    refine (pi_tup he).run pins s σ H R I ⟨env, F, μ, st, r, ?_⟩
    rw [q] at z ⊢
    exact z
  | ok d st' =>
    rw [q] at z
    cases d with
    | tup ds =>
      refine (pi_tup he).run pins s σ H R I ⟨env, F, μ, st, r, ?_⟩
      rw [q]
      intro F1 μ1 H1 x1 k1 v rv
      cases rv with
      | tup hs rs => exact ⟨_, rfl, ⟨_, k1.sub.t hs⟩, z F1 μ1 H1 x1 k1 _ (dw_seq (k := .t) _ (hs_t hs) rs rfl rfl rfl)⟩
    | lst ds =>
      refine (pi_list he).run pins s σ H R I ⟨env, F, μ, st, r, ?_⟩
      rw [q]
      intro F1 μ1 H1 x1 k1 v rv
      cases rv with
      | lst hs rs => exact ⟨_, rfl, ⟨_, k1.sub.l (.inl (.inl hs))⟩, z F1 μ1 H1 x1 k1 _ (dw_seq (k := .l) _ (hs_l (.inl (.inl hs))) rs rfl rfl rfl)⟩
    | frz ds =>
      refine (pi_list he).run pins s σ H R I ⟨env, F, μ, st, r, ?_⟩
      rw [q]
      intro F1 μ1 H1 x1 k1 v rv
      cases rv with
      | frz hs rs => exact ⟨_, rfl, ⟨_, k1.sub.l hs⟩, z F1 μ1 H1 x1 k1 _ (dw_seq (k := .l) _ (hs_l hs) rs rfl rfl rfl)⟩
    | str x =>
      refine (pi_str he).run pins s σ H R I ⟨env, F, μ, st, r, ?_⟩
      rw [q]
      intro F1 μ1 H1 x1 k1 v rv
      cases rv
      exact ⟨_, rfl, z F1 μ1 H1 x1 k1 _ (dw_str x)⟩
    | _ => exact z.elim
/-! ### range -/
def upFrom (i : Int) (n : Nat) : List D := (List.range n).map fun k => .int (i + (k : Nat))
def inRg (i : Int) : Bool := decide (-(2 ^ 62) ≤ i) && decide (i < 2 ^ 62)
def aRg1 (fr : AF) : AF := fun env st => (fr env st).bind fun ds st => match ds with
  | [.int j] => if inRg j then .ok (upFrom 0 j.toNat) st else .bad
  | _ => .bad
def aRg2 (fr : AF) : AF := fun env st => (fr env st).bind fun ds st => match ds with
  | [.int i, .int j] => if inRg i && inRg j then .ok (upFrom i (j - i).toNat) st else .bad
  | _ => .bad
def downFrom (i : Int) (n : Nat) : List D := (List.range n).map fun k => .int (i - (k : Nat))
def aRgD (fr : AF) : AF := fun env st => (fr env st).bind fun ds st => match ds with
  | [.int i, .int j, .int (-1)] => if inRg i && inRg j then .ok (downFrom i (i - j).toNat) st else .bad
  | _ => .bad
theorem dw_rg {K : PySem.W.Frag} {F : Hp} {μ : List Addr} (i : Int) (n : Nat) : DWk K g (Itr i n) F μ (upFrom i n) where
  stop := fun F' μ' H st ok hd => by show n ≤ _; simp [upFrom]
  go := fun k F' μ' H st ok hd hi => by show k < n; simpa [upFrom] using hi
  yld := fun k F' μ' H st y H' ok hd hi h => by
    obtain ⟨rfl, rfl⟩ := h
    have hi : k < n := by simpa [upFrom] using hi
    exact ⟨.int (i + k), F', by simp [upFrom, hi], Go.refl, ok, .int _⟩
theorem dw_rgD {K : PySem.W.Frag} {F : Hp} {μ : List Addr} (i : Int) (n : Nat) : DWk K g (Itc i (-1) n) F μ (downFrom i n) where
  stop := fun F' μ' H st ok hd => by show n ≤ _; simp [downFrom]
  go := fun k F' μ' H st ok hd hi => by show k < n; simpa [downFrom] using hi
  yld := fun k F' μ' H st y H' ok hd hi h => by
    obtain ⟨rfl, rfl⟩ := h
    have hi : k < n := by simpa [downFrom] using hi
    refine ⟨.int (i - k), F', by simp [downFrom, hi], Go.refl, ok, ?_⟩
    have e : i + (k : Int) * -1 = i - k := by omega
    rw [e]
    exact .int _
theorem inRg_of {i : Int} (h : inRg i = true) : -(2 ^ 62) ≤ i ∧ i < 2 ^ 62 := by
  unfold inRg at h
  rw [Bool.and_eq_true, decide_eq_true_eq, decide_eq_true_eq] at h
  exact h
theorem di_rg1 {p : Pos} (hg : Gl X "range") (hm : X.mg "range" = none) (ha : DA g X B Z [a] fr) (hs : starEach [a] X.env = [(false, eval a X.env)] := by rfl) : DI g X B Z tg (.Call (.Name "range" p) [a] [] pos) (aRg1 fr) :=
  PI.imp (pi_range1 hg hm ha hs) fun σ H R ⟨env, F, μ, st, r, z⟩ => tA_of r (Aft.bind z) fun ds s vs F1 μ1 H1 x1 r1 h1 rs => by
    split at h1
    · cases rs with
      | cons h0 h1 =>
        cases h1
        cases h0
        split at h1
        · rename_i j hj
          exact ⟨j, rfl, (inRg_of hj).1, (inRg_of hj).2, h1.here r1.ok _ (dw_rg 0 _)⟩
        · exact h1.elim
    · exact h1.elim
theorem di_rg2 {p : Pos} (hg : Gl X "range") (hm : X.mg "range" = none) (ha : DA g X B Z [a, b] fr) (hs : starEach [a, b] X.env = [(false, eval a X.env), (false, eval b X.env)] := by rfl) (hs2 : starEach [b] X.env = [(false, eval b X.env)] := by rfl) : DI g X B Z tg (.Call (.Name "range" p) [a, b] [] pos) (aRg2 fr) :=
  PI.imp (pi_range2 hg hm ha hs hs2) fun σ H R ⟨env, F, μ, st, r, z⟩ => tA_of r (Aft.bind z) fun ds s vs F1 μ1 H1 x1 r1 h1 rs => by
    split at h1
    · obtain ⟨v, w, rfl, q1, q2⟩ := reps2 rs
      cases q1
      cases q2
      split at h1
      · rename_i i j hj
        rw [Bool.and_eq_true] at hj
        exact ⟨i, j, rfl, ⟨(inRg_of hj.1).1, (inRg_of hj.1).2, (inRg_of hj.2).1, (inRg_of hj.2).2⟩, h1.here r1.ok _ (dw_rg _ _)⟩
      · exact h1.elim
    · exact h1.elim
theorem di_rgD {p : Pos} (hg : Gl X "range") (hm : X.mg "range" = none) (ha : DA g X B Z [a, b, c] fr) (hs : starEach [a, b, c] X.env = (false, eval a X.env) :: starEach [b, c] X.env := by rfl) (hpl : (backTo pos (starEach [b, c] X.env)).any (·.1) = false := by rfl) : DI g X B Z tg (.Call (.Name "range" p) [a, b, c] [] pos) (aRgD fr) :=
  PI.imp (pi_range3 hg hm ha hs hpl) fun σ H R ⟨env, F, μ, st, r, z⟩ => tA_of r (Aft.bind z) fun ds s vs F1 μ1 H1 x1 r1 h1 rs => by
    split at h1
    · cases rs with
      | cons q1 rs =>
        obtain ⟨v, w, rfl, q2, q3⟩ := reps2 rs
        cases q1
        cases q2
        cases q3
        split at h1
        · rename_i i j hj
          rw [Bool.and_eq_true] at hj
          exact ⟨i, j, -1, _, rfl, .neg (inRg_of hj.1).1 (inRg_of hj.1).2 (inRg_of hj.2).1 (inRg_of hj.2).2, h1.here r1.ok _ (dw_rgD _ _)⟩
        · exact h1.elim
    · exact h1.elim
/-! ### pairs handed out -/
/-- a list or a tuple that stays: where it lies -/
def D.pure : D → Option (Kq × List D)
  | .tup ds => some (.t, ds)
  | .lst ds => some (.l, ds)
  | .frz ds => some (.l, ds)
  | _ => none
theorem pure_sq {K : PySem.W.Frag} {F : Hp} {μ : List Addr} {v : V} {d : D} {k : Kq} {ds : List D} (r : Rep K F μ v d) (e : d.pure = some (k, ds)) : ∃ p vs, v = .ref p ∧ Reps K F μ vs ds ∧ k.sq K F p vs ∧ ∀ F' H st μ', Ok K g F' μ' H st → Hd F μ F' μ' → k.sq K H p vs := by
  unfold D.pure at e
  split at e
  · cases e
    cases r with
    | tup hs rs => exact ⟨_, _, rfl, rs, hs, hs_t hs⟩
  · cases e
    cases r with
    | lst hs rs => exact ⟨_, _, rfl, rs, .inl (.inl hs), hs_l (.inl (.inl hs))⟩
  · cases e
    cases r with
    | frz hs rs => exact ⟨_, _, rfl, rs, hs, hs_l hs⟩
  · cases e
def numFrom (i : Int) : List D → List D
  | [] => []
  | d :: ds => .tup [.int i, d] :: numFrom (i + 1) ds
theorem numFrom_len : ∀ {ds : List D} {i : Int}, (numFrom i ds).length = ds.length
  | [], _ => rfl
  | _ :: _, _ => by rw [numFrom, List.length_cons, List.length_cons, numFrom_len]
theorem numFrom_get : ∀ {ds : List D} {i : Int} {k : Nat} {d : D}, ds[k]? = some d → (numFrom i ds)[k]? = some (.tup [.int (i + k), d])
  | [], _, _, _, h => by simp at h
  | x :: xs, i, 0, d, h => by simp at h; subst h; simp [numFrom]
  | x :: xs, i, k + 1, d, h => by
    have e : i + ((k + 1 : Nat) : Int) = (i + 1) + k := by omega
    rw [e, numFrom, List.getElem?_cons_succ]
    exact numFrom_get (by simpa using h)
def aEnum (fr : AF) : AF := fun env st => (fr env st).bind fun ds st => match ds with
  | [d] => match d.pure with
    | some (_, ds) => .ok (numFrom 0 ds) st
    | none => .bad
  | _ => .bad
theorem dw_enum {K : PySem.W.Frag} {k : Kq} {F : Hp} {μ : List Addr} {p : Addr} {vs : List V} {ds : List D} (hs : ∀ F' H st μ', Ok K g F' μ' H st → Hd F μ F' μ' → k.sq K H p vs) (r : Reps K F μ vs ds) : DWk K g (Itek K k p 0) F μ (numFrom 0 ds) where
  stop := fun F' μ' H st ok hd => ⟨vs, hs _ _ _ _ ok hd, by rw [numFrom_len]; exact r.length⟩
  go := fun i F' μ' H st ok hd hi => by
    rw [numFrom_len] at hi
    have : i < vs.length := by rw [r.length]; exact hi
    exact ⟨vs, vs[i], hs _ _ _ _ ok hd, List.getElem?_eq_getElem this⟩
  yld := fun i F' μ' H st x H' ok hd hi y => by
    obtain ⟨T, x, rfl, hT, rfl, y⟩ := y
    obtain ⟨d, h1, h2⟩ := r.getV (y vs (hs _ _ _ _ ok hd))
    obtain ⟨g2, k2⟩ := ok.put (o := .tup [.int (0 + (i : Int)), x]) hT (fun ps z => by cases z)
    exact ⟨_, _, numFrom_get h1, g2, k2, .tup (.of upd_same) (.cons (.int _) (.cons ((hd.rep h2).mono g2.sub g2.pre) .nil))⟩
theorem di_enum {p tpos : Pos} {elts : List Expr} {kk : Nat} (hg : Gl X "enumerate") (hm : X.mg "enumerate" = none) (ha : DA g X B Z [a] fr) (hs : starEach [a] X.env = [(false, eval a X.env)] := by rfl) : DI g X B Z (.Tuple elts kk tpos) (.Call (.Name "enumerate" p) [a] [] pos) (aEnum fr) := by
  refine ⟨fun pins s σ H R I z => ?_⟩
  obtain ⟨env, F, μ, st, r, z⟩ := z
  unfold aEnum at z
  cases q : fr env st with
  | bad => rw [q] at z; exact z.elim
  | exc c st' =>
    refine (pi_enumK .t hg hm ha hs).run pins s σ H R I ⟨env, F, μ, st, r, ?_⟩
    rw [q] at z ⊢
    exact z
  | ok ds st' =>
    rw [q] at z
    dsimp only [DV.R.bind] at z
    split at z
    · rename_i d
      split at z
      · rename_i k es hd
        refine (pi_enumK k hg hm ha hs).run pins s σ H R I ⟨env, F, μ, st, r, ?_⟩
        rw [q]
        intro F1 μ1 H1 x1 k1 vs rv
        cases rv with
        | cons r1 rr =>
          cases rr
          obtain ⟨p, ws, rfl, rs, h1, h2⟩ := pure_sq (g := g) r1 hd
          exact ⟨p, ws, rfl, h2 _ _ _ _ k1 (Hd.refl _ _), z F1 μ1 H1 x1 k1 _ (dw_enum h2 rs)⟩
      · exact z.elim
    · exact z.elim
def zipD : List D → List D → List D
  | x :: xs, y :: ys => .tup [x, y] :: zipD xs ys
  | _, _ => []
theorem zipD_len : ∀ {ds es : List D}, (zipD ds es).length = min ds.length es.length
  | [], _ => by simp [zipD]
  | _ :: _, [] => by simp [zipD]
  | _ :: xs, _ :: ys => by rw [zipD, List.length_cons, List.length_cons, List.length_cons, zipD_len]; omega
theorem zipD_get : ∀ {ds es : List D} {k : Nat} {d e : D}, ds[k]? = some d → es[k]? = some e → (zipD ds es)[k]? = some (.tup [d, e])
  | [], _, _, _, _, h, _ => by simp at h
  | _ :: _, [], _, _, _, _, h => by simp at h
  | x :: xs, y :: ys, 0, d, e, h, h' => by simp at h h'; subst h h'; simp [zipD]
  | x :: xs, y :: ys, k + 1, d, e, h, h' => by
    rw [zipD, List.getElem?_cons_succ]
    exact zipD_get (by simpa using h) (by simpa using h')
def aZip (fr : AF) : AF := fun env st => (fr env st).bind fun ds st => match ds with
  | [d, e] => match d.pure, e.pure with
    | some (_, ds), some (_, es) => .ok (zipD ds es) st
    | _, _ => .bad
  | _ => .bad
theorem dw_zip {K : PySem.W.Frag} {k l : Kq} {F : Hp} {μ : List Addr} {p q : Addr} {vs ws : List V} {ds es : List D} (hs : ∀ F' H st μ', Ok K g F' μ' H st → Hd F μ F' μ' → k.sq K H p vs) (hs2 : ∀ F' H st μ', Ok K g F' μ' H st → Hd F μ F' μ' → l.sq K H q ws) (r : Reps K F μ vs ds) (r2 : Reps K F μ ws es) : DWk K g (Itzk K k l p q) F μ (zipD ds es) where
  stop := fun F' μ' H st ok hd => ⟨vs, ws, hs _ _ _ _ ok hd, hs2 _ _ _ _ ok hd, by rw [zipD_len, r.length, r2.length]⟩
  go := fun i F' μ' H st ok hd hi => by
    rw [zipD_len] at hi
    have h1 : i < vs.length := by rw [r.length]; omega
    have h2 : i < ws.length := by rw [r2.length]; omega
    exact ⟨vs, ws, vs[i], ws[i], hs _ _ _ _ ok hd, hs2 _ _ _ _ ok hd, List.getElem?_eq_getElem h1, List.getElem?_eq_getElem h2⟩
  yld := fun i F' μ' H st x H' ok hd hi y => by
    obtain ⟨T, x, y, rfl, hT, rfl, y1, y2⟩ := y
    obtain ⟨d, h1, h2⟩ := r.getV (y1 vs (hs _ _ _ _ ok hd))
    obtain ⟨d2, h3, h4⟩ := r2.getV (y2 ws (hs2 _ _ _ _ ok hd))
    obtain ⟨g2, k2⟩ := ok.put (o := .tup [x, y]) hT (fun ps z => by cases z)
    exact ⟨_, _, zipD_get h1 h3, g2, k2, .tup (.of upd_same) (.cons ((hd.rep h2).mono g2.sub g2.pre) (.cons ((hd.rep h4).mono g2.sub g2.pre) .nil))⟩
theorem di_zip {p tpos : Pos} {elts : List Expr} {kk : Nat} (hg : Gl X "zip") (hm : X.mg "zip" = none) (ha : DA g X B Z [a, b] fr) (hs : starEach [a, b] X.env = (false, eval a X.env) :: starEach [b] X.env := by rfl) (hpl : (backTo pos (starEach [b] X.env)).any (·.1) = false := by rfl) :
    DI g X B Z (.Tuple elts kk tpos) (.Call (.Name "zip" p) [a, b] [] pos) (aZip fr) := by
  refine ⟨fun pins s σ H R I z => ?_⟩
  obtain ⟨env, F, μ, st, r, z⟩ := z
  unfold aZip at z
  cases q : fr env st with
  | bad => rw [q] at z; exact z.elim
  | exc c st' =>
    refine (pi_zipK .t .t hg hm ha hs hpl).run pins s σ H R I ⟨env, F, μ, st, r, ?_⟩
    rw [q] at z ⊢
    exact z
  | ok ds st' =>
    rw [q] at z
    dsimp only [DV.R.bind] at z
    split at z
    · rename_i d e
      split at z
      · rename_i k es l es2 hd he
        refine (pi_zipK k l hg hm ha hs hpl).run pins s σ H R I ⟨env, F, μ, st, r, ?_⟩
        rw [q]
        intro F1 μ1 H1 x1 k1 vs rv
        obtain ⟨v, w, rfl, r1, r2⟩ := reps2 rv
        obtain ⟨p, ws, rfl, rs, _, h2⟩ := pure_sq (g := g) r1 hd
        obtain ⟨p2, ws2, rfl, rs2, _, h4⟩ := pure_sq (g := g) r2 he
        exact ⟨p, p2, ws, ws2, rfl, h2 _ _ _ _ k1 (Hd.refl _ _), h4 _ _ _ _ k1 (Hd.refl _ _), z F1 μ1 H1 x1 k1 _ (dw_zip h2 h4 rs rs2)⟩
      · exact z.elim
    · exact z.elim
/-! ### for, while -/
def forD (t : GF) (b : SF) : List D → SF
  | [], env, st => .nx env st
  | d :: ds, env, st => match t d env with
    | none => .bad
    | some env1 => match b env1 st with
      | .nx e s => forD t b ds e s
      | .ct e s => forD t b ds e s
      | .bk e s => .nx e s
      | .rt v s => .rt v s
      | .exc c s => .exc c s
      | .bad => .bad
def sFor (fi : AF) (t : GF) (b : SF) : SF := fun env st => RS.ofR (fi env st) fun ds st => forD t b ds env st
theorem ds_for {t : GF} (hp : PassesOwn (model X.prog X.w) X.A X.env X.xe) (hc : X.calm = true) (hi : DI g X B Z tg iter fi) (hg : DG g X B ws tg t) (hb : DSs g X B Z sb fs) (hs : ∀ x, foldedSetIterable iter X.env x = pure x := by intro _; rfl) : DS g X B Z (.For tg iter sb [] pos) (sFor fi t fs) :=
  PS.imp (ps_for hp hc hi hg hb hs) fun D σ H ⟨hw, mw, env, F, μ, st, r, d, h⟩ => by
    refine ⟨env, F, μ, st, r, (AftS.ofR h).mono fun ds st1 F1 μ1 H1 _ x1 k1 p J wk => ?_⟩
    refine ⟨fun i m σ H => m = ds.length - i ∧ i ≤ ds.length ∧ ∃ env F μ st, Rl X.K g B F μ H env st σ ∧ Hd F1 μ1 F μ ∧ Hd hw mw F μ ∧ AftS X.K g B Z hw mw (forD t fs (ds.drop i) env st) D, ⟨ds.length, rfl, Nat.zero_le _, env, F1, μ1, st1, r.step x1 k1, Hd.refl _ _, d.go x1, p⟩, ?_⟩
    rintro i m σ H ⟨rfl, hi, env, F, μ, st, r, d1, dw, p⟩
    by_cases hlt : i < ds.length
    · refine .inr ⟨wk.go i F μ H st r.ok d1 hlt, fun σ' H' => i + 1 ≤ ds.length ∧ ∃ env F μ st, Rl X.K g B F μ H' env st σ' ∧ Hd F1 μ1 F μ ∧ Hd hw mw F μ ∧ AftS X.K g B Z hw mw (forD t fs (ds.drop (i + 1)) env st) D,
        fun σ' H' n => ⟨ds.length - (i + 1), by omega, rfl, n⟩, fun x H' y => ?_⟩
      obtain ⟨e, F2, h1, x2, k2, rx⟩ := wk.yld i F μ H st x H' r.ok d1 hlt y
      have hd : ds.drop i = e :: ds.drop (i + 1) := by
        rw [List.drop_eq_getElem_cons hlt]
        rw [List.getElem?_eq_getElem hlt] at h1
        cases h1
        rfl
      rw [hd] at p
      unfold forD at p
      cases q : t e env with
      | none => rw [q] at p; exact p.elim
      | some env1 =>
        rw [q] at p
        have r2 := r.step x2 k2
        refine ⟨F2, μ, st, env, e, env1, r2, rx, q, fun σ2 r3 _ => ⟨F2, μ, env1, F2, μ, st, r3, Hd.refl _ _, ?_⟩⟩
        have d2 := d1.go x2
        have dw2 := dw.go x2
        cases q2 : fs env1 st with
        | nx e2 s2 =>
          simp only [q2] at p
          exact fun F' μ' H' σ' r' d' => ⟨hlt, e2, F', μ', s2, r', d2.trans d', dw2.trans d', p⟩
        | ct e2 s2 =>
          simp only [q2] at p
          exact fun F' μ' H' σ' r' d' => ⟨hlt, e2, F', μ', s2, r', d2.trans d', dw2.trans d', p⟩
        | bk e2 s2 =>
          simp only [q2] at p
          exact fun F' μ' H' σ' r' d' => p F' μ' H' σ' r' (dw2.trans d')
        | rt v s2 =>
          simp only [q2] at p
          exact p
        | exc c s2 =>
          simp only [q2] at p
          exact p
        | bad =>
          simp only [q2] at p
          exact p.elim
    · have e : i = ds.length := by omega
      subst e
      rw [List.drop_length] at p
      exact .inl ⟨wk.stop F μ H st r.ok d1, p F μ H σ r dw⟩
def whileN (c : TF) (b : SF) : Nat → SF
  | 0, _, _ => .bad
  | n + 1, env, st => RS.ofR (c env st) fun x st => if x then match b env st with
      | .nx e s => whileN c b n e s
      | .ct e s => whileN c b n e s
      | .bk e s => .nx e s
      | .rt v s => .rt v s
      | .exc c s => .exc c s
      | .bad => .bad
    else .nx env st
def sWhile (fu : List Sl → List O → Nat) (c : TF) (b : SF) : SF := fun env st => whileN c b (fu env st) env st
theorem ds_while {fu : List Sl → List O → Nat} (hp : PassesOwn (model X.prog X.w) X.A X.env X.xe) (hc : DT g X B Z c ft) (hb : DSs g X B Z sb fs) : DS g X B Z (.While c sb [] pos) (sWhile fu ft fs) :=
  PS.imp (ps_while hp hc hb) fun D σ H ⟨hw, mw, env, F, μ, st, r, d, h⟩ => by
    refine ⟨fun n σ H => ∃ env F μ st, Rl X.K g B F μ H env st σ ∧ Hd hw mw F μ ∧ AftS X.K g B Z hw mw (whileN ft fs n env st) D, ⟨fu env st, env, F, μ, st, r, d, h⟩, ?_⟩
    rintro n σ H ⟨env, F, μ, st, r, d, p⟩
    cases n with
    | zero => exact p.elim
    | succ n =>
      refine tT_of r (AftS.ofR p) fun b s F1 μ1 H1 x1 r1 p => ?_
      have d1 := d.go x1
      cases b with
      | false => exact p F1 μ1 H1 σ r1 d1
      | true =>
        simp only [if_true] at p ⊢
        refine ⟨fun σ' H' => ∃ env F μ st, Rl X.K g B F μ H' env st σ' ∧ Hd hw mw F μ ∧ AftS X.K g B Z hw mw (whileN ft fs n env st) D, fun σ' H' q => ⟨n, Nat.lt_succ_self _, q⟩, F1, μ1, env, F1, μ1, s, r1, Hd.refl _ _, ?_⟩
        cases q2 : fs env s with
        | nx e2 s2 =>
          simp only [q2] at p
          exact fun F' μ' H' σ' r' d' => ⟨e2, F', μ', s2, r', d1.trans d', p⟩
        | ct e2 s2 =>
          simp only [q2] at p
          exact fun F' μ' H' σ' r' d' => ⟨e2, F', μ', s2, r', d1.trans d', p⟩
        | bk e2 s2 =>
          simp only [q2] at p
          exact fun F' μ' H' σ' r' d' => p F' μ' H' σ' r' (d1.trans d')
        | rt v s2 =>
          simp only [q2] at p
          exact p
        | exc c s2 =>
          simp only [q2] at p
          exact p
        | bad =>
          simp only [q2] at p
          exact p.elim
end
end DV

set_option Elab.async false
set_option linter.all false
set_option maxRecDepth 100000
set_option maxHeartbeats 1000000
namespace DV
open PySem PySem.Spec PyProof.Rows L2
section
variable {K : PySem.W.Frag} {g : Gp} {B : Bs} {F F' F1 : Hp} {μ μ' μ1 : List Addr} {H H' H1 : Hp} {st st' : List O} {env : List Sl} {σ : St}
theorem Ok.new (k : Ok K g F μ H st) {p : Addr} {o : HO} (hp : H p = none) : Ok K g F μ (upd H p o) st where
  sub := fun a u h => by rw [upd_ne (ne_of_none h (k.fresh hp))]; exact k.sub a u h
  nt := k.nt
  len := k.len
  nd := k.nd
  dis := k.dis
  obj := fun n a ob h1 h2 => by
    have z := k.obj n a ob h1 h2
    have ne : a ≠ p := fun e => z.there (by rw [e]; exact hp)
    cases ob with
    | lst es => obtain ⟨ws, e, q⟩ := z; exact ⟨ws, by rw [upd_ne ne]; exact e, q⟩
  tab := k.tab.ext fun b q h => by rw [upd_ne (ne_of_none h hp)]; exact h
theorem Go.newH {p : Addr} {o : HO} (hp : H p = none) : Go F μ H F μ (upd H p o) :=
  ⟨RdSub.refl F, fun _ h _ => h, ⟨[], by simp, by simp⟩, fun a o h _ _ => by rw [upd_ne (ne_of_none h hp)]; exact h, fun a ⟨u, e, n⟩ => ⟨u, by rw [upd_ne (ne_of_none e hp)]; exact e, n⟩⟩
/-- no name of ours holds the list at p -/
def NoLin (env : List Sl) (σ : St) (p : Addr) : Prop := ∀ (i : Nat) ds a, env[i]? = some (.lin ds) → σ[i]? = some (some (.ref a)) → a ≠ p
theorem Slots.noLin (s : Slots K F μ H env σ) {p : Addr} (hp : H p = none) : NoLin env σ p := fun i ds a h1 h2 z => by
  obtain ⟨b, vs, h3, h4, _⟩ := s.lin i ds h1
  rw [h2] at h3
  cases h3
  rw [z, hp] at h4
  cases h4
/-- a list that nobody else holds, and no name of ours, is changed -/
theorem Rl.mutL (r : Rl K g B F μ H env st σ) {p : Addr} {xs ys : List V} (hp : H p = some (.lst xs)) (hF : F p = none) (hm : p ∉ μ) (hB : ¬ Live B.H p) (hn : NoLin env σ p) : Rl K g B F μ (upd H p (.lst ys)) env st σ where
  ok := r.ok.mut hF hm hp
  sl := ⟨r.sl.len, r.sl.val, fun i ds h => by
    obtain ⟨a, vs, h1, h2, h3⟩ := r.sl.lin i ds h
    exact ⟨a, vs, h1, by rw [upd_ne (hn i ds a h h1)]; exact h2, h3⟩, r.sl.dis⟩
  go := r.go.mut (.inl hB) (by rw [hp]; simp)
  lb := r.lb
/-- .. is given to a name -/
theorem Rl.linAt (r : Rl K g B F μ H env st σ) {i : Nat} {p : Addr} {vs : List V} {ds : List D} (hp : H p = some (.lst vs)) (hF : F p = none) (hm : p ∉ μ) (hB : ¬ Live B.H p) (hn : NoLin env σ p) (rv : Reps K F μ vs ds) :
    Rl K g B F μ H (env.set i (.lin ds)) st (σ.set i (some (.ref p))) := by
  refine ⟨r.ok, ⟨by rw [List.length_set, List.length_set, r.sl.len], fun j d h => ?_, fun j es h => ?_, fun j l es fs a jl h1 h2 h3 => ?_⟩, r.go, fun j es a h1 h2 => ?_⟩
  · rcases get_set h with ⟨_, e2⟩ | ⟨ne, h⟩
    · cases e2
    · rw [List.getElem?_set_ne ne]
      exact r.sl.val j d h
  · rcases get_set h with ⟨e1, e2⟩ | ⟨ne, h⟩
    · subst e1
      cases e2
      exact ⟨p, vs, List.getElem?_set_self (by rw [← r.sl.len]; exact lt_set ‹_›), hp, rv, hF, hm⟩
    · obtain ⟨a, ws, h1, h2⟩ := r.sl.lin j es h
      exact ⟨a, ws, by rw [List.getElem?_set_ne ne]; exact h1, h2⟩
  · rcases get_set h1 with ⟨e1, e2⟩ | ⟨ne, h1⟩
    · subst e1
      rw [List.getElem?_set_self (by rw [← r.sl.len]; exact lt_set ‹_›)] at h3
      cases h3
      rcases get_set h2 with ⟨e1, _⟩ | ⟨ne2, h2⟩
      · exact absurd e1 jl
      · rw [List.getElem?_set_ne ne2]
        exact fun z => hn l fs p h2 z rfl
    · rw [List.getElem?_set_ne ne] at h3
      rcases get_set h2 with ⟨e1, e2⟩ | ⟨ne2, h2⟩
      · subst e1
        rw [List.getElem?_set_self (by rw [← r.sl.len]; exact lt_set ‹_›)]
        intro z
        cases z
        exact hn j es p h1 h3 rfl
      · rw [List.getElem?_set_ne ne2]
        exact r.sl.dis j l es fs a jl h1 h2 h3
  · rcases get_set h1 with ⟨e1, e2⟩ | ⟨ne, h1⟩
    · subst e1
      rw [List.getElem?_set_self (by rw [← r.sl.len]; exact lt_set ‹_›)] at h2
      cases h2
      exact hB
    · rw [List.getElem?_set_ne ne] at h2
      exact r.lb j es a h1 h2
/-! ### the slots of a block's own names -/
def wipeE (env : List Sl) : List Nat → List Sl
  | [] => env
  | v :: vs => (wipeE env vs).set v .un
theorem wipeE_len (env : List Sl) : ∀ vs : List Nat, (wipeE env vs).length = env.length
  | [] => rfl
  | v :: vs => by unfold wipeE; rw [List.length_set, wipeE_len env vs]
theorem wipeE_get {env : List Sl} {i : Nat} {x : Sl} : ∀ {vs : List Nat}, (wipeE env vs)[i]? = some x → x = .un ∨ (i ∉ vs ∧ env[i]? = some x)
  | [], h => .inr ⟨by simp, h⟩
  | v :: vs, h => by
    unfold wipeE at h
    rcases get_set h with ⟨e1, e2⟩ | ⟨ne, h⟩
    · exact .inl e2.symm
    · rcases wipeE_get h with h | ⟨h1, h2⟩
      · exact .inl h
      · exact .inr ⟨by simp only [List.mem_cons, not_or]; exact ⟨fun e => ne e.symm, h1⟩, h2⟩
theorem wipe_in {σ : St} {i : Nat} : ∀ {vs : List Nat}, i ∈ vs → i < σ.length → (wipe σ vs)[i]? = some none
  | v :: vs, h, hl => by
    unfold wipe
    by_cases e : v = i
    · subst e
      exact List.getElem?_set_self (by rw [wipe_length]; exact hl)
    · rw [List.getElem?_set_ne e]
      exact wipe_in ((List.mem_cons.mp h).resolve_left fun z => e z.symm) hl
theorem Off.wipe {vs : List Nat} {σ σ' : St} (h : Off vs σ σ') : L2.wipe σ' vs = L2.wipe σ vs := by
  refine List.ext_getElem? fun i => ?_
  by_cases hi : i ∈ vs
  · by_cases hl : i < σ.length
    · rw [wipe_in hi hl, wipe_in hi (by rw [h.1]; exact hl)]
    · rw [List.getElem?_eq_none (by rw [wipe_length, h.1]; omega), List.getElem?_eq_none (by rw [wipe_length]; omega)]
  · rw [wipe_out hi, wipe_out hi]
    exact h.2 i hi
theorem off_wipe (vs : List Nat) (σ : St) : Off vs σ (L2.wipe σ vs) := ⟨wipe_length σ vs, fun j h => wipe_out h⟩
theorem Rl.wipe (r : Rl K g B F μ H env st σ) (vs : List Nat) : Rl K g B F μ H (wipeE env vs) st (L2.wipe σ vs) where
  ok := r.ok
  sl := ⟨by rw [wipeE_len, wipe_length]; exact r.sl.len, fun i d h => by
      rcases wipeE_get h with h | ⟨h1, h2⟩
      · cases h
      · rw [wipe_out h1]; exact r.sl.val i d h2,
    fun i d h => by
      rcases wipeE_get h with h | ⟨h1, h2⟩
      · cases h
      · rw [wipe_out h1]; exact r.sl.lin i d h2,
    fun i j ds es a ij h1 h2 h3 => by
      rcases wipeE_get h1 with h | ⟨q1, q2⟩
      · cases h
      rcases wipeE_get h2 with h | ⟨q3, q4⟩
      · cases h
      rw [wipe_out q1] at h3
      rw [wipe_out q3]
      exact r.sl.dis i j ds es a ij q2 q4 h3⟩
  go := r.go
  lb := fun i ds a h1 h2 => by
    rcases wipeE_get h1 with h | ⟨q1, q2⟩
    · cases h
    rw [wipe_out q1] at h2
    exact r.lb i ds a q2 h2
end
/-- nothing is let out -/
def R.nox {α : Type} (r : R α) : R α := match r with
  | .exc _ _ => .bad
  | r => r
theorem nox_ok {K : PySem.W.Frag} {g : Gp} {F H : Hp} {μ : List Addr} {Z : ZZ} {α β : Type} {r : R α} {k : α → List O → R β} {P : β → List O → Hp → List Addr → Hp → Prop} (h : Aft K g F μ H Z (r.nox.bind k) P) : ∃ a s, r = .ok a s := by
  cases r with
  | ok a s => exact ⟨a, s, rfl⟩
  | exc c s => exact h.elim
  | bad => exact h.elim
def lcD (t : GF) (c : TF) (e : EF) : List D → List Sl → List O → R (List D)
  | [], env, st => .ok [] st
  | d :: ds, env, st => match t d env with
    | none => .bad
    | some env1 => (c env1 st).nox.bind fun b st => if b then (e env1 st).nox.bind fun y st => (lcD t c e ds env st).bind fun ys st => .ok (y :: ys) st else lcD t c e ds env st
def aLc (fi : AF) (t : GF) (c : TF) (e : EF) (ws : List Nat) : AF := fun env st => (fi env st).bind fun ds st => if ds.length ≤ 100000 then lcD t c e ds (wipeE env ws) st else .bad
def eLc (fi : AF) (t : GF) (c : TF) (e : EF) (ws : List Nat) : EF := fun env st => (aLc fi t c e ws env st).bind fun ys st => .ok (.lst ys) st
section
variable {K : PySem.W.Frag} {g : Gp} {X : Cx} {B : Bs} {Z : ZZ} {fi : AF} {t : GF} {c : TF} {e : EF} {ws : List Nat}
theorem lc_core {F H : Hp} {μ : List Addr} {env : List Sl} {st : List O} {σ : St} {Q : VK} {P : List D → List O → Hp → List Addr → Hp → Prop} (r : Rl K g B F μ H env st σ) (h : Aft K g F μ H Z (aLc fi t c e ws env st) P)
    (hQ : ∀ ys s L acc F1 μ1 H1 F2 μ2 H2, aLc fi t c e ws env st = .ok ys s → Go F μ H F1 μ1 H1 → H1 L = none → Go F1 μ1 H1 F2 μ2 H2 → Ok K g F2 μ2 H2 s → H2 L = some (.lst acc) → F2 L = none → L ∉ μ2 → Reps K F2 μ2 acc ys → Q (.ref L) H2) :
    tLc (tI K g B Z fi) (tG K g B ws t) (tT K g B Z0 c) (tD K g B Z0 e) ws σ H Q := by
  unfold aLc at h hQ
  refine ⟨env, F, μ, st, r, (Aft.bind h).mono fun ds s F1 μ1 H1 hfi x1 k1 p J wk L hL => ?_⟩
  rw [hfi] at hQ
  dsimp only [R.bind] at hQ
  split at p
  case isFalse => exact p.elim
  rename_i hlen
  rw [if_pos hlen] at hQ
  have r1 := (r.step x1 k1).wipe ws
  have hn := r1.sl.noLin hL
  have hB : ¬ Live B.H L := r1.go.fresh (nl hL)
  have hF : F1 L = none := k1.fresh hL
  have hm : L ∉ μ1 := fun z => k1.there z hL
  generalize he0 : wipeE env ws = env0 at *
  generalize hs0 : L2.wipe σ ws = σ0 at *
  refine ⟨fun i m H => m = ds.length - i ∧ i ≤ ds.length ∧ ∃ F μ st acc done, Rl K g B F μ H env0 st σ0 ∧ Hd F1 μ1 F μ ∧ Go F1 μ1 H1 F μ H ∧ H L = some (.lst acc) ∧ F L = none ∧ L ∉ μ ∧ Reps K F μ acc done ∧ acc.length ≤ i ∧
    lcD t c e ds env0 s = ((lcD t c e (ds.drop i) env0 st).bind fun ys st => .ok (done ++ ys) st), ⟨ds.length, rfl, Nat.zero_le _, F1, μ1, s, [], [], ?_, Hd.refl _ _, Go.newH hL, upd_same, hF, hm, .nil, Nat.zero_le _, ?_⟩, ?_⟩
  · refine ⟨k1.new hL, r1.sl.go (Go.newH hL), r1.go.trans (Go.newH hL), r1.lb⟩
  · rw [List.drop_zero]
    cases lcD t c e ds env0 s <;> rfl
  rintro i m H2 ⟨rfl, hi, F2, μ2, st2, acc, done, r2, hd2, g2, hacc, hF2, hm2, racc, hal, eq⟩
  by_cases hlt : i < ds.length
  · refine .inr ⟨wk.go i F2 μ2 H2 st2 r2.ok hd2 hlt, fun H => i + 1 ≤ ds.length ∧ ∃ F μ st acc done, Rl K g B F μ H env0 st σ0 ∧ Hd F1 μ1 F μ ∧ Go F1 μ1 H1 F μ H ∧ H L = some (.lst acc) ∧ F L = none ∧ L ∉ μ ∧ Reps K F μ acc done ∧ acc.length ≤ i + 1 ∧
      lcD t c e ds env0 s = ((lcD t c e (ds.drop (i + 1)) env0 st).bind fun ys st => .ok (done ++ ys) st), fun H' n => ⟨ds.length - (i + 1), by omega, rfl, n⟩, fun x H' y => ?_⟩
    obtain ⟨d, F3, h1, x3, k3, rx⟩ := wk.yld i F2 μ2 H2 st2 x H' r2.ok hd2 hlt y
    have hd : ds.drop i = d :: ds.drop (i + 1) := by
      rw [List.drop_eq_getElem_cons hlt]
      rw [List.getElem?_eq_getElem hlt] at h1
      cases h1
      rfl
    rw [hd] at eq
    have eq0 := eq
    rw [lcD] at eq
    rw [eq] at p
    have keep : ∀ {F F' : Hp} {μ μ' : List Addr} {H H' : Hp} {xs : List V}, Go F μ H F' μ' H' → H L = some (.lst xs) → F L = none → L ∉ μ → H' L = some (.lst xs) ∧ F' L = none ∧ L ∉ μ' := fun x a b c =>
      ⟨x.keep L _ a c (fun ps z => by cases z), x.new L b (live_lst a), x.notin c (live_lst a)⟩
    cases q : t d env0 with
    | none => simp only [q] at p; exact p.elim
    | some env1 =>
      simp only [q] at p eq
      have r3 := r2.step x3 k3
      have l3 := keep x3 hacc hF2 hm2
      have g3 := g2.trans x3
      refine ⟨F3, μ2, st2, env0, d, env1, r3, rx, q, fun σ4 r4 o4 => ⟨?_, ?_⟩⟩
      · rw [o4.wipe, ← hs0, (off_wipe ws σ).wipe]
      obtain ⟨b, s4, hc⟩ : ∃ b s4, c env1 st2 = .ok b s4 := by
        cases hc : c env1 st2 with
        | ok b s4 => exact ⟨b, s4, rfl⟩
        | exc _ _ => rw [hc] at p; exact p.elim
        | bad => rw [hc] at p; exact p.elim
      rw [hc] at p eq
      refine ⟨env1, F3, μ2, st2, r4, ?_⟩
      rw [hc]
      intro F4 μ4 H4 x4 k4
      have l4 := keep x4 l3.1 l3.2.1 l3.2.2
      have g4 := g3.trans x4
      have hd4 : Hd F1 μ1 F4 μ4 := (Hd.refl F1 μ1).go g4
      cases b with
      | false => exact ⟨hlt, F4, μ4, s4, acc, done, r3.step x4 k4, hd4, g4, l4.1, l4.2.1, l4.2.2, racc.mono (x3.trans x4).sub (x3.trans x4).pre, Nat.le_succ_of_le hal, eq⟩
      | true =>
        dsimp only [R.bind, R.nox] at p eq
        rw [if_pos rfl] at p eq
        show tD K g B Z0 e σ4 H4 _
        obtain ⟨yv, s5, hy⟩ : ∃ yv s5, e env1 s4 = .ok yv s5 := by
          cases hc : e env1 s4 with
          | ok b s4 => exact ⟨b, s4, rfl⟩
          | exc _ _ => rw [hc] at p; exact p.elim
          | bad => rw [hc] at p; exact p.elim
        rw [hy] at p eq
        refine ⟨env1, F4, μ4, s4, r4.step x4 k4, ?_⟩
        rw [hy]
        intro F5 μ5 H5 x5 k5 v rv
        have l5 := keep x5 l4.1 l4.2.1 l4.2.2
        have g5 := g4.trans x5
        have r5 := (r3.step x4 k4).step x5 k5
        refine ⟨acc, l5.1, Nat.lt_of_lt_of_le (Nat.lt_of_le_of_lt hal hlt) (Nat.le_trans hlen (by decide)), hlt, F5, μ5, s5, acc ++ [v], done ++ [yv], r5.mutL l5.1 l5.2.1 l5.2.2 hB hn, (Hd.refl F1 μ1).go g5, g5.mut (.inl (nl hL)) (by rw [l5.1]; simp), upd_same, l5.2.1, l5.2.2,
          (racc.mono ((x3.trans x4).trans x5).sub ((x3.trans x4).trans x5).pre).append (.one rv), by rw [List.length_append]; exact Nat.succ_le_succ hal, ?_⟩
        rw [eq]
        dsimp only [R.bind, R.nox]
        cases lcD t c e (ds.drop (i + 1)) env0 s5 with
        | ok ys s6 => show R.ok _ _ = R.ok _ _; rw [List.append_assoc]; rfl
        | exc _ _ => rfl
        | bad => rfl
  · have hi' : i = ds.length := by omega
    subst hi'
    rw [List.drop_length] at eq
    refine .inl ⟨wk.stop F2 μ2 H2 st2 r2.ok hd2, hQ (done ++ []) st2 L acc F1 μ1 H1 F2 μ2 H2 eq x1 hL g2 r2.ok hacc hF2 hm2 (by rw [List.append_nil]; exact racc)⟩
end
def DTs (g : Gp) (X : Cx) (B : Bs) (Z : ZZ) (ifs : List Expr) (c : TF) : Prop := PTs X ifs (tT X.K g B Z c)
def tYes1 : TF := fun _ st => .ok true st
section
variable {g : Gp} {X : Cx} {B : Bs} {Z : ZZ} {cnd : Expr} {c : TF} {e : EF} {fi : AF} {t : GF}
theorem dts_nil : DTs g X B Z [] tYes1 := ⟨fun pins s σ H Q I ⟨env, F, μ, st, r, h⟩ => pts_nil.run pins s σ H Q I (Aft.here (a := true) h r.ok)⟩
theorem dts_one (h : DT g X B Z cnd c) : DTs g X B Z [cnd] c := pts_one h
/-- the context of a block in X -/
abbrev Blk (X : Cx) (scope : Scope) (P : Cx → Prop) : Prop := ∀ (s : Shared) (H : Hp) (C : Addr) (cl : List (Str × Addr)) (fp : List Addr), P (X.blk s H scope (compEnvC scope cl C X.env) fp)
theorem lc_frz {own : List Nat} {σ : St} {H : Hp} {Q : VK} (h : tD X.K g B Z (eLc fi t c e own) σ H Q) : tLc (tI X.K g B Z fi) (tG X.K g B own t) (tT X.K g B Z0 c) (tD X.K g B Z0 e) own σ H Q := by
  obtain ⟨env, F, μ, st, r, h⟩ := h
  refine lc_core r (Aft.bind h) fun ys s L acc F1 μ1 H1 F2 μ2 H2 eq x1 hL x2 k2 hl hF hm rs => ?_
  unfold eLc at h
  rw [eq] at h
  obtain ⟨sb, k3⟩ := k2.frz hF hm hl
  exact h _ _ _ (x1.trans (x2.frz (nl hL) hF)) k3 _ (.lst upd_same (rs.mono sb (Pre.refl _)))
theorem de_lc {elt tg iter : Expr} {ifs : List Expr} {scope : Scope} {own : List (Str × Nat)} {pos : Pos} (hc : X.calm = true) (hN : X.N.Nodup) (hi : DI g X B Z tg iter fi) (ok : BlkOk X.N X.env.scope scope own)
    (hg : Blk X scope fun Y => DG g Y B (own.map fun p : Str × Nat => p.2) tg t) (ht : Blk X scope fun Y => DTs g Y B Z0 ifs c) (he : Blk X scope fun Y => DE g Y B Z0 elt e) (hs : ∀ x, foldedSetIterable iter X.env x = pure x := by intro _; rfl) :
    DE g X B Z (.ListComp elt [⟨tg, iter, ifs, 0⟩] scope pos) (eLc fi t c e (own.map fun p : Str × Nat => p.2)) := PE.imp (pe_lc (g := tG X.K g B (own.map fun p : Str × Nat => p.2) t) (tt := tT X.K g B Z0 c) (te := tD X.K g B Z0 e) hc hN hi ok hg ht he hs) fun σ H Q h => lc_frz h
/-- name = [..] -/
theorem ds_setLc {i : Nat} {y : Str} {py : Pos} {elt tg iter : Expr} {ifs : List Expr} {scope : Scope} {own : List (Str × Nat)} {pos spos : Pos} (hc : X.calm = true) (hN : X.N.Nodup) (hy : X.N[i]? = some y) (hyl : X.env.scope.names.lookup y = some .local)
    (hsw : swapsWith (.ListComp elt [⟨tg, iter, ifs, 0⟩] scope pos) (some (.Name y py)) spos.line X.env = pure true) (hi : DI g X B Z tg iter fi) (ok : BlkOk X.N X.env.scope scope own)
    (hg : Blk X scope fun Y => DG g Y B (own.map fun p : Str × Nat => p.2) tg t) (ht : Blk X scope fun Y => DTs g Y B Z0 ifs c) (he : Blk X scope fun Y => DE g Y B Z0 elt e) (hs : ∀ x, foldedSetIterable iter X.env x = pure x := by intro _; rfl) :
    DS g X B Z (.Assign [.Name y py] (.ListComp elt [⟨tg, iter, ifs, 0⟩] scope pos) spos) (sSet i (eLc fi t c e (own.map fun p : Str × Nat => p.2))) := PS.imp (ps_setLc (g := tG X.K g B (own.map fun p : Str × Nat => p.2) t) (tt := tT X.K g B Z0 c) (te := tD X.K g B Z0 e) hc hN hy hyl hsw hi ok hg ht he hs) fun D σ H ⟨hw, mw, env, F, μ, st, r, d, h⟩ => by
  show tLc _ _ _ _ _ _ _ _
  refine lc_frz (tD_of r (AftS.ofR h) fun d2 s v F' μ' H' x r' p rv => ?_)
  exact p F' μ' H' _ (r'.set rv) (d.go x)
/-- .. the list is the name's own -/
def sLcL (i : Nat) (f : AF) : SF := fun env st => RS.ofR (f env st) fun ys st => .nx (env.set i (.lin ys)) st
theorem ds_setLcL {i : Nat} {y : Str} {py : Pos} {elt tg iter : Expr} {ifs : List Expr} {scope : Scope} {own : List (Str × Nat)} {pos spos : Pos} (hc : X.calm = true) (hN : X.N.Nodup) (hy : X.N[i]? = some y) (hyl : X.env.scope.names.lookup y = some .local)
    (hsw : swapsWith (.ListComp elt [⟨tg, iter, ifs, 0⟩] scope pos) (some (.Name y py)) spos.line X.env = pure true) (hi : DI g X B Z tg iter fi) (ok : BlkOk X.N X.env.scope scope own)
    (hg : Blk X scope fun Y => DG g Y B (own.map fun p : Str × Nat => p.2) tg t) (ht : Blk X scope fun Y => DTs g Y B Z0 ifs c) (he : Blk X scope fun Y => DE g Y B Z0 elt e) (hs : ∀ x, foldedSetIterable iter X.env x = pure x := by intro _; rfl) :
    DS g X B Z (.Assign [.Name y py] (.ListComp elt [⟨tg, iter, ifs, 0⟩] scope pos) spos) (sLcL i (aLc fi t c e (own.map fun p : Str × Nat => p.2))) := PS.imp (ps_setLc (g := tG X.K g B (own.map fun p : Str × Nat => p.2) t) (tt := tT X.K g B Z0 c) (te := tD X.K g B Z0 e) hc hN hy hyl hsw hi ok hg ht he hs) fun D σ H ⟨hw, mw, env, F, μ, st, r, d, h⟩ => by
  show tLc _ _ _ _ _ _ _ _
  refine lc_core r (AftS.ofR h) fun ys s L acc F1 μ1 H1 F2 μ2 H2 eq x1 hL x2 k2 hl hF hm rs => ?_
  unfold sLcL at h
  rw [eq] at h
  have sl1 := r.sl.go x1
  have r2 : Rl X.K g B F2 μ2 H2 env s σ := r.step (x1.trans x2) k2
  exact h F2 μ2 H2 _ (r2.linAt hl hF hm ((r.go.trans x1).fresh (nl hL)) (sl1.noLin hL) rs) (d.go (x1.trans x2))
end
end DV

set_option Elab.async false
set_option linter.all false
set_option maxRecDepth 100000
set_option maxHeartbeats 1000000
namespace DV
open PySem PySem.Spec PyProof.Rows L2
section
variable {g : Gp} {X : Cx} {B : Bs} {Z : ZZ} {e a b c o : Expr} {es rest : List Expr} {f fa fb fc : EF} {fr fi : AF} {pos apos cpos : Pos} {s : Stmt} {ss : List Stmt} {fs : SF}
/-! ### methods that change nothing -/
abbrev FM := List O → D → List D → Option D
def rM (K : PySem.W.Frag) (g : Gp) (h : FM) : V → List V → Hp → VK → Prop := fun x xs H Q => ∃ F μ st dx ds d, Ok K g F μ H st ∧ Rep K F μ x dx ∧ Reps K F μ xs ds ∧ h st dx ds = some d ∧ Gives K g F μ H st d Q
def D.isT (T : String) : D → Bool
  | .str _ => T == "str"
  | .lst _ => T == "list"
  | .frz _ => T == "list"
  | _ => false
theorem D.isT_ty {K : PySem.W.Frag} {F : Hp} {μ : List Addr} {H : Hp} {T : String} {v : V} {d : D} (s : RdSub F H) (r : Rep K F μ v d) (h : D.isT T d = true) : tyV K T v H := by
  cases d with
  | str x => cases r; exact beq_iff_eq.mp h
  | lst ds => cases r with | lst hs _ => exact .inl ⟨by simpa [D.isT] using h, _, .inl (.inl (s _ _ hs))⟩
  | frz ds => cases r with | frz hs _ => exact .inl ⟨by simpa [D.isT] using h, _, s.l hs⟩
  | _ => cases h
def eM (T : String) (h : FM) (f : EF) (fr : AF) : EF := fun env st => (f env st).bind fun x st => if D.isT T x then (fr env st).bind fun ds st => .of (h st x ds) st else .bad
theorem de_m {T id : String} {name : Str} {h : FM} (pa : PlainAttrs T) (slot : Slot T name id) (hty : typeOf (.builtin id) = pure (.type "method_descriptor")) (hm : MtR X id (rM X.K g h)) (ho : DE g X B Z o f) (ha : DA g X B Z (e :: es) fr)
    (hbase : attributeBase o name X.env (eval o X.env) = eval o X.env := by rfl)
    (hfew : ((backTo cpos (starEach (e :: es) X.env)).all (fun x => !x.1) && (backToKw cpos (keywordEach [] X.env)).all (fun x => x.1.isSome) && decide ((e :: es).length + ([] : List Keyword).length + (if ([] : List Keyword).isEmpty then 0 else 1) < 30)) = true := by rfl)
    (hline : (apos.endLine == cpos.line) = true := by rfl) (hs : starEach (e :: es) X.env = (false, eval e X.env) :: starEach es X.env := by rfl) (hplain : (backTo cpos (starEach es X.env)).any (·.1) = false := by rfl) :
    DE g X B Z (.Call (.Attribute o name apos) (e :: es) [] cpos) (eM T h f fr) := PE.imp (pe_bm pa slot hty hm ho ha hbase hfew hline hs hplain) fun σ H Q ⟨env, F, μ, st, r, z⟩ => by
  refine tD_of r z.bind fun d s v F1 μ1 H1 x1 r1 h1 rv => ?_
  split at h1
  · rename_i ht
    refine ⟨D.isT_ty r1.ok.sub rv ht, tA_of r1 h1.bind fun ds s2 vs F2 μ2 H2 x2 r2 h2 rs => ?_⟩
    obtain ⟨y, e, h2⟩ := aft_of h2
    exact ⟨F2, μ2, s2, d, ds, y, r2.ok, rv.mono x2.sub x2.pre, rs, e, fun F' H' v' x k rr => h2 F' μ2 H' x k v' rr⟩
  · exact h1.elim
/-- list.count of data -/
def rCountD (K : PySem.W.Frag) : V → List V → Hp → VK → Prop := fun x xs H Q => ∃ (p : Addr) (y : V) (d : PyData) (ds : List PyData), x = .ref p ∧ xs = [y] ∧ Dp K H (.ref p) (.list ds) ∧ Dp K H y d ∧ SeqAt.shaped (.list ds) = true ∧ SeqAt.shaped d = true ∧
  Q (.int (ds.countP fun z => PyData.eqv z d : Nat)) H
theorem mt_countD (hu : X.A.units + 65 < cLine) : MtR X "list.count" (rCountD X.K) := by
  intro pins s σ H x xs v us Q I rx rxs h
  obtain ⟨p, y, d, ds, rfl, rfl, hl, hy, sl, sd, q⟩ := h
  cases rx
  obtain ⟨u, rfl, ru⟩ := rxs.one
  obtain ⟨bs, r1⟩ := Dp.reads I d y u hy ru
  have lay : PyData.canLayAll0 ds = true := SeqAt.canLay_of_shaped sl
  have room : X.A.units + 1 + min (PyData.depthAll ds) d.depth < cLine := room_in_shaped sd hu
  cases hl with
  | lst hs ha =>
    obtain ⟨its, rv, ⟨⟨cls, dd, data, sls⟩, n, ho, hc, hdn, hdt⟩, hlen⟩ := I.list hs
    simp only at hc hdt
    subst hc hdt
    obtain ⟨as, h4⟩ := Dp.readsAll I ds _ its ha rv
    have hmap : its.map (SeqAt.readOf s.heap) = ds := SeqAt.readsAll_map ds its as lay h4
    refine call_meets PySem.F.slot_list_count ⟨_, ho, rfl⟩ PySem.F.entry_list_count (PySem.F.args_list_count_2 _ _)
      (SeqAt.list_countAt p its.toArray n dd sls u fun w => PyData.eqv (SeqAt.readOf s.heap w) d) ⟨ho, SeqAt.items_eqAt (vs := its.toArray) (show ReadsAll s.heap its.toArray.toList ds as from h4) r1 lay (SeqAt.canLay_of_shaped sd) room, ?_⟩
    have ec : its.toArray.toList.countP (fun w => PyData.eqv (SeqAt.readOf s.heap w) d) = ds.countP fun z => PyData.eqv z d := by
      rw [← hmap, List.countP_map]
      rfl
    rw [← ec] at q
    exact ⟨.int _, H, I.tok _, ⟨s.toks, rfl⟩, q⟩
theorem eqbs_count (d : D) : ∀ ds : List D, (D.pys ds).countP (fun z => PyData.eqv z d.py) = ds.countP fun z => D.eqb z d
  | [] => rfl
  | x :: xs => by
    rw [D.pys, List.countP_cons, List.countP_cons, eqbs_count d xs, D.eqb_py]
def hCount : FM := fun _ x xs => match x, xs with
  | .lst ds, [d] => if D.fit 60 (.lst ds) && D.fit 60 d then some (.int (ds.countP fun z => D.eqb z d : Nat)) else none
  | _, _ => none
theorem m_count (hu : X.A.units + 65 < cLine) : MtR X "list.count" (rM X.K g hCount) := by
  intro pins s σ H x xs v us Q I rx rs z
  obtain ⟨F, μ, st, dx, ds, d, k, r1, r2, e, gv⟩ := z
  refine mt_countD hu pins s σ H x xs v us Q I rx rs ?_
  unfold hCount at e
  split at e
  · split at e
    · rename_i hf
      cases e
      rw [Bool.and_eq_true] at hf
      obtain ⟨w, rfl, rw2⟩ := reps1 r2
      have q1 := r1.dp k.sub _ hf.1
      cases r1 with
      | lst hs rr =>
        refine ⟨_, w, _, _, rfl, rfl, q1, rw2.dp k.sub _ hf.2, D.shaped hf.1, D.shaped hf.2, ?_⟩
        rw [eqbs_count]
        exact gv_now gv k (.int _)
    · cases e
  · cases e

/-! ### lists that one name alone holds -/
/-- name = [..] -/
def sLinD (i : Nat) (fr : AF) : SF := fun env st => RS.ofR (fr env st) fun ds st => if ds.length ≤ 100000 then .nx (env.set i (.lin ds)) st else .bad
theorem ds_linD {i : Nat} {x : Str} {pos' pos2 : Pos} (hN : X.N.Nodup) (hi : X.N[i]? = some x) (hx : Loc X.env.scope x) (ha : DA g X B Z es fr) (hs : swapsWith (.List es pos2) (some (.Name x pos')) pos.line X.env = pure false := by rfl)
    (hf : X.fn x = true ∨ X.env.scope.names.lookup x = some .local := by first | exact .inl rfl | exact .inr rfl | assumption) : DS g X B Z (.Assign [.Name x pos'] (.List es pos2) pos) (sLinD i fr) := PS.imp (ps_set hN hi hx (pe_lst ha) hs hf) fun D σ H ⟨hw, mw, env, F, μ, st, r, d, h⟩ =>
  tA_of r (AftS.ofR h) fun ds s vs F1 μ1 H1 x1 r1 h1 rs => by
    split at h1
    · rename_i hl
      exact ⟨by rw [rs.length]; exact small_sz hl, fun p hp => h1 F1 μ1 _ _ (r1.lin hp rs) (d.go x1)⟩
    · exact h1.elim
/-- what a slot's list comes to -/
theorem Rl.linSet {K : PySem.W.Frag} {F : Hp} {μ : List Addr} {H : Hp} {env : List Sl} {st : List O} {σ : St} (r : Rl K g B F μ H env st σ) {i : Nat} {p : Addr} {xs ys : List V} {ds es : List D} (he : env[i]? = some (.lin ds)) (hσ : σ[i]? = some (some (.ref p))) (hp : H p = some (.lst xs))
    (hF : F p = none) (hm : p ∉ μ) (rv : Reps K F μ ys es) : Rl K g B F μ (upd H p (.lst ys)) (env.set i (.lin es)) st σ := by
  have hB := r.lb i ds p he hσ
  have oth : ∀ (j : Nat) zs a, j ≠ i → env[j]? = some (.lin zs) → σ[j]? = some (some (.ref a)) → a ≠ p := fun j zs a ji h1 h2 z => r.sl.dis j i zs ds a ji h1 he h2 (by rw [z]; exact hσ)
  refine ⟨r.ok.mut hF hm hp, ⟨by rw [List.length_set]; exact r.sl.len, fun j d h => ?_, fun j zs h => ?_, fun j l zs ws a jl h1 h2 h3 => ?_⟩, r.go.mut (.inl hB) (by rw [hp]; simp), fun j zs a h1 h2 => ?_⟩
  · rcases get_set h with ⟨_, e2⟩ | ⟨ne, h⟩
    · cases e2
    · exact r.sl.val j d h
  · rcases get_set h with ⟨e1, e2⟩ | ⟨ne, h⟩
    · subst e1
      cases e2
      exact ⟨p, ys, hσ, upd_same, rv, hF, hm⟩
    · obtain ⟨a, vs, h1, h2, h3⟩ := r.sl.lin j zs h
      exact ⟨a, vs, h1, by rw [upd_ne (oth j zs a (Ne.symm ne) h h1)]; exact h2, h3⟩
  · rcases get_set h1 with ⟨e1, e2⟩ | ⟨ne, h1⟩
    · subst e1
      rw [hσ] at h3
      cases h3
      rcases get_set h2 with ⟨e3, _⟩ | ⟨ne2, h2⟩
      · exact absurd e3 jl
      · exact fun z => oth l ws p (Ne.symm ne2) h2 z rfl
    · rcases get_set h2 with ⟨e1, e2⟩ | ⟨ne2, h2⟩
      · subst e1
        rw [hσ]
        intro z
        cases z
        exact oth j zs p (Ne.symm ne) h1 h3 rfl
      · exact r.sl.dis j l zs ws a jl h1 h2 h3
  · rcases get_set h1 with ⟨e1, e2⟩ | ⟨ne, h1⟩
    · subst e1
      rw [hσ] at h2
      cases h2
      exact hB
    · exact r.lb j zs a h1 h2
/-- a method that changes the list alone: what it comes to by the list and the arguments -/
def LMt (K : PySem.W.Frag) (r : V → List V → Hp → VK → Prop) (h : List D → List D → Option (List D)) : Prop := ∀ (F : Hp) (μ : List Addr) (H : Hp) (p : Addr) (xs vs : List V) (ds es ys : List D) (Q : VK), RdSub F H → H p = some (.lst xs) → Reps K F μ xs ds → Reps K F μ vs es → h ds es = some ys →
  (∀ zs, Reps K F μ zs ys → Q .non (upd H p (.lst zs))) → r (.ref p) vs H Q
def sLinM (i : Nat) (h : List D → List D → Option (List D)) (fr : AF) : SF := fun env st => match env[i]? with
  | some (.lin ds) => RS.ofR (fr env st) fun es st => match h ds es with
    | some ys => .nx (env.set i (.lin ys)) st
    | none => .bad
  | _ => .bad
theorem ds_linM {i : Nat} {x : Str} {p0 : Pos} {id : String} {name : Str} {h : List D → List D → Option (List D)} {rr : V → List V → Hp → VK → Prop} (slot : Slot "list" name id) (hty : typeOf (.builtin id) = pure (.type "method_descriptor")) (hm : MtR X id rr) (hl : LMt X.K rr h)
    (hN : X.N[i]? = some x) (hv : Vis X.env.scope x) (ha : DA g X B Z (e :: es) fr) (hd : (x == ("__debug__" : Str)) = false := by decide) (hcd : (x == ("__classdict__" : Str)) = false := by decide)
    (hbase : attributeBase (.Name x p0) name X.env (eval (.Name x p0) X.env) = eval (.Name x p0) X.env := by rfl)
    (hfew : ((backTo cpos (starEach (e :: es) X.env)).all (fun x => !x.1) && (backToKw cpos (keywordEach [] X.env)).all (fun x => x.1.isSome) && decide ((e :: es).length + ([] : List Keyword).length + (if ([] : List Keyword).isEmpty then 0 else 1) < 30)) = true := by rfl)
    (hline : (apos.endLine == cpos.line) = true := by rfl) (hs : starEach (e :: es) X.env = (false, eval e X.env) :: starEach es X.env := by rfl) (hplain : (backTo cpos (starEach es X.env)).any (·.1) = false := by rfl)
    (hsw : swapsWith (.Call (.Attribute (.Name x p0) name apos) (e :: es) [] cpos) none pos.line X.env = pure false := by rfl) :
    DS g X B Z (.Expr (.Call (.Attribute (.Name x p0) name apos) (e :: es) [] cpos) pos) (sLinM i h fr) :=
  PS.imp (ps_expr (pe_bm PySem.F.plainAttrs_list slot hty hm (pe_var (pos := p0) hN hv hd hcd) ha hbase hfew hline hs hplain) hsw) fun D σ H ⟨hw, mw, env, F, μ, st, r, d, z⟩ => by
    unfold sLinM at z
    split at z
    · rename_i ds hds
      obtain ⟨p, xs, h1, h2, h3, h4, h5⟩ := r.sl.lin i ds hds
      refine ⟨.ref p, h1, .inl ⟨rfl, xs, .inl (.inl h2)⟩, tA_of r (AftS.ofR z) fun es s vs F1 μ1 H1 x1 r1 z1 rs => ?_⟩
      obtain ⟨p', xs', q1, q2, q3, q4, q5⟩ := r1.sl.lin i ds hds
      rw [h1] at q1
      cases q1
      split at z1
      · rename_i ys hys
        exact hl F1 μ1 H1 p xs' vs ds es ys _ r1.ok.sub q2 q3 rs hys fun zs rz => z1 F1 μ1 _ σ (r1.linSet hds h1 q2 q4 q5 rz) (d.go x1)
      · exact z1.elim
    · exact z.elim
def hAppL : List D → List D → Option (List D) := fun ds es => match es with
  | [e] => if ds.length < 100000 then some (ds ++ [e]) else none
  | _ => none
theorem lm_append {K : PySem.W.Frag} : LMt K rAppend hAppL := fun F μ H p xs vs ds es ys Q _ hp r1 r2 e q => by
  unfold hAppL at e
  split at e
  · split at e
    · rename_i hl
      cases e
      obtain ⟨w, rfl, rw2⟩ := reps1 r2
      exact ⟨p, xs, w, rfl, rfl, hp, by rw [r1.length]; exact Nat.lt_of_lt_of_le hl (by decide), q _ (r1.append (.one rw2))⟩
    · cases e
  · cases e
def rInsert : V → List V → Hp → VK → Prop := fun x vs H Q => ∃ (l : Addr) (xs : List V) (i : Int) (y : V), x = .ref l ∧ vs = [.int i, y] ∧ H l = some (.lst xs) ∧ xs.length < sizeLine ∧ 0 ≤ i ∧ i < 2 ^ 63 ∧ Q .non (upd H l (.lst (xs.take i.toNat ++ [y] ++ xs.drop i.toNat)))
def hInsL : List D → List D → Option (List D) := fun ds es => match es with
  | [.int i, e] => if decide (ds.length < 100000) && decide (0 ≤ i) && decide (i < 2 ^ 63) then some (ds.take i.toNat ++ [e] ++ ds.drop i.toNat) else none
  | _ => none
theorem lm_insert {K : PySem.W.Frag} : LMt K rInsert hInsL := fun F μ H p xs vs ds es ys Q _ hp r1 r2 e q => by
  unfold hInsL at e
  split at e
  · split at e
    · rename_i hl
      cases e
      rw [Bool.and_eq_true, Bool.and_eq_true, decide_eq_true_eq, decide_eq_true_eq, decide_eq_true_eq] at hl
      obtain ⟨w, w2, rfl, rw1, rw2⟩ := reps2 r2
      cases rw1
      exact ⟨p, xs, _, w2, rfl, rfl, hp, by rw [r1.length]; exact Nat.lt_of_lt_of_le hl.1.1 (by decide), hl.1.2, hl.2, q _ (((r1.take _).append (.one rw2)).append (r1.drop _))⟩
    · cases e
  · cases e
theorem ds_append {i : Nat} {x : Str} {p0 : Pos} (hN : X.N[i]? = some x) (hv : Vis X.env.scope x) (ha : DA g X B Z [e] fr) (hd : (x == ("__debug__" : Str)) = false := by decide) (hcd : (x == ("__classdict__" : Str)) = false := by decide)
    (hbase : attributeBase (.Name x p0) "append" X.env (eval (.Name x p0) X.env) = eval (.Name x p0) X.env := by rfl)
    (hfew : ((backTo cpos (starEach (e :: []) X.env)).all (fun x => !x.1) && (backToKw cpos (keywordEach [] X.env)).all (fun x => x.1.isSome) && decide ((e :: []).length + ([] : List Keyword).length + (if ([] : List Keyword).isEmpty then 0 else 1) < 30)) = true := by rfl)
    (hline : (apos.endLine == cpos.line) = true := by rfl) (hs : starEach [e] X.env = (false, eval e X.env) :: starEach [] X.env := by rfl)
    (hsw : swapsWith (.Call (.Attribute (.Name x p0) "append" apos) [e] [] cpos) none pos.line X.env = pure false := by rfl) :
    DS g X B Z (.Expr (.Call (.Attribute (.Name x p0) "append" apos) [e] [] cpos) pos) (sLinM i hAppL fr) := ds_linM PySem.F.slot_list_append PySem.F.type_list_append mt_append lm_append hN hv ha hd hcd hbase hfew hline hs rfl hsw
theorem ds_insert {i : Nat} {x : Str} {p0 : Pos} (hN : X.N[i]? = some x) (hv : Vis X.env.scope x) (ha : DA g X B Z [e, a] fr) (hd : (x == ("__debug__" : Str)) = false := by decide) (hcd : (x == ("__classdict__" : Str)) = false := by decide)
    (hbase : attributeBase (.Name x p0) "insert" X.env (eval (.Name x p0) X.env) = eval (.Name x p0) X.env := by rfl)
    (hfew : ((backTo cpos (starEach (e :: [a]) X.env)).all (fun x => !x.1) && (backToKw cpos (keywordEach [] X.env)).all (fun x => x.1.isSome) && decide ((e :: [a]).length + ([] : List Keyword).length + (if ([] : List Keyword).isEmpty then 0 else 1) < 30)) = true := by rfl)
    (hline : (apos.endLine == cpos.line) = true := by rfl) (hs : starEach [e, a] X.env = (false, eval e X.env) :: starEach [a] X.env := by rfl) (hplain : (backTo cpos (starEach [a] X.env)).any (·.1) = false := by rfl)
    (hsw : swapsWith (.Call (.Attribute (.Name x p0) "insert" apos) [e, a] [] cpos) none pos.line X.env = pure false := by rfl) :
    DS g X B Z (.Expr (.Call (.Attribute (.Name x p0) "insert" apos) [e, a] [] cpos) pos) (sLinM i hInsL fr) := ds_linM PySem.F.slot_list_insert PySem.F.type_list_insert mt_insert lm_insert hN hv ha hd hcd hbase hfew hline hs hplain hsw
/-- from here on the list stays -/
def sFrz (i : Nat) : SF := fun env st => match env[i]? with
  | some (.lin ds) => .nx (env.set i (.v (.lst ds))) st
  | _ => .bad
theorem Rl.frz {K : PySem.W.Frag} {F : Hp} {μ : List Addr} {H : Hp} {env : List Sl} {st : List O} {σ : St} (r : Rl K g B F μ H env st σ) {i : Nat} {ds : List D} (he : env[i]? = some (.lin ds)) : ∃ F', RdSub F F' ∧ Rl K g B F' μ H (env.set i (.v (.lst ds))) st σ := by
  obtain ⟨p, xs, h1, h2, h3, h4, h5⟩ := r.sl.lin i ds he
  obtain ⟨sb, k2⟩ := r.ok.frz h4 h5 h2
  refine ⟨_, sb, k2, ⟨by rw [List.length_set]; exact r.sl.len, fun j d h => ?_, fun j zs h => ?_, fun j l zs ws a jl q1 q2 q3 => ?_⟩, r.go.frz (r.lb i ds p he h1) h4, fun j zs a q1 q2 => ?_⟩
  · rcases get_set h with ⟨e1, e2⟩ | ⟨ne, h⟩
    · subst e1
      cases e2
      exact ⟨.ref p, h1, .lst upd_same (h3.mono sb (Pre.refl _))⟩
    · obtain ⟨v, q1, q2⟩ := r.sl.val j d h
      exact ⟨v, q1, q2.mono sb (Pre.refl _)⟩
  · rcases get_set h with ⟨_, e2⟩ | ⟨ne, h⟩
    · cases e2
    · obtain ⟨a, vs, q1, q2, q3, q4, q5⟩ := r.sl.lin j zs h
      have na : a ≠ p := fun z => r.sl.dis j i zs ds a (Ne.symm ne) h he q1 (by rw [z]; exact h1)
      exact ⟨a, vs, q1, q2, q3.mono sb (Pre.refl _), by rw [upd_ne na]; exact q4, q5⟩
  · rcases get_set q1 with ⟨_, e2⟩ | ⟨_, q1⟩
    · cases e2
    · rcases get_set q2 with ⟨_, e2⟩ | ⟨_, q2⟩
      · cases e2
      · exact r.sl.dis j l zs ws a jl q1 q2 q3
  · rcases get_set q1 with ⟨_, e2⟩ | ⟨_, q1⟩
    · cases e2
    · exact r.lb j zs a q1 q2
theorem frz_of {K : PySem.W.Frag} {i : Nat} : ∀ (D : Ends) σ H, tS K g B Z (sSeq (sFrz i) fs) D σ H → tS K g B Z fs D σ H := fun D σ H ⟨hw, mw, env, F, μ, st, r, d, h⟩ => by
  cases q : env[i]? with
  | none => simp only [sSeq, sFrz, q] at h; exact h.elim
  | some x =>
    cases x with
    | lin ds =>
      simp only [sSeq, sFrz, q] at h
      obtain ⟨F', sb, r2⟩ := r.frz q
      exact ⟨hw, mw, _, F', μ, _, r2, ⟨d.1.trans sb, d.2⟩, h⟩
    | un => simp only [sSeq, sFrz, q] at h; exact h.elim
    | v _ => simp only [sSeq, sFrz, q] at h; exact h.elim
theorem ds_frz {i : Nat} (h : DS g X B Z s fs) : DS g X B Z s (sSeq (sFrz i) fs) := PS.imp h frz_of
theorem dss_frz {i : Nat} (h : DSs g X B Z ss fs) : DSs g X B Z ss (sSeq (sFrz i) fs) := PSs.imp h frz_of
/-- a look at it: its length, an item -/
def eLenL (i : Nat) : EF := fun env st => match env[i]? with
  | some (.lin ds) => .ok (.int (ds.length : Nat)) st
  | _ => .bad
def eIxL (i : Nat) (f : EF) : EF := fun env st => match env[i]? with
  | some (.lin ds) => (f env st).bind fun d st => match d with
    | .int k => .of (L2.atI ds k) st
    | _ => .bad
  | _ => .bad
theorem de_lenL {i : Nat} {x : Str} {p0 p : Pos} (hN : X.N[i]? = some x) (hv : Vis X.env.scope x) (hg : Gl X "len") (hm : X.mg "len" = none) (hbt : bootBuiltins "len" = some (.builtin "len")) (hd : (x == ("__debug__" : Str)) = false := by decide) (hcd : (x == ("__classdict__" : Str)) = false := by decide)
    (hs : starEach [.Name x p0] X.env = (false, eval (.Name x p0) X.env) :: starEach [] X.env := by rfl) (hpl : (backTo pos (starEach [] X.env)).any (·.1) = false := by rfl) :
    DE g X B Z (.Call (.Name "len" p) [.Name x p0] [] pos) (eLenL i) := PE.imp (pe_callB call_len hg hm hbt (pa_cons (pe_var (pos := p0) hN hv hd hcd) pa_nil hs) (by decide) (by decide) hs hpl) fun σ H Q ⟨env, F, μ, st, r, z⟩ => by
  unfold eLenL at z
  split at z
  · rename_i ds hds
    obtain ⟨a, xs, h1, h2, h3, h4, h5⟩ := r.sl.lin i ds hds
    exact ⟨.ref a, h1, .ref a, xs.length, rfl, .inl ⟨xs, .inl (.inl h2), rfl⟩, by rw [h3.length]; exact z.here r.ok _ (.int _)⟩
  · exact z.elim
theorem de_ixL {i : Nat} {x : Str} {p0 : Pos} (hN : X.N[i]? = some x) (hv : Vis X.env.scope x) (hb : DE g X B Z b f) (hs : PlainIx b) (hd : (x == ("__debug__" : Str)) = false := by decide) (hcd : (x == ("__classdict__" : Str)) = false := by decide) :
    DE g X B Z (.Subscript (.Name x p0) b pos) (eIxL i f) := PE.imp (pe_ix ix_list (pe_var (pos := p0) hN hv hd hcd) hb hs) fun σ H Q ⟨env, F, μ, st, r, z⟩ => by
  unfold eIxL at z
  split at z
  · rename_i ds hds
    obtain ⟨a, xs, h1, h2, h3, h4, h5⟩ := r.sl.lin i ds hds
    refine ⟨.ref a, h1, tD_of r z.bind fun d s v F1 μ1 H1 x1 r1 z1 rv => ?_⟩
    obtain ⟨a', xs', q1, q2, q3, q4, q5⟩ := r1.sl.lin i ds hds
    rw [h1] at q1
    cases q1
    split at z1
    · cases rv
      obtain ⟨y, hy, z1⟩ := aft_of z1
      obtain ⟨v, hv, rv⟩ := q3.atI hy
      exact ⟨a, xs', _, v, rfl, rfl, .inl (.inl q2), hv, z1.here r1.ok _ rv⟩
    · exact z1.elim
  · exact z.elim
end
end DV

set_option Elab.async false
set_option linter.all false
set_option maxRecDepth 100000
set_option maxHeartbeats 1000000
namespace DV
open PySem PySem.Spec PyProof.Rows L2
/-- what is let out of X is what Z says -/
def Lets (g : Gp) (X : Cx) (B : Bs) (Z : ZZ) : Prop := ∃ W : WX, Takes X W ∧ ∀ c st F' μ' H' σ, Z c st → Go B.F B.μ B.H F' μ' H' → Ok X.K g F' μ' H' st → W (g.ec c) none σ H'
theorem lets0 {g : Gp} {X : Cx} {B : Bs} : Lets g X B Z0 := ⟨fun _ _ _ _ => False, takes0, fun _ _ _ _ _ _ z => z.elim⟩
theorem Lets.passes {g : Gp} {X : Cx} {B : Bs} {Z : ZZ} (l : Lets g X B Z) : Passes (L2.CX X.prog X.w) X (EffE X.K g B Z) := by
  obtain ⟨W, tk, h⟩ := l
  exact passes_call tk fun cls d σ H ⟨hd, c, st, F', μ', e, hz, hg, hk⟩ => by
    subst hd e
    exact h c st F' μ' H σ hz hg hk
section
variable {g : Gp} {X : Cx} {B : Bs} {Z : ZZ} {e a b c o : Expr} {es rest : List Expr} {f fa fb fc : EF} {fr fi : AF} {pos apos cpos : Pos} {s : Stmt} {ss : List Stmt} {fs : SF}
/-! ### raise -/
def sRaise (c : Nat) : SF := fun _ st => .exc c st
theorem ds_raise {n : Nat} {C : Addr} {bmB : List Value} {Bt newId initId : String} {x m : Str} {j} {p p2 : Pos} (hc : X.calm = true) (l : Lets g X B Z) (he : g.ec n = .ref C) (Fb : ExcBaseFacts Bt newId initId bmB) (q : PySem.W.excIn X.K C bmB newId = true) (gC : X.mg x = some (.ref C))
    (kC : PySem.W.keepIn X.K (.ref C) = true) (bC : PySem.W.subIn X.K (.ref C) (.type "BaseException") = some true) (tC : PySem.W.typeIn X.K (.ref C) = some (.type "type")) (hg : Gl X x) (hdb : (x == ("__debug__" : Str)) = false := by decide) :
    DS g X B Z (.Raise (some (.Call (.Name x p) [.Constant (.str m) j p2] [] pos)) none apos) (sRaise n) := by
  obtain ⟨W, tk, h⟩ := l
  refine PS.imp (ps_raise hc tk (pmk_own Fb q gC kC (raises_own bC tC) hg hdb)) fun D σ H ⟨hw, mw, env, F, μ, st, r, d, z⟩ => ?_
  have z : Z n st := z
  have w := h n st F μ H σ z r.go r.ok
  rw [he] at w
  exact w
/-! ### defs -/
def startE (m : Nat) (ds : List D) : List Sl := ds.map .v ++ List.replicate (m - ds.length) .un
def runF (n m : Nat) (b : SF) : Fn := fun ds st => if ds.length = n then (match b (startE m ds) st with
  | .nx _ s => .ok .non s
  | .rt d s => .ok d s
  | .exc c s => .exc c s
  | _ => .bad) else .bad
theorem start_slots {K : PySem.W.Frag} {F H : Hp} {μ : List Addr} {N : List Str} {vs : List V} {ds : List D} (rs : Reps K F μ vs ds) : Slots K F μ H (startE N.length ds) (L2.start N vs) := by
  have hl := rs.length
  have nol : ∀ (i : Nat) es, (startE N.length ds)[i]? ≠ some (.lin es) := fun i es h => by
    unfold startE at h
    rw [List.getElem?_append] at h
    split at h
    · rw [List.getElem?_map] at h
      cases q : ds[i]? with
      | none => rw [q] at h; cases h
      | some d => rw [q] at h; cases h
    · rw [List.getElem?_replicate] at h
      split at h <;> cases h
  refine ⟨by unfold startE L2.start; simp only [List.length_append, List.length_map, List.length_replicate, hl], fun i d h => ?_, fun i es h => absurd h (nol i es), fun i j es fs a _ h => absurd h (nol i es)⟩
  unfold startE at h
  rw [List.getElem?_append] at h
  split at h
  · rename_i hi
    rw [List.getElem?_map] at h
    cases q : ds[i]? with
    | none => rw [q] at h; cases h
    | some d' =>
      rw [q] at h
      cases h
      obtain ⟨v, h1, h2⟩ := rs.get q
      refine ⟨v, ?_, h2⟩
      unfold L2.start
      rw [List.getElem?_append, List.length_map, hl]
      rw [List.length_map] at hi
      rw [if_pos hi, List.getElem?_map, h1]
      rfl
  · rw [List.getElem?_replicate] at h
    split at h <;> cases h
/-- the def st of the text stands at f, its code object at c -/
structure FunC (K : PySem.W.Frag) (x qual : Str) (st : Stmt) (f c : Addr) (fd : FuncData) : Prop where
  ex : ∃ (oc : Value) (od : Option Addr) (dV kV doc pm : Value) (an : Option Addr) (ct : Value) (osl : Array (Option Value)), fd = PySem.W.fnOf x qual (defArgs st) (defBody st) (defScope st) dV kV doc pm an (.ref c) ct ∧ K.lookup f = some ⟨oc, od, .func fd, osl⟩
  code : PySem.W.codeIn K (.ref c) qual = true
  kp : PySem.W.keepIn K (.ref f) = true
/-- the module has a def that does f -/
def Has (g : Gp) (P : Program) (w : World) (K : PySem.W.Frag) (mg : Str → Option Value) (base : Heap) (k : Nat) (x : Str) (n : Nat) (dds : List D) (fn : Fn) : Prop := ∃ fa fd ps dvs us, FnOk P w K mg base (L2.CX P w) k fa fd ps (spD K g n fn) ∧ mg x = some (.ref fa) ∧ PySem.W.keepIn K (.ref fa) = true ∧
  Binds K fd ps us ∧ Vals dvs us ∧ (∀ F μ, Reps K F μ dvs dds) ∧ ∀ ds st, fn ds st ≠ .bad → ds.length = n
section
variable {P : Program} {w : World} {K : PySem.W.Frag} {mg : Str → Option Value} {base : Heap}
theorem Has.mono {j k n : Nat} {x : Str} {dds : List D} {fn : Fn} (h : Has g P w K mg base j x n dds fn) (l : j ≤ k) : Has g P w K mg base k x n dds fn := by
  obtain ⟨fa, fd, ps, dvs, us, h1, h2⟩ := h
  exact ⟨fa, fd, ps, dvs, us, h1.mono l, h2⟩
theorem has_of {x qual : Str} {st : Stmt} {fa : Addr} {fd : FuncData} {N ps : List Str} {k : Nat} {b : SF} {dvs : List V} {dds : List D} {us : List Value} {c : Addr} (Fu : FunC K x qual st fa c fd) (hm : mg x = some (.ref fa)) (S : FnScope N ps (defScope st)) (hb : Binds K fd ps us) (hv : Vals dvs us) (hr : ∀ F μ, Reps K F μ dvs dds)
    (hbody : ∀ (A : Around) (outer : List Env) (s : Shared) (H : Hp) (E : XK) (B : Bs) (Z : ZZ), Room k (A.deeper (envOfC qual (defScope st) s.heap.objs.size fa (.ref c))) →
      Lets g (cxOf (L2.CX P w) P w K mg base N qual (defScope st) fa (.ref c) A outer s H E) B Z → DSs g (cxOf (L2.CX P w) P w K mg base N qual (defScope st) fa (.ref c) A outer s H E) B Z (defBody st) b) :
    Has g P w K mg base (k + 1) x ps.length dds (runF ps.length N.length b) := by
  obtain ⟨oc, od, dV, kV, doc, pm, an, ct, osl, rfl, lk⟩ := Fu.ex
  refine ⟨fa, _, ps, dvs, us, fn_of lk Fu.code S (fun vs H Q E h => ?_) (fun A outer s H vs Q E hr h => ?_), hm, Fu.kp, hb, hv, hr, fun ds st h => ?_⟩
  · obtain ⟨F, μ, st, ds, ok, rs, hl, h⟩ := h
    exact hl
  · obtain ⟨F, μ, st1, ds, ok, rs, hl, h⟩ := h
    unfold runF at h
    have hd : ds.length = ps.length := rs.length.symm.trans hl
    rw [if_pos hd] at h
    refine ⟨_, hbody A outer s H E ⟨F, μ, H⟩ (fun c st' => ∀ F' μ' H', Go F μ H F' μ' H' → Ok K g F' μ' H' st' → E (g.ec c) none H') hr ⟨_, takes_of rfl rfl rfl rfl, fun c st F' μ' H' σ z hg hk => z F' μ' H' hg hk⟩, F, μ, startE N.length ds, F, μ, st1, ⟨ok, start_slots rs, Go.refl, fun i es a h => ?_⟩, Hd.refl _ _, ?_⟩
    · obtain ⟨a', _, _, h3, _⟩ := (start_slots (H := H) (N := N) rs).lin i es h
      exfalso
      unfold startE at h
      rw [List.getElem?_append] at h
      split at h
      · rw [List.getElem?_map] at h
        cases q : ds[i]? with
        | none => rw [q] at h; cases h
        | some d => rw [q] at h; cases h
      · rw [List.getElem?_replicate] at h
        split at h <;> cases h
    · cases q : b (startE N.length ds) st1 with
      | nx env' s' => rw [q] at h; exact fun F' μ' H' σ' r _ => h F' μ' H' r.go r.ok _ .non
      | rt d s' => rw [q] at h; exact fun F' μ' H' v k g rv => h F' μ' H' g k v rv
      | exc c s' => rw [q] at h; exact h
      | bk _ _ => rw [q] at h; exact h.elim
      | ct _ _ => rw [q] at h; exact h.elim
      | bad => rw [q] at h; exact h.elim
  · unfold runF at h
    split at h
    · assumption
    · exact absurd rfl h
end
theorem de_fn {k n : Nat} {fn : Fn} {dds : List D} {x : Str} {p : Pos} (F : Has g X.prog X.w X.K X.mg X.base k x n dds fn) (hr : Room k X.A) (hg : Gl X x) (l : Lets g X B Z) (ha : DA g X B Z (e :: es) fr)
    (hdb : (x == ("__debug__" : Str)) = false := by decide) (he : starEach (e :: es) X.env = (false, eval e X.env) :: starEach es X.env := by rfl) (hpl : (backTo pos (starEach es X.env)).any (·.1) = false := by rfl) :
    DE g X B Z (.Call (.Name x p) (e :: es) [] pos) (eCallD fn dds fr) := by
  obtain ⟨fa, fd, ps, dvs, us, F, hm, hk, hb, hv, hd, hn⟩ := F
  exact de_callD F hn hr hg hm hk hb hv hd l.passes ha hdb he hpl
theorem de_fn0 {k n : Nat} {fn : Fn} {dds : List D} {x : Str} {p : Pos} (F : Has g X.prog X.w X.K X.mg X.base k x n dds fn) (hr : Room k X.A) (hg : Gl X x) (l : Lets g X B Z) (hdb : (x == ("__debug__" : Str)) = false := by decide) :
    DE g X B Z (.Call (.Name x p) [] [] pos) (eCallD fn dds aNil) := by
  obtain ⟨fa, fd, ps, dvs, us, F, hm, hk, hb, hv, hd, hn⟩ := F
  exact de_call0D F hn hr hg hm hk hb hv hd l.passes hdb
end
end DV

set_option Elab.async false
set_option linter.all false
set_option maxRecDepth 100000
set_option maxHeartbeats 1000000
namespace DV
open PySem PySem.Spec PyProof.Rows L2
open LamX (Tabs TabS ExtN CodeO TabB LamS lamCx lamEnv)
section
variable {K : PySem.W.Frag} {g : Gp} {B : Bs} {F : Hp} {μ : List Addr} {H H1 : Hp} {st : List O} {env : List Sl} {σ : St}
theorem Go.ext (e : ExtN H H1) : Go F μ H F μ H1 := ⟨RdSub.refl F, fun _ h _ => h, ⟨[], by simp, by simp⟩, fun a o h _ n => e a o h n, fun a ⟨o, h, n⟩ => ⟨o, e a o h n, n⟩⟩
theorem Ok.ext (k : Ok K g F μ H st) (e : ExtN H H1) (t : Tabs g.T H1) : Ok K g F μ H1 st where
  sub := fun a u h => e a u (k.sub a u h) fun ps z => k.nt a ps (by rw [h, z])
  nt := k.nt
  len := k.len
  nd := k.nd
  dis := k.dis
  obj := fun n a ob h1 h2 => by
    have z := k.obj n a ob h1 h2
    cases ob with
    | lst ds => obtain ⟨vs, q, r⟩ := z; exact ⟨vs, e a _ q (fun ps z => by cases z), r⟩
  tab := t
def unlin1 : Sl → Sl
  | .lin _ => .un
  | x => x
def unlin (env : List Sl) : List Sl := env.map unlin1
theorem unlin_get {i : Nat} {x : Sl} (h : (unlin env)[i]? = some x) : x = .un ∨ (env[i]? = some x ∧ ∀ ds, x ≠ .lin ds) := by
  unfold unlin at h
  rw [List.getElem?_map] at h
  cases q : env[i]? with
  | none => rw [q] at h; cases h
  | some y =>
    rw [q] at h
    cases y with
    | un => cases h; exact .inl rfl
    | v d => cases h; exact .inr ⟨rfl, fun ds z => by cases z⟩
    | lin ds => cases h; exact .inl rfl
/-- the state as a new entry -/
theorem Rl.enter (r : Rl K g B F μ H env st σ) : Rl K g ⟨F, μ, H⟩ F μ H (unlin env) st σ := by
  refine ⟨r.ok, r.sl.weak (by unfold unlin; rw [List.length_map]) fun i x h => (unlin_get h).imp id (·.1), Go.refl, fun i ds a h => ?_⟩
  rcases unlin_get h with z | ⟨_, z⟩
  · cases z
  · exact absurd rfl (z ds)
end
/-- told(lambda: ..): an error of the kind n comes as the text ret -/
def eTold (n : Nat) (ret : Str) (f : EF) : EF := fun env st => match f (unlin env) st with
  | .ok d st => .ok d st
  | .exc c st => if c = n then .ok (.str ret) st else .bad
  | .bad => .bad
section
variable {g : Gp} {X : Cx} {B : Bs} {Z : ZZ} {f : EF}
/-- a lambda's body, whatever it may let out -/
def LamOk (g : Gp) (X : Cx) (k : Nat) (scope : Scope) (body : Expr) (f : EF) : Prop := ∀ (A : Around) (outer : List Env) (s : Shared) (H : Hp) (E : XK) (fa c' : Addr) (B : Bs) (Z : ZZ), Room k (A.deeper (lamEnv X scope s.heap.objs.size fa c')) → Lets g (lamCx X A outer s H E scope fa c') B Z → DE g (lamCx X A outer s H E scope fa c') B Z body f
/-- what its reading is -/
def tLamB (K : PySem.W.Frag) (g : Gp) (f : EF) (E : XK) : TE := fun σ H Q => ∃ B Z, (∀ c st F' μ' H', Z c st → Go B.F B.μ B.H F' μ' H' → Ok K g F' μ' H' st → E (g.ec c) none H') ∧ tD K g B Z f σ H Q
theorem LamOk.body {k : Nat} {scope : Scope} {body : Expr} (h : LamOk g X k scope body f) (A : Around) (outer : List Env) (s : Shared) (H : Hp) (E : XK) (fa c' : Addr) (hr : Room k (A.deeper (lamEnv X scope s.heap.objs.size fa c'))) : PE (lamCx X A outer s H E scope fa c') body (tLamB X.K g f E) :=
  ⟨fun pins s1 σ H1 Q I ⟨B, Z, hz, q⟩ => (h A outer s H E fa c' B Z hr ⟨_, takes_of rfl rfl rfl rfl, fun c st F' μ' H' σ z hg hk => hz c st F' μ' H' z hg hk⟩).run pins s1 σ H1 Q I q⟩
theorem told_of {K : PySem.W.Frag} {n : Nat} {CS : Addr} {ret : Str} (he : PySem.W.exmOne K (g.ec n) (.ref CS) = some true) {env : List Sl} {F H H1 : Hp} {μ : List Addr} {st : List O} {σ : St} {Q : VK} (r : Rl K g B F μ H env st σ) (e : ExtN H H1) (t : Tabs g.T H1)
    (z : Aft K g F μ H Z (eTold n ret f env st) fun d _ F' μ' H' => ∀ v, Rep K F' μ' v d → Q v H') : LamX.TTold K CS ret (fun E H' Q' => tLamB K g f E σ H' Q') H1 Q := by
  have x1 : Go F μ H F μ H1 := Go.ext e
  have r1 := (r.step x1 (r.ok.ext e t)).enter
  unfold eTold at z
  cases q : f (unlin env) st with
  | bad => rw [q] at z; exact z.elim
  | ok d st' =>
    rw [q] at z
    refine ⟨⟨F, μ, H1⟩, Z0, fun _ _ _ _ _ h => h.elim, unlin env, F, μ, st, r1, ?_⟩
    rw [q]
    exact fun F' μ' H' x k v rv => z F' μ' H' (x1.trans x) k v rv
  | exc c st' =>
    rw [q] at z
    dsimp only at z
    split at z
    · rename_i hc
      subst hc
      refine ⟨⟨F, μ, H1⟩, fun c' s' => c' = c ∧ s' = st', fun c' s' F' μ' H' hz hg hk => ?_, unlin env, F, μ, st, r1, ?_⟩
      · obtain ⟨rfl, rfl⟩ := hz
        exact ⟨true, he, fun _ => z F' μ' H' (x1.trans hg) hk _ (.str _), fun h => by cases h⟩
      · rw [q]
        exact ⟨rfl, rfl⟩
    · exact z.elim
/-- the def that tells -/
structure ToldF (g : Gp) (X : Cx) (n : Nat) (ret : Str) (x : Str) : Prop where
  ex : ∃ (gT cT : Addr) (fd : FuncData) (stT : Stmt) (a e : Str) (Ng : List Str) (CS : Addr) (j : Nat) (p1 p2 p3 p4 p5 p6 p7 p8 : Pos), FunC X.K x x stT gT cT fd ∧ X.mg x = some (.ref gT) ∧ Binds X.K fd [a] [] ∧ FnScope Ng [a] (defScope stT) ∧ Ng[0]? = some a ∧ Vis (defScope stT) a ∧
    defBody stT = [.Try [.Return (some (.Call (.Name a p1) [] [] p2)) p3] [.ExceptHandler (some (.Name e p4)) none [.Return (some (.Constant (.str ret) j p5)) p6] p7] [] [] p8] ∧ (defScope stT).names.lookup e = some .globalImplicit ∧ X.mg e = some (.ref CS) ∧ (e == ("__debug__" : Str)) = false ∧
    (a == ("__debug__" : Str)) = false ∧ (a == ("__classdict__" : Str)) = false ∧ PySem.W.exmOne X.K (g.ec n) (.ref CS) = some true
theorem start0 {Ng : List Str} {a : Str} {v : V} (h : Ng[0]? = some a) : (L2.start Ng [v])[0]? = some (some v) := rfl
theorem de_told {n k : Nat} {ret x : Str} {c P : Addr} {params : Arguments} {body : Expr} {scope : Scope} {p lpos pos : Pos} (T : ToldF g X n ret x) (hg : Gl X x) (TB : TabB X.base X.mg c P) (hcode : X.env.code = .ref c) (hmT : (P, X.env.qual ++ "<lambda>") ∈ g.T) (hu : ∀ p ∈ g.T, p.1 = P → p.2 = X.env.qual ++ "<lambda>")
    (hr : Room (k + 2) X.A) (L : LamS X.env.scope scope) (hb : LamOk g X k scope body f) (hdef : defaultsOf params X.env = ([], []) := by rfl) (hbind : ∀ (q : Str) (cl : List (Str × Addr)) (pm cv ctv : Value), bindArgs (PySem.W.kla_fn "<lambda>" q params body scope cl pm cv ctv) ⟨[], []⟩ = pure [] := by intros; rfl)
    (hdb : (x == ("__debug__" : Str)) = false := by decide) : DE g X B Z (.Call (.Name x p) [.Lambda params body scope lpos] [] pos) (eTold n ret f) := by
  obtain ⟨gT, cT, fd, stT, a, e, Ng, CS, j, p1, p2, p3, p4, p5, p6, p7, p8, Fu, hm, hbd, Sg, hN, hv, hbody, hge, hme, hde, hda, hca, hex⟩ := T.ex
  obtain ⟨oc, od, dV, kV, doc, pm, an, ct, osl, rfl, lk⟩ := Fu.ex
  have G := LamX.told_gives (X := X) (Ng := Ng) (x := x) (a := a) (e := e) (q := X.env.qual ++ "<lambda>") (ret := ret) (sg := defScope stT) (g := gT) (CS := CS) (cdg := .ref cT) (j := j) (p1 := p1) (p2 := p2) (p3 := p3) (p4 := p4) (p5 := p5) (p6 := p6) (p7 := p7) (p8 := p8) hge hme hde (fun f => start0 hN)
  rw [← hbody] at G
  refine PE.imp (LamX.pe_lamcall hg hm Fu.kp lk Fu.code hbd Sg hN hv G TB hcode hmT hu hr L hdef hbind (fun A outer s H E f c' hr2 => hb.body A outer s H E f c' hr2) hdb hda hca) fun σ H Q ⟨env, F, μ, st, r, z⟩ => ?_
  exact ⟨r.ok.tab, fun H1 e1 t1 => told_of hex r e1 t1 z⟩
end
end DV

set_option Elab.async false
set_option linter.all false
set_option maxRecDepth 100000
set_option maxHeartbeats 2000000
namespace DV
open PySem PySem.Spec PyProof.Rows L2 GenW
/-! ### the context of a generator expression's body -/
abbrev gnEnv (X : Cx) (scope : Scope) (C : Addr) (code : Value) : Env := genEnv scope (cloFrom X.env.cells scope.names []) C code builtinsNs X.env
def gnCx (X : Cx) (A : Around) (s0 : Shared) (H0 : Hp) (scope : Scope) (C : Addr) (code : Value) (fp : List Addr) (pn : List (Addr × Obj)) : Cx where
  prog := X.prog
  w := X.w
  K := X.K
  mg := X.mg
  base := X.base
  A := A.deeper (gnEnv X scope C code)
  N := X.N
  s_0 := s0
  H_0 := H0
  env := gnEnv X scope C code
  outer := X.stack
  stack := gnEnv X scope C code :: X.stack
  ex := fp
  fn := fun _ => false
  calm := true
  pn := pn
  xe := fun _ _ => False
/-- the names of a generator expression: its own (with their places in N), or captured -/
structure GnS (N : List Str) (sc scope : Scope) (own : List (Str × Nat)) : Prop where
  kind : scope.kind = .function
  co : scope.isCoroutine = false
  cell : ∀ y ∈ scope.names, y.2 ≠ .cell
  dot : scope.names.lookup (".0" : Str) = some .local
  uniq : ∀ y ∈ scope.names, scope.names.lookup y.1 = some y.2
  ix : ∀ p ∈ own, N[p.2]? = some p.1
  free : ∀ y ∈ scope.names, y.2 = .free → sc.names.lookup y.1 = some .cell ∨ sc.names.lookup y.1 = some .free
  own : ∀ y ∈ scope.names, y.2 = .local → y.1 ∈ own.map (·.1) ∨ y.1 ∉ N
def gnSB (N : List Str) (sc scope : Scope) (own : List (Str × Nat)) : Bool :=
  decide (scope.kind = .function) && !scope.isCoroutine && scope.names.all (fun y => !decide (y.2 = .cell)) && decide (scope.names.lookup (".0" : Str) = some .local) && scope.names.all (fun y => decide (scope.names.lookup y.1 = some y.2)) &&
  own.all (fun p => decide (N[p.2]? = some p.1)) && scope.names.all (fun y => !decide (y.2 = .free) || (decide (sc.names.lookup y.1 = some .cell) || decide (sc.names.lookup y.1 = some .free))) &&
  scope.names.all fun y => !decide (y.2 = .local) || (decide (y.1 ∈ own.map (·.1)) || decide (y.1 ∉ N))
theorem gnS_by {N : List Str} {sc scope : Scope} {own : List (Str × Nat)} (h : gnSB N sc scope own = true) : GnS N sc scope own := by
  unfold gnSB at h
  simp only [Bool.and_eq_true, Bool.or_eq_true, Bool.not_eq_true', decide_eq_true_eq, decide_eq_false_iff_not, List.all_eq_true] at h
  obtain ⟨⟨⟨⟨⟨⟨⟨h1, h2⟩, h3⟩, h4⟩, h5⟩, h6⟩, h7⟩, h8⟩ := h
  exact ⟨h1, h2, h3, h4, h5, h6, fun y hy e => (h7 y hy).resolve_left fun z => z e, fun y hy e => (h8 y hy).resolve_left fun z => z e⟩
theorem over_gen {A : Around} {elt : Expr} {gs : List Comprehension} {scope : Scope} {pos : Pos} {it acc : Value} {env : Env} : A.over (.compLoop (.GeneratorExp elt gs scope pos) 0 it acc env) [] = A.deeper env := by
  first
    | rfl
    | (obtain ⟨hd, d, fr, gs, u⟩ := A; simp [Around.over, Around.deeper, marksOver, frameCount, unitsOf, envsOf, guardsOf, pushEnvs, pushGuards, Code.envs, Code.env?, Code.isFrame, Code.guards, Code.isGuard, Code.weight, Code.frames, Code.isCreation, Code.isCaller, Code.cUnits])
theorem over_gen0 {A : Around} {elt : Expr} {gs : List Comprehension} {scope : Scope} {pos : Pos} {it acc : Value} {env : Env} : A.over (.compStart (.GeneratorExp elt gs scope pos) 0 it acc env) [] = A.deeper env := by
  first
    | rfl
    | (obtain ⟨hd, d, fr, gs, u⟩ := A; simp [Around.over, Around.deeper, marksOver, frameCount, unitsOf, envsOf, guardsOf, pushEnvs, pushGuards, Code.envs, Code.env?, Code.isFrame, Code.guards, Code.isGuard, Code.weight, Code.frames, Code.isCreation, Code.isCaller, Code.cUnits])
section
variable {X : Cx} {pins : List (Addr × Obj)} {σ : St} {H : Hp} {s : Shared}
theorem gn_start {scope : Scope} {own : List (Str × Nat)} {fp : List Addr} {A : Around} {code : Value} {a : Addr} {go : Obj} {h5 : Heap} {g5 : Array GenState} {t5 : Nat} (I : Inv X pins σ H s) (G : GnS X.N X.env.scope scope own) (hN : X.N.Nodup) (hfp : ∀ b ∈ fp, FpOk X pins H b ∧ b < s.heap.objs.size)
    (hA : A.handled = none) (hfr : A.frames = some X.stack) (hb : AllBare g5) (kp : ∀ b o, s.heap.get? b = some o → h5.get? b = some o) (hns : ∃ m, h5.Ns s.heap.objs.size m) (ha : s.heap.objs.size < a) (hgo : h5.get? a = some go) (hgd : ∀ v, go.data ≠ .cell v) :
    Inv (gnCx X A s H scope s.heap.objs.size code fp [(a, go)]) [] (L2.wipe σ (own.map fun p : Str × Nat => p.2)) H { s with heap := h5, gens := g5, toks := t5 } := by
  have hfree : ∀ y ∈ scope.names, y.2 = .free → ∃ c, X.env.cells.lookup y.1 = some c := fun y hy e => by
    rcases G.free y hy e with k | k
    · exact I.ok.has _ (.inl k)
    · exact I.ok.has _ (.inr k)
  have cm : ∀ {y c}, (cloFrom X.env.cells scope.names []).lookup y = some c → X.env.cells.lookup y = some c := fun {y c} e => by
    rcases cloFrom_mem (PySem.mem_of_lookup e) with hm | ⟨h1, h2⟩
    · cases hm
    · obtain ⟨c1, hc⟩ := hfree _ h1 rfl
      have hc : X.env.cells.lookup y = some c1 := hc
      have e2 : c = c1 := by
        rw [h2, hc] <;> rfl
      rw [e2]
      exact hc
  have look : ∀ {y}, scope.names.lookup y = some .free → ∃ c, (cloFrom X.env.cells scope.names []).lookup y = some c := fun {y} hl =>
    mem_lookup (cloFrom_has (cells := X.env.cells) (acc := []) (PySem.mem_of_lookup hl))
  have cellLt : ∀ {y c}, X.env.cells.lookup y = some c → c < s.heap.objs.size := fun {y c} e => let ⟨_, z⟩ := I.cell y c e; z.lt
  have e0 := I.env0
  have stn : ∀ b ∈ fp, b ∉ frs X.stack := fun b hb hm => by
    rcases List.mem_cons.mp (I.stkSub b hm) with z | z
    · exact (hfp b hb).1.2.1 z
    · exact (hfp b hb).1.2.2.1 z
  obtain ⟨m, hns⟩ := hns
  refine ⟨⟨e0.mod, G.kind, I.ok.glob, rfl, Nat.le_refl _, fun y z c e1 e2 => I.ok.inj y z c (cm e1) (cm e2), fun y hy => ?_, fun y c z _ => ?_, fun _ => hA, Around.frames_deeper hfr, .inr ⟨rfl, rfl⟩, fun b hb => ⟨Nat.ne_of_lt (hfp b hb).2, fun y c e => (hfp b hb).1.2.2.2.2.1 y c (cm e)⟩,
      e0.bs, e0.bsz, fun b o e hb => ?_, stn, e0.funs, e0.frf⟩,
    rfl, hb, Un.kept kp, ⟨m, hns, fun i y v e1 e2 e3 => ?_⟩, fun y c e => ?_, I.hok.fresh (Nat.le_refl _), fun y c e => I.freeC y c (cm e), fun p hp => ?_, I.hok.kept kp, by rw [wipe_length]; exact I.len⟩
  · have hy : scope.names.lookup y = some .cell ∨ scope.names.lookup y = some .free := hy
    rcases hy with hy | hy
    · exact absurd rfl (G.cell _ (PySem.mem_of_lookup hy))
    · exact look hy
  · cases (z : false = true)
  · have q := (hfp b hb).1.2.2.2.1
    rcases q with q | q
    · exact I.ok.noex b o e q
    · exact absurd (Nat.lt_of_lt_of_le (Heap.lt_size (I.ok.bs b o e).1) q) (Nat.lt_irrefl _)
  · have e3 : Vis scope y := e3
    obtain ⟨e2, hi⟩ := wipe_some e2
    rcases e3 with k | k | k
    · rcases G.own _ (PySem.mem_of_lookup k) rfl with z | z
      · obtain ⟨p, hp, e⟩ := List.mem_map.mp z
        have q := G.ix p hp
        rw [show p.1 = y from e] at q
        exact absurd (List.mem_map.mpr ⟨p, hp, nodup_ix hN q e1⟩) hi
      · exact absurd (List.mem_of_getElem? e1) z
    · exact absurd rfl (G.cell _ (PySem.mem_of_lookup k))
    · obtain ⟨m', hn, hl⟩ := I.loc
      have hvis : Vis X.env.scope y := (G.free _ (PySem.mem_of_lookup k) rfl).elim (fun k => .inr (.inl k)) (fun k => .inr (.inr k))
      obtain ⟨w', r, q⟩ := hl i y v e1 e2 hvis
      obtain ⟨c2, h2⟩ := look k
      refine ⟨w', r, .inr ⟨.inr k, c2, h2, ?_⟩⟩
      have c1 := cm h2
      rcases q with ⟨k', _⟩ | ⟨_, c3, e', z⟩
      · have k' : X.env.scope.names.lookup y = some .local := k'
        rcases G.free _ (PySem.mem_of_lookup k) rfl with k2 | k2 <;> rw [show X.env.scope.names.lookup y = _ from k2] at k' <;> cases k'
      · rw [c1] at e'
        cases e'
        obtain ⟨o, ho, hd⟩ := z
        exact ⟨o, kp _ _ ho, hd⟩
  · obtain ⟨w', o, ho, hd⟩ := I.cell y c (cm e)
    exact ⟨w', o, kp _ _ ho, hd⟩
  · have z : p = (a, go) := by simpa [gnCx] using hp
    subst z
    exact ⟨hgo, I.hok.fresh (Nat.le_of_lt ha), Nat.ne_of_gt ha, fun hm => by
      rcases List.mem_cons.mp (I.stkSub a hm) with z | z
      · have := I.lt
        rw [← z] at this
        exact absurd (Nat.lt_trans this ha) (Nat.lt_irrefl _)
      · exact I.nofs (Nat.le_of_lt ha) z, hgd⟩
end
/-! ### what it hands out -/
def traceD (t : GF) (c : TF) (e : EF) : List D → List Sl → List O → List (D × List O) × Option (List O)
  | [], _, st => ([], some st)
  | d :: ds, env, st => match t d env with
    | none => ([], none)
    | some env1 => match c env1 st with
      | .ok b st1 => if b then (match e env1 st1 with
          | .ok y st2 => ((y, st2) :: (traceD t c e ds env st2).1, (traceD t c e ds env st2).2)
          | _ => ([], none)) else traceD t c e ds env st1
      | _ => ([], none)
/-- a generator's parts -/
structure GnP where
  Y : Cx
  g : Gp
  B : Bs
  F1 : Hp
  μ1 : List Addr
  H1 : Hp
  env0 : List Sl
  σ0 : St
  fp : List Addr
  tn : Nat → Heap → Prop
  ds : List D
  t : GF
  c : TF
  e : EF
  Tr : List (D × List O) × Option (List O)
  pf : Obj → List (Addr × Obj)
  SR : Nat → Obj → Hp → List Addr → Prop
def GnP.CoreE (G : GnP) (ip : List (Addr × Obj)) (st : List O) (F : Hp) (μ : List Addr) (H : Hp) (s : Shared) : Prop :=
  Inv G.Y ip G.σ0 H s ∧ Rl G.Y.K G.g G.B F μ H G.env0 st G.σ0 ∧ Hd G.F1 G.μ1 F μ ∧ Go G.F1 G.μ1 G.H1 F μ H ∧ ∀ b ∈ G.fp, H b = none
/-- before the j-th item is asked for -/
def GnP.At (G : GnP) (j : Nat) (s : Shared) : Prop := ∃ o F μ H i st, G.SR j o F μ ∧ i ≤ G.ds.length ∧ traceD G.t G.c G.e (G.ds.drop i) G.env0 st = (G.Tr.1.drop j, G.Tr.2) ∧ G.CoreE (G.pf o) st F μ H s ∧ G.tn i s.heap
/-- the j-th item v has come -/
def GnP.Out (G : GnP) (j : Nat) (v : Value) (h0 : Heap) (s : Shared) : Prop := ∃ y x o F μ H i st, (∀ p ∈ G.pf o, h0.get? p.1 = some p.2) ∧ G.Tr.1[j]? = some (y, st) ∧ RelV x v ∧ Rep G.Y.K F μ x y ∧ G.SR j o F μ ∧ i ≤ G.ds.length ∧ traceD G.t G.c G.e (G.ds.drop i) G.env0 st = (G.Tr.1.drop (j + 1), G.Tr.2) ∧ G.CoreE (G.pf o) st F μ H s ∧ G.tn i s.heap
def GnP.Good (G : GnP) (j : Nat) : Prop := G.Tr.1.drop j ≠ [] ∨ G.Tr.2 ≠ none
def GnP.YP (G : GnP) : Protocol := fun n s₀ v s kap => ∃ j, j + n = G.Tr.1.length ∧ G.Out j v s₀.heap s ∧ (G.Good (j + 1) → ∀ s', G.At (j + 1) s' → kap (.send .none) s')
def GnP.End (G : GnP) (h0 : Heap) (s : Shared) : Prop := ∃ o F μ H st, (∀ p ∈ G.pf o, h0.get? p.1 = some p.2) ∧ G.Tr.2 = some st ∧ G.SR G.Tr.1.length o F μ ∧ G.CoreE (G.pf o) st F μ H s
def GnP.RE (G : GnP) : GenEnd := fun n s₀ r s => r = .ok .next ∧ (n = 1 ∧ G.End s₀.heap s)
/-- what is known of them -/
structure GnOk (G : GnP) (A : Around) (tg elt : Expr) (ifs : List Expr) (it : Addr) (J : It) (ws : List Nat) (σ : St) : Prop where
  calm : G.Y.calm = true
  around : G.Y.A = A.deeper G.Y.env
  co : G.Y.env.scope.isCoroutine = false
  σ0 : G.σ0 = L2.wipe σ ws
  turn : Turn G.Y.prog G.Y.w G.Y.K tg J G.fp it G.tn
  wk : DWk G.Y.K G.g J G.F1 G.μ1 G.ds
  pg : DG G.g G.Y G.B ws tg G.t
  pt : DTs G.g G.Y G.B Z0 ifs G.c
  pe : DE G.g G.Y G.B Z0 elt G.e
  mono : ∀ j o F μ F' μ', G.SR j o F μ → RdSub F F' → Pre μ μ' → G.SR j o F' μ'
  ex : G.Y.ex = G.fp
  xe : G.Y.xe = fun _ _ => False
  pin : ∀ o, ∀ p ∈ G.Y.pn ++ G.pf o, p.1 ∉ G.fp
section
variable {G : GnP} {A : Around} {tg elt iter : Expr} {ifs : List Expr} {it : Addr} {J : It} {ws : List Nat} {σ : St} {scope : Scope} {pos : Pos}
theorem GnOk.fpOk (K : GnOk G A tg elt ifs it J ws σ) {o : Obj} {σ' : St} {H : Hp} {s : Shared} (I : Inv G.Y (G.pf o) σ' H s) (hn : ∀ b ∈ G.fp, H b = none) : ∀ b ∈ G.fp, FpOk G.Y (G.pf o) H b := fun b hb => by
  have hx : b ∈ G.Y.ex := by rw [K.ex]; exact hb
  exact ⟨hn b hb, (I.ok.exf b hx).1, I.ok.exfs b hx, .inl hx, fun x c e => (I.ok.exf b hx).2 x c e, fun p hp z => K.pin o p hp (by rw [z]; exact hb)⟩
theorem seg_gen (K : GnOk G A tg elt ifs it J ws σ) : ∀ (n k i : Nat) (s₀ s : Shared) (o : Obj) (F : Hp) (μ : List Addr) (H : Hp) (st : List O) (j : Nat), G.ds.length - i = k → i ≤ G.ds.length → traceD G.t G.c G.e (G.ds.drop i) G.env0 st = (G.Tr.1.drop j, G.Tr.2) → j + n = G.Tr.1.length + 1 → j ≤ G.Tr.1.length →
    G.SR j o F μ → G.CoreE (G.pf o) st F μ H s → G.tn i s.heap → G.Good j → (∀ p ∈ G.pf o, s₀.heap.get? p.1 = some p.2) →
    Seg (model G.Y.prog G.Y.w) A G.RE G.YP n s₀ (.compLoop (.GeneratorExp elt [⟨tg, iter, ifs, 0⟩] scope pos) 0 (.ref it) .none G.Y.env) ((model G.Y.prog G.Y.w).den (.compLoop (.GeneratorExp elt [⟨tg, iter, ifs, 0⟩] scope pos) 0 (.ref it) .none G.Y.env)) [] s := by
  have ov : A.over (.compLoop (.GeneratorExp elt [⟨tg, iter, ifs, 0⟩] scope pos) 0 (.ref it) .none G.Y.env) [] = G.Y.A := over_gen.trans K.around.symm
  intro n
  induction n using Nat.strongRecOn with
  | ind n ihn =>
  intro k
  induction k with
  | zero =>
    intro i s₀ s o F μ H st j hk hi htr hjn hjl hsr hcore htn hgood hs₀
    have hin : i = G.ds.length := by omega
    subst hin
    obtain ⟨I, r, hd, hg, hfp⟩ := hcore
    rw [List.drop_length] at htr
    unfold traceD at htr
    show Seg _ A _ _ _ s₀ _ ((compTurn (.GeneratorExp elt [⟨tg, iter, ifs, 0⟩] scope pos) 0 (.ref it) .none G.Y.env).onRaise (leaving G.Y.env)) [] s
    rw [compTurn_gen, Sem.onRaise_eq_wrap]
    refine seg_bind_wrap (wpAny_standAt ?_)
    refine seg_bind_wrap ?_
    rw [ov]
    refine thnF (K.turn.done G.Y rfl rfl rfl K.calm _ (G.pf o) s _ H (fun _ _ => False) I (K.fpOk I hfp) htn (K.wk.stop F μ H st r.ok hd)) fun v s1 ⟨hv, I1⟩ => ?_
    subst hv
    have e1 : G.Tr.1.drop j = [] := (congrArg Prod.fst htr).symm
    have e2 : G.Tr.2 = some st := (congrArg Prod.snd htr).symm
    have hj : j = G.Tr.1.length := by
      have := congrArg List.length e1
      rw [List.length_drop] at this
      simp only [List.length_nil] at this
      omega
    exact seg_end (.ok .next) ⟨rfl, by omega, o, F, μ, H, st, hs₀, e2, by rw [← hj]; exact hsr, I1, r, hd, hg, hfp⟩
  | succ k ih =>
    intro i s₀ s o F μ H st j hk hi htr hjn hjl hsr hcore htn hgood hs₀
    have hlt : i < G.ds.length := by omega
    obtain ⟨I, r, hd, hg, hfp⟩ := hcore
    show Seg _ A _ _ _ s₀ _ ((compTurn (.GeneratorExp elt [⟨tg, iter, ifs, 0⟩] scope pos) 0 (.ref it) .none G.Y.env).onRaise (leaving G.Y.env)) [] s
    rw [compTurn_gen, Sem.onRaise_eq_wrap]
    refine seg_bind_wrap (wpAny_standAt ?_)
    refine seg_bind_wrap ?_
    rw [ov]
    refine thnF (K.turn.item G.Y rfl rfl rfl K.calm i (G.pf o) s _ H (fun _ _ => False) I (K.fpOk I hfp) htn (K.wk.go i F μ H st r.ok hd hlt)) fun v s1 ⟨u, hv, h1⟩ => ?_
    subst hv
    refine seg_bind_wrap ?_
    rw [ov]
    refine thnF h1 fun _ s2 ⟨x, H2, I2, rx, hy, htn2, hfp2⟩ => ?_
    obtain ⟨d, F2, hd2, g2, k2, rp⟩ := K.wk.yld i F μ H st x H2 r.ok hd hlt hy
    have I2' := I2.pinned (K.fpOk I2 hfp2) (K.turn.obj _ _ htn2)
    have hdr : G.ds.drop i = d :: G.ds.drop (i + 1) := by
      rw [List.drop_eq_getElem_cons hlt]
      rw [List.getElem?_eq_getElem hlt] at hd2
      cases hd2
      rfl
    rw [hdr] at htr
    unfold traceD at htr
    have stuck : ∀ {p : List (D × List O) × Option (List O)}, p = (G.Tr.1.drop j, G.Tr.2) → p ≠ ([], none) := fun e z => by
      rw [z] at e
      rcases hgood with q | q
      · exact q (congrArg Prod.fst e).symm
      · exact q (congrArg Prod.snd e).symm
    cases q : G.t d G.env0 with
    | none => simp only [q] at htr; exact absurd rfl (stuck htr)
    | some env1 =>
      simp only [q] at htr
      have r2 := r.step g2 k2
      refine seg_bind_wrap ?_
      rw [ov]
      have run1 := K.pg.run _ s2 G.σ0 H2 x u (fun σ' H' => H' = H2 ∧ Rl G.Y.K G.g G.B F2 μ H2 env1 st σ' ∧ Off ws G.σ0 σ') I2' rx ⟨F2, μ, st, G.env0, d, env1, r2, rp, q, fun σ' r' o' => ⟨rfl, r', o'⟩⟩
      rw [K.xe] at run1
      refine thnF run1 fun _ s3 ⟨σ3, H3, I3, eH, r3, o3⟩ => ?_
      rw [eH] at I3
      cases q2 : G.c env1 st with
      | exc _ _ => simp only [q2] at htr; exact absurd rfl (stuck htr)
      | bad => simp only [q2] at htr; exact absurd rfl (stuck htr)
      | ok b st4 =>
        simp only [q2] at htr
        refine seg_bind_wrap ?_
        rw [ov]
        have run2 := (K.pt.run _ s3 σ3 H2 (fun b' H' => b' = b ∧ ∃ F4 μ4, Go F2 μ H2 F4 μ4 H' ∧ Ok G.Y.K G.g F4 μ4 H' st4) I3 ⟨env1, F2, μ, st, r3, by rw [q2]; exact fun F' μ' H' x k => ⟨rfl, F', μ', x, k⟩⟩)
        rw [K.xe] at run2
        refine thnF run2 fun b' s4 ⟨H4, I4, eb, F4, μ4, g4, k4⟩ => ?_
        subst eb
        -- from any state of the turn to the next turn
        have back : ∀ {H' : Hp} {s' : Shared}, Inv G.Y (G.pf o ++ pinsAt G.fp s2.heap) σ3 H' s' → Inv G.Y (G.pf o) G.σ0 H' s' ∧ G.tn (i + 1) s'.heap ∧ ∀ b ∈ G.fp, H' b = none := fun {H' s'} I' => by
          have pin' : ∀ b ∈ G.fp, ∀ ob, s2.heap.get? b = some ob → s'.heap.get? b = some ob ∧ H' b = none := fun b hb ob e =>
            let z := I'.pin (b, ob) (List.mem_append_right _ (List.mem_append_right _ (mem_pinsAt hb e)))
            ⟨z.1, z.2.1⟩
          refine ⟨I'.unpinned.weak o3.1.symm fun a w e => ?_, K.turn.keep _ _ _ htn2 fun b hb ob e => (pin' b hb ob e).1, fun b hb => ?_⟩
          · rw [K.σ0] at e
            have z := (wipe_some e).2
            rw [o3.2 a z, K.σ0]
            exact e
          · obtain ⟨ob, e, _⟩ := K.turn.obj _ _ htn2 b hb
            exact (pin' b hb ob e).2
        have g24 := g2.trans g4
        cases b' with
        | false =>
          simp only [Bool.false_eq_true, if_false] at htr ⊢
          obtain ⟨J1, J2, J3⟩ := back I4
          refine seg_again rfl (ih (i + 1) s₀ s4 o F4 μ4 H4 st4 j (by omega) hlt htr hjn hjl (K.mono _ _ _ _ _ _ hsr g24.sub g24.pre) ⟨J1, r.step g24 k4, hd.go g24, hg.trans g24, J3⟩ J2 hgood hs₀)
        | true =>
          simp only [if_true] at htr ⊢
          have hy2 : ∀ v, yieldOut G.Y.env v = yieldValue v := fun v => by simp only [yieldOut, K.co, Bool.false_eq_true, if_false]
          simp only [hy2]
          cases q3 : G.e env1 st4 with
          | exc _ _ => simp only [q3] at htr; exact absurd rfl (stuck htr)
          | bad => simp only [q3] at htr; exact absurd rfl (stuck htr)
          | ok y st5 =>
            simp only [q3] at htr
            rw [Sem.bind_eq_wrap', Sem.bind_eq_wrap', Sem.wrap_wrap, Sem.wrap_wrap]
            refine seg_wrap ?_
            rw [ov]
            have run3 := (K.pe.run _ s4 σ3 H4 (fun v H' => ∃ F5 μ5, Go F4 μ4 H4 F5 μ5 H' ∧ Ok G.Y.K G.g F5 μ5 H' st5 ∧ Rep G.Y.K F5 μ5 v y) I4 ⟨env1, F4, μ4, st4, r3.step g4 k4, by rw [q3]; exact fun F' μ' H' x k v rv => ⟨F', μ', x, k, rv⟩⟩)
            rw [K.xe] at run3
            refine thnF run3 fun w s5 ⟨v5, H5, I5, rv5, F5, μ5, g5, k5, rp5⟩ => ?_
            obtain ⟨J1, J2, J3⟩ := back I5
            have e1 : G.Tr.1.drop j = (y, st5) :: (traceD G.t G.c G.e (G.ds.drop (i + 1)) G.env0 st5).1 := (Prod.mk.inj htr).1.symm
            have e2 : (traceD G.t G.c G.e (G.ds.drop (i + 1)) G.env0 st5).2 = G.Tr.2 := (Prod.mk.inj htr).2
            have hjlt : j < G.Tr.1.length := by
              have := congrArg List.length e1
              rw [List.length_drop, List.length_cons] at this
              omega
            have ej : G.Tr.1[j]? = some (y, st5) := by
              have := congrArg (·[0]?) e1
              simpa using this
            have ed : G.Tr.1.drop (j + 1) = (traceD G.t G.c G.e (G.ds.drop (i + 1)) G.env0 st5).1 := by
              have := congrArg List.tail e1
              rw [List.tail_drop] at this
              exact this
            obtain ⟨n', rfl⟩ : ∃ n', n = n' + 1 := ⟨n - 1, by omega⟩
            have g25 := g24.trans g5
            refine seg_at (seg_yield rfl rfl rfl ⟨j, by omega, ⟨y, v5, o, F5, μ5, H5, i + 1, st5, hs₀, ej, rv5, rp5, K.mono _ _ _ _ _ _ hsr g25.sub g25.pre, hlt, by rw [ed, ← e2], ⟨J1, r.step g25 k5, hd.go g25, hg.trans g25, J3⟩, J2⟩, fun hgood' s' hat => ?_⟩)
            obtain ⟨o', F', μ', H', i', st', hsr', hi', htr', hcore', htn'⟩ := hat
            exact seg_again rfl (ihn n' (Nat.lt_succ_self _) (G.ds.length - i') i' s' s' o' F' μ' H' st' (j + 1) rfl hi' htr' (by omega) hjlt hsr' hcore' htn' hgood' fun p hp => (hcore'.1.pin p (List.mem_append_right _ hp)).1)
/-! ### the next item -/
theorem Inv.regen {X : Cx} {pins : List (Addr × Obj)} {σ : St} {H : Hp} {s : Shared} {g' : Array GenState} {t' : Nat} (I : Inv X pins σ H s) (hb : AllBare g') : Inv X pins σ H { s with gens := g', toks := t' } :=
  ⟨I.ok, I.os, hb, I.base, I.loc, I.cell, I.free, I.freeC, I.pin, I.hok, I.len⟩
theorem GnP.At.regen {G : GnP} {j : Nat} {s : Shared} (h : G.At j s) {g' : Array GenState} {t' : Nat} (hb : AllBare s.gens → AllBare g') : G.At j { s with gens := g', toks := t' } := by
  obtain ⟨o, F, μ, H, i, st, h1, h2, h3, ⟨I, r⟩, h4⟩ := h
  exact ⟨o, F, μ, H, i, st, h1, h2, h3, ⟨Inv.regen I (hb I.bare), r⟩, h4⟩
theorem GnP.Out.regen {G : GnP} {j : Nat} {v : Value} {h0 : Heap} {s : Shared} (h : G.Out j v h0 s) {g' : Array GenState} {t' : Nat} (hb : AllBare s.gens → AllBare g') : G.Out j v h0 { s with gens := g', toks := t' } := by
  obtain ⟨y, x, o, F, μ, H, i, st, h0, h1, h2, h3, h4, h5, h6, ⟨I, r⟩, h7⟩ := h
  exact ⟨y, x, o, F, μ, H, i, st, h0, h1, h2, h3, h4, h5, h6, ⟨Inv.regen I (hb I.bare), r⟩, h7⟩
theorem GnP.End.kept {G : GnP} {h0 : Heap} {s : Shared} (h : G.End h0 s) {h' : Heap} {g' : Array GenState} {t' : Nat} (hb : AllBare s.gens → AllBare g') (k : ∀ b u, s.heap.get? b = some u → h'.get? b = some u) : G.End h0 { s with heap := h', gens := g', toks := t' } := by
  obtain ⟨o, F, μ, H, st, h0, h1, h2, I, r⟩ := h
  exact ⟨o, F, μ, H, st, h0, h1, h2, Inv.regen (Inv.kept (t' := t') I k) (hb I.bare), r⟩
/-- the generator at a, its state the gi-th, can be asked for the j-th item (and the ones behind it) -/
def GnP.Alive (G : GnP) (A : Around) (gi : Nat) (j : Nat) (s : Shared) : Prop := G.At j s ∧ G.Good j ∧ j ≤ G.Tr.1.length ∧ ∃ gs, s.gens[gi]? = some gs ∧ ∀ s', G.At j s' → gs.Goes (model G.Y.prog G.Y.w) A.in1 G.RE G.YP (G.Tr.1.length + 1 - j) (.send .none) s'
/-- behind the j-th item: once the consumer has put its own things right it can be asked again -/
def GnP.Again (G : GnP) (A : Around) (gi : Nat) (j : Nat) (s : Shared) : Prop := G.Good (j + 1) → ∀ s', s'.gens = s.gens → G.At (j + 1) s' → G.Alive A gi (j + 1) s'
theorem gn_next {a : Addr} {go : Obj} {gi j : Nat} {s : Shared} {Q : Option Value → Shared → Prop} {E : Value → Shared → Prop} (hp : (a, go) ∈ G.Y.pn) (hgo : ∀ h : Heap, h.get? a = some go → h.IsGen a gi) (hh : A.handled = none) (hroom : A.depth < recursionLimit) (h : G.Alive A gi j s)
    (hnone : ∀ s', j = G.Tr.1.length → G.End s.heap s' → Q none s') (hsome : ∀ v s', G.Out j v s.heap s' → G.Again A gi j s' → Q (some v) s') : wpAny (model G.Y.prog G.Y.w) A (pyNext (.ref a)) Q E s := by
  obtain ⟨hat, hgood, hjl, gs, hgs, hgoes⟩ := h
  have hgl : gi < s.gens.size := (Array.getElem?_eq_some_iff.mp hgs).1
  have hlim : s.heap.NoLimit := by obtain ⟨o, F, μ, H, i, st, h1, h2, h3, ⟨I, r⟩, h4⟩ := hat; exact I.nolimit
  have hgen : s.heap.IsGen a gi := by
    obtain ⟨o, F, μ, H, i, st, h1, h2, h3, ⟨I, r⟩, h4⟩ := hat
    exact hgo _ (I.pin (a, go) (List.mem_append_left _ hp)).1
  have hat1 : G.At j (s.setGen gi .running) := hat.regen (t' := s.toks) fun hb => allBare_setGen hb rfl
  refine wpAny_gsz (n := gi + 1) hgl (wpAny_pyNext_genexpQ (P := fun n s₀ s₁ => n = 1 ∧ G.End s₀.heap s₁) hh hlim hroom hgen hgs (hgoes _ hat1) (fun v s₁ gs' hb hv => ?_) fun s₁ hp h' hk => ?_)
  · intro hsz
    obtain ⟨j', hj', hout, hkap⟩ := hv
    have ej : j' = j := by omega
    subst ej
    have hlt : j' < G.Tr.1.length := by
      obtain ⟨y, x, o, F, μ, H, i, st, _, h1, _⟩ := hout
      exact (List.getElem?_eq_some_iff.mp h1).1
    have hsz1 : gi < s₁.gens.size := by
      have q : (s₁.setGen gi gs').gens.size = s₁.gens.size := setGen_size _ _ _
      have hsz' : gi + 1 ≤ (s₁.setGen gi gs').gens.size := hsz
      omega
    refine hsome v _ (hout.regen (t' := s₁.toks) fun hb' => allBare_setGen hb' hb) fun hg s' es hat' => ⟨hat', hg, hlt, gs', by rw [es]; exact setGen_at hsz1, fun s'' hat'' => ?_⟩
    have z := hkap hg s'' hat''
    have e1 : G.Tr.1.length + 1 - j' = (G.Tr.1.length + 1 - (j' + 1)) + 1 := by omega
    rw [e1] at z
    exact z
  · intro _
    obtain ⟨hn, hend⟩ := hp
    exact hnone _ (by omega) (hend.kept (fun hb => allBare_setGen hb rfl) hk)
end
end DV

set_option Elab.async false
set_option linter.all false
set_option maxRecDepth 100000
set_option maxHeartbeats 2000000
namespace DV
open PySem PySem.Spec PyProof.Rows L2 GenW
open LamX (Tabs TabS ExtN CodeO TabB)
section
variable {g : Gp} {X : Cx} {B : Bs} {Z : ZZ} {fi : AF}
/-- a generator expression has been made -/
structure Made (g : Gp) (X : Cx) (pins : List (Addr × Obj)) (σ : St) (F1 : Hp) (μ1 : List Addr) (H1 : Hp) (st1 : List O) (ds : List D) (tg elt iter : Expr) (ifs : List Expr) (scope : Scope) (pos : Pos) (a : Addr) (s5 : Shared) where
  J : It
  it : Addr
  fp : List Addr
  tn : Nat → Heap → Prop
  code : Value
  s3 : Shared
  h5 : Heap
  t5 : Nat
  go : Obj
  ok : Ok X.K g F1 μ1 H1 st1
  inv : Inv X pins σ H1 s3
  turn : Turn X.prog X.w X.K tg J fp it tn
  tn0 : tn 0 h5
  wk : DWk X.K g J F1 μ1 ds
  fpo : ∀ b ∈ fp, FpOk X pins H1 b ∧ b < s3.heap.objs.size
  e5 : s5 = { s3 with heap := h5, gens := s3.gens.push (.fresh (.compStart (.GeneratorExp elt [⟨tg, iter, ifs, 0⟩] scope pos) 0 (.ref it) .none (gnEnv X scope s3.heap.objs.size code))), toks := t5 }
  kp : ∀ b o, s3.heap.get? b = some o → h5.get? b = some o
  ns : ∃ m, h5.Ns s3.heap.objs.size m
  aC : s3.heap.objs.size < a
  as : h5.objs.size = a + 1
  ago : h5.get? a = some go
  gd : ∀ v, go.data ≠ .cell v
  gen : ∀ h : Heap, h.get? a = some go → h.IsGen a s3.gens.size
theorem gn_make {k : Nat} {c P : Addr} {tg elt iter : Expr} {ifs : List Expr} {scope : Scope} {own : List (Str × Nat)} {pos : Pos} {pins : List (Addr × Obj)} {σ : St} {H F : Hp} {μ : List Addr} {env : List Sl} {st : List O} {s : Shared} {Pw : List D → List O → Hp → List Addr → Hp → Prop} {Q' : Value → Shared → Prop}
    (hr : Room k X.A) (TB : TabB X.base X.mg c P) (hcode : X.env.code = .ref c) (hmT : (P, X.env.qual ++ "<genexpr>") ∈ g.T) (hu : ∀ p ∈ g.T, p.1 = P → p.2 = X.env.qual ++ "<genexpr>") (G : GnS X.N X.env.scope scope own) (hi : DI g X B Z tg iter fi)
    (hs : ∀ v, genFold iter X.env v = pure v) (I : Inv X pins σ H s) (rl : Rl X.K g B F μ H env st σ) (h : Aft X.K g F μ H Z (fi env st) Pw)
    (hQ : ∀ ds st1 F1 μ1 H1 a s5, fi env st = .ok ds st1 → Go F μ H F1 μ1 H1 → Made g X pins σ F1 μ1 H1 st1 ds tg elt iter ifs scope pos a s5 → Q' (.ref a) s5) :
    wpAny (model X.prog X.w) X.A (eval (.GeneratorExp elt [⟨tg, iter, ifs, 0⟩] scope pos) X.env) Q' X.xe s := by
  have hfree : ∀ y ∈ scope.names, y.2 = .free → ∃ c, X.env.cells.lookup y.1 = some c := fun y hy e => by
    rcases G.free y hy e with k | k
    · exact I.ok.has _ (.inl k)
    · exact I.ok.has _ (.inr k)
  refine wpAny_GeneratorExp_make G.co (closure_ok hfree) G.cell G.dot G.kind (by have := hr.dp; omega) ?_ hs
  refine thn (hi.run pins s σ H (fun J H1 => ∃ ds st1 F1 μ1, fi env st = .ok ds st1 ∧ Go F μ H F1 μ1 H1 ∧ Ok X.K g F1 μ1 H1 st1 ∧ DWk X.K g J F1 μ1 ds) I ⟨env, F, μ, st, rl, h.mono fun ds st1 F1 μ1 H1 e x k _ J wk => ⟨ds, st1, F1, μ1, e, x, k, wk⟩⟩) fun xv s1 hx => thn hx fun itv s2 h2 => ?_
  obtain ⟨it, fp, tn, J, H2, e, I2, T, st2, f2, ds, st1, F1, μ1, efi, x1, k1, wk⟩ := h2
  subst e
  refine ⟨I2.nolimit, ?_⟩
  obtain ⟨ps, hP, ht, ha⟩ := k1.tab _ hmT
  have hPs : s2.heap.get? P = some { cls := .none, data := .fields ps } := I2.hok P _ hP
  have cd : PySem.W.CodeHd s2.heap c P := TB.code.keeps I2.bk
  have fpP : ∀ b ∈ fp, b ≠ P := fun b hb z => by
    have q := (f2 b hb).1
    rw [z, hP] at q
    cases q
  have fpl : ∀ b ∈ fp, b < s2.heap.objs.size := fun b hb => by
    obtain ⟨o, e, _⟩ := T.obj _ _ st2 b hb
    exact Heap.lt_size e
  have cont : ∀ (code : Value) (s3 : Shared) (H3 : Hp), Inv X pins σ H3 s3 → ExtN H2 H3 → Tabs g.T H3 → (∀ b o, b ≠ P → s2.heap.get? b = some o → s3.heap.get? b = some o) → s2.heap.objs.size ≤ s3.heap.objs.size → (∀ b ∈ fp, H3 b = none) →
      wpAny (model X.prog X.w) X.A (builtinsFor X.env.globals X.env.builtins) (fun bi s₄ => ∀ h', h'.Ns s₄.heap.objs.size (fun y => if y = ".0" then some (Value.ref it) else none) → Heap.SameBut s₄.heap.objs.size (s₄.heap.push { cls := .type "frame", data := .dict #[] }) h' →
          Q' (.ref h'.objs.size) { s₄ with
            gens := s₄.gens.push (.fresh (.compStart (.GeneratorExp elt [⟨tg, iter, ifs, 0⟩] scope pos) 0 (.ref it) .none (genEnv scope (cloFrom X.env.cells scope.names []) s₄.heap.objs.size code bi X.env))),
            toks := s₄.toks + 1 + 1 + 1,
            heap := h'.push { cls := .type "generator", data := .fields #[.int s₄.gens.size 0, .str "<genexpr>" (s₄.toks + 1), .str (X.env.qual ++ "<genexpr>") (s₄.toks + 1 + 1)] } }) X.xe s3 := by
    intro code s3 H3 I3 eN T3 keep3 hsz hfp3
    obtain ⟨bm, ob, e1, e2, e3, e4, e5, e6, e7, e8⟩ := TB.bm
    refine wpAny_builtinsFor (m := X.mg) (by rw [I3.ok.glob]; exact I3.mod.glob.keeps I3.bk) e1 e2 (I3.bk _ _ e5) e6 e7 e8 ?_
    intro h' hn' hs'
    have hz : h'.objs.size = s3.heap.objs.size + 1 := by rw [hs'.1, Heap.size_push]
    have keep' : ∀ b o, s3.heap.get? b = some o → h'.get? b = some o := fun b o e => hs'.extBut b o (Nat.ne_of_lt (Heap.lt_size e)) (Heap.get?_push_of_some _ e)
    have go3 : Go F1 μ1 H2 F1 μ1 H3 := Go.ext eN
    refine hQ ds st1 F1 μ1 H3 _ _ efi (x1.trans go3) ⟨J, it, fp, tn, code, s3, _, _, _, k1.ext eN T3, I3, T, T.keep _ _ _ st2 fun b hb o e => Heap.get?_push_of_some _ (keep' b o (keep3 b o (fpP b hb) e)), wk, fun b hb => ⟨⟨hfp3 b hb, (f2 b hb).2⟩, Nat.lt_of_lt_of_le (fpl b hb) hsz⟩,
      rfl, fun b o e => Heap.get?_push_of_some _ (keep' b o e), ⟨_, hn'.push _⟩, by rw [hz]; exact Nat.lt_succ_self _, Heap.size_push .., Heap.get?_push_size _ rfl, (fun v z => nomatch z), fun h e => ⟨_, _, _, e, rfl, rfl, rfl⟩⟩
  cases hf : codeAmong pos ps.toList with
  | none =>
    refine wpAny_genexprCodeX hcode (cd.code hPs ht) (cd.tab hPs) hf fun c' h' tk hx hge hlt _ hrec htab' _ => ?_
    obtain ⟨c2, oc, vs, t, e2, hoc, hd, hv⟩ := hrec
    cases e2
    have nC : H2 c' = none := I2.hok.fresh hge
    have I3 := LamX.inv_table (t' := tk) (more := #[rawInt pos.line, rawInt pos.col, .ref c']) (h' := h') I2 hP (fun b o hb e => hx b o hb e) htab'.2 hge ⟨oc, vs, t, hoc, hd, hv⟩
    have hE : ExtN H2 (upd (upd H2 P (.tbl (ps ++ #[rawInt pos.line, rawInt pos.col, .ref c']))) c' (CodeO c' (X.env.qual ++ "<genexpr>"))) := fun b o e n => by
      rw [upd_ne (ne_of_none e nC), upd_ne (fun z => n ps (Option.some.inj (e.symm.trans (by rw [z]; exact hP))))]
      exact e
    have eL : (ps ++ #[rawInt pos.line, rawInt pos.col, .ref c']).toList = ps.toList ++ [rawInt pos.line, rawInt pos.col, .ref c'] := by simp
    refine cont _ _ _ I3 hE (fun p hp => ?_) (fun b o hb e => hx b o hb e) (Nat.le_trans hge (Nat.le_of_lt hlt)) fun b hb => ?_
    · by_cases hb : p.1 = P
      · rw [hu p hp hb, hb]
        refine ⟨_, by rw [upd_ne (ne_of_none hP nC), upd_same], by rw [eL]; exact PySem.TriplesOk_snoc _ _ _ _ ht, fun p' cv hcv => ?_⟩
        rw [eL] at hcv
        rcases LamX.among_app _ ht hcv with z | z
        · obtain ⟨c0, e1, e2⟩ := ha p' cv z
          exact ⟨c0, e1, hE _ _ e2 LamX.codeO_ne⟩
        · exact ⟨c', z, upd_same⟩
      · obtain ⟨ps', a1, a2, a3⟩ := k1.tab p hp
        refine ⟨ps', by rw [upd_ne (ne_of_none a1 nC), upd_ne hb]; exact a1, a2, fun p' cv hcv => ?_⟩
        obtain ⟨c0, e1, e2⟩ := a3 p' cv hcv
        exact ⟨c0, e1, hE _ _ e2 LamX.codeO_ne⟩
    · rw [upd_ne (Nat.ne_of_lt (Nat.lt_of_lt_of_le (fpl b hb) hge)), upd_ne (fpP b hb)]
      exact (f2 b hb).1
  | some cv =>
    refine wpAny_genexprCode_hit hcode (cd.code hPs ht) hf ?_
    exact cont cv s2 H2 I2 (ExtN.refl H2) k1.tab (fun b o _ e => e) (Nat.le_refl _) fun b hb => (f2 b hb).1
end
/-- a rule that holds in the body of a generator expression in X -/
abbrev Gbk (X : Cx) (k : Nat) (scope : Scope) (P : Cx → Prop) : Prop := ∀ (A : Around) (s0 : Shared) (H0 : Hp) (C : Addr) (code : Value) (fp : List Addr) (pn : List (Addr × Obj)), Room k (A.deeper (gnEnv X scope C code)) → P (gnCx X A s0 H0 scope C code fp pn)
section
variable {g : Gp} {X : Cx} {B : Bs} {pins : List (Addr × Obj)} {σ : St} {F H F1 H1 : Hp} {μ μ1 : List Addr} {env : List Sl} {st st1 : List O} {ds : List D} {tg elt iter : Expr} {ifs : List Expr} {scope : Scope} {pos : Pos} {a : Addr} {s5 : Shared} {ws : List Nat}
/-- its parts, for a consumer whose around is A -/
def Made.G (M : Made g X pins σ F1 μ1 H1 st1 ds tg elt iter ifs scope pos a s5) (A : Around) (B : Bs) (env : List Sl) (t : GF) (c : TF) (e : EF) (ws : List Nat) (pf : Obj → List (Addr × Obj)) (SR : Nat → Obj → Hp → List Addr → Prop) : GnP where
  Y := gnCx X A.in1 M.s3 H1 scope M.s3.heap.objs.size M.code M.fp [(a, M.go)]
  g := g
  B := B
  F1 := F1
  μ1 := μ1
  H1 := H1
  env0 := wipeE env ws
  σ0 := L2.wipe σ ws
  fp := M.fp
  tn := M.tn
  ds := ds
  t := t
  c := c
  e := e
  Tr := traceD t c e ds (wipeE env ws) st1
  pf := pf
  SR := SR
variable {A : Around} {t : GF} {c : TF} {e : EF} {pf : Obj → List (Addr × Obj)} {SR : Nat → Obj → Hp → List Addr → Prop} {k : Nat} {J : It}
theorem Made.ok2 (M : Made g X pins σ F1 μ1 H1 st1 ds tg elt iter ifs scope pos a s5) {own : List (Str × Nat)} (G : GnS X.N X.env.scope scope own) (hr : Room (k + 1) A.in1) (pg : Gbk X k scope fun Y => DG g Y B ws tg t) (pt : Gbk X k scope fun Y => DTs g Y B Z0 ifs c) (pe : Gbk X k scope fun Y => DE g Y B Z0 elt e)
    (mono : ∀ j o F μ F' μ', SR j o F μ → RdSub F F' → Pre μ μ' → SR j o F' μ') (hpf : ∀ o, ∀ p ∈ pf o, M.s3.heap.objs.size ≤ p.1) : GnOk (M.G A B env t c e ws pf SR) A.in1 tg elt ifs M.it M.J ws σ where
  calm := rfl
  around := rfl
  co := G.co
  σ0 := rfl
  turn := M.turn
  wk := M.wk
  pg := pg _ _ _ _ _ _ _ (hr.deeper _)
  pt := pt _ _ _ _ _ _ _ (hr.deeper _)
  pe := pe _ _ _ _ _ _ _ (hr.deeper _)
  mono := mono
  ex := rfl
  xe := rfl
  pin := fun o p hp hm => by
    have hl := (M.fpo p.1 hm).2
    rcases List.mem_append.mp hp with z | z
    · have z : p ∈ [(a, M.go)] := z
      rw [List.mem_singleton.mp z] at hl
      exact absurd (Nat.lt_trans hl M.aC) (Nat.lt_irrefl _)
    · exact absurd (Nat.lt_of_lt_of_le hl (hpf o p z)) (Nat.lt_irrefl _)
theorem Made.at0 (M : Made g X pins σ F1 μ1 H1 st1 ds tg elt iter ifs scope pos a s5) {own : List (Str × Nat)} (G : GnS X.N X.env.scope scope own) (hN : X.N.Nodup) (hw : ws = own.map fun p : Str × Nat => p.2) (hA : A.handled = none) (hfr : A.frames = some X.stack) (rl : Rl X.K g B F μ H env st σ) (x1 : Go F μ H F1 μ1 H1)
    {h6 : Heap} {t6 : Nat} {o : Obj} (k6 : ∀ b ob, M.h5.get? b = some ob → h6.get? b = some ob) (hpf : ∀ p ∈ pf o, h6.get? p.1 = some p.2 ∧ M.h5.objs.size ≤ p.1 ∧ ∀ v, p.2.data ≠ .cell v) (hsr : SR 0 o F1 μ1) : (M.G A B env t c e ws pf SR).At 0 { s5 with heap := h6, toks := t6 } := by
  obtain ⟨m5, hm5⟩ := M.ns
  have fr : A.in1.frames = some X.stack := hfr
  have eg : s5.gens = M.s3.gens.push (.fresh (.compStart (.GeneratorExp elt [⟨tg, iter, ifs, 0⟩] scope pos) 0 (.ref M.it) .none (gnEnv X scope M.s3.heap.objs.size M.code))) := congrArg Shared.gens M.e5
  have hab : AllBare s5.gens := by
    rw [eg]
    exact AllBare.push M.inv.bare rfl
  have I := gn_start (A := A.in1) (code := M.code) (a := a) (go := M.go) (h5 := h6) (g5 := s5.gens) (t5 := t6) M.inv G hN M.fpo hA fr hab (fun b ob e => k6 b ob (M.kp b ob e)) ⟨m5, hm5.at' fun ob e => k6 _ ob e⟩ M.aC (k6 _ _ M.ago) M.gd
  have es : ({ s5 with heap := h6, toks := t6 } : Shared) = { M.s3 with heap := h6, gens := s5.gens, toks := t6 } := by
    have d := congrArg Shared.drawn M.e5
    have q := congrArg Shared.os M.e5
    show ({ heap := h6, gens := s5.gens, drawn := s5.drawn, toks := t6, os := s5.os } : Shared) = _
    rw [d, q]
  rw [es]
  have la : M.s3.heap.objs.size ≤ M.h5.objs.size := by rw [M.as]; exact Nat.le_succ_of_le (Nat.le_of_lt M.aC)
  refine ⟨o, F1, μ1, H1, 0, st1, hsr, Nat.zero_le _, ?_, ⟨?_, ?_, Hd.refl _ _, Go.refl, fun b hb => (M.fpo b hb).1.1⟩, M.turn.keep _ _ _ M.tn0 fun b _ ob e => k6 b ob e⟩
  · rw [List.drop_zero, List.drop_zero]
    rfl
  · show Inv _ (pf o) (L2.wipe σ ws) H1 _
    rw [hw]
    refine I.pins_of fun p hp => ?_
    obtain ⟨h1, h2, h3⟩ := hpf p hp
    have hle := Nat.le_trans la h2
    refine ⟨h1, M.inv.hok.fresh hle, ?_, fun hm => ?_, h3⟩
    · intro z
      have z : p.1 = M.s3.heap.objs.size := z
      rw [z, M.as] at h2
      exact absurd (Nat.lt_of_lt_of_le M.aC (Nat.le_of_succ_le h2)) (Nat.lt_irrefl _)
    · rcases List.mem_cons.mp (M.inv.stkSub p.1 hm) with z | z
      · have := M.inv.lt
        rw [← z] at this
        exact absurd (Nat.lt_of_lt_of_le this hle) (Nat.lt_irrefl _)
      · exact M.inv.nofs hle z
  · exact (rl.step x1 M.ok).wipe ws
theorem Made.alive0 (M : Made g X pins σ F1 μ1 H1 st1 ds tg elt iter ifs scope pos a s5) (K : GnOk (M.G A B env t c e ws pf SR) A.in1 tg elt ifs M.it M.J ws σ) {s6 : Shared} (hg : s6.gens = s5.gens) (hat : (M.G A B env t c e ws pf SR).At 0 s6) (hgood : (M.G A B env t c e ws pf SR).Good 0) :
    (M.G A B env t c e ws pf SR).Alive A M.s3.gens.size 0 s6 := by
  have eg : s6.gens[M.s3.gens.size]? = some (.fresh (.compStart (.GeneratorExp elt [⟨tg, iter, ifs, 0⟩] scope pos) 0 (.ref M.it) .none (gnEnv X scope M.s3.heap.objs.size M.code))) := by
    rw [hg, show s5.gens = _ from congrArg Shared.gens M.e5]
    exact Array.getElem?_push_size ..
  refine ⟨hat, hgood, Nat.zero_le _, _, eg, fun s' hat' => ⟨rfl, ?_⟩⟩
  obtain ⟨o, F, μ, H, i, st, hsr, hi, htr, hcore, htn⟩ := hat'
  have loop := seg_gen (iter := iter) (scope := scope) (pos := pos) K ((M.G A B env t c e ws pf SR).Tr.1.length + 1 - 0) (ds.length - i) i s' s' o F μ H st 0 rfl hi htr (by omega) (Nat.zero_le _) hsr hcore htn hgood fun p hp => (hcore.1.pin p (List.mem_append_right _ hp)).1
  have ov : A.in1.over (.compStart (.GeneratorExp elt [⟨tg, iter, ifs, 0⟩] scope pos) 0 (.ref M.it) .none (M.G A B env t c e ws pf SR).Y.env) [] = (M.G A B env t c e ws pf SR).Y.A := over_gen0
  show Seg _ A.in1 _ _ _ s' _ ((compStart (.GeneratorExp elt [⟨tg, iter, ifs, 0⟩] scope pos) 0 (.ref M.it) .none (M.G A B env t c e ws pf SR).Y.env).onRaise (leaving (M.G A B env t c e ws pf SR).Y.env)) [] s'
  unfold compStart
  rw [Sem.onRaise_eq_wrap]
  show Seg _ A.in1 _ _ _ s' _ ((ask >>= _).wrap _ _ _ _) [] s'
  refine seg_bind_wrap (wpAny_askSetting ?_)
  split
  · exact seg_again rfl loop
  · first
      | exact seg_bind_wrap (wpAny_rule (seg_bind_wrap (wpAny_standAt (seg_bind_wrap (M.turn.self _ _ s' _ _ htn (seg_again rfl loop))))))
      | (refine seg_bind_wrap (wpAny_rule ?_); show Seg _ A.in1 _ _ _ s' _ ((standAt iter.pos >>= _).wrap _ _ _ _) [] s'; exact seg_bind_wrap (wpAny_standAt (seg_bind_wrap (M.turn.self _ _ s' _ _ htn (seg_again rfl loop)))))
/-- back in X -/
theorem Made.back (M : Made g X pins σ F1 μ1 H1 st1 ds tg elt iter ifs scope pos a s5) {ip : List (Addr × Obj)} {st' : List O} {F' H' : Hp} {μ' : List Addr} {s' : Shared} (h : (M.G A B env t c e ws pf SR).CoreE ip st' F' μ' H' s') : Inv X pins σ H' s' ∧ Go F1 μ1 H1 F' μ' H' ∧ Ok X.K g F' μ' H' st' := by
  obtain ⟨I, r, hd, hg, _⟩ := h
  refine ⟨M.inv.call' (ch := M.fp) I.os I.base I.hok I.bare fun b hb => ?_, hg, r.ok⟩
  obtain ⟨f0, f1, f2, f3, f4, f5⟩ := (M.fpo b hb).1
  exact ⟨f3, f1, f4, f5⟩
end
end DV

set_option Elab.async false
set_option linter.all false
set_option maxRecDepth 100000
set_option maxHeartbeats 2000000
namespace DV
open PySem PySem.Spec PyProof.Rows L2 GenW
open LamX (Tabs TabS ExtN CodeO TabB)
abbrev CnD := List (D × List O) → Option (List O) → R D
def eGen (con : CnD) (fi : AF) (t : GF) (c : TF) (e : EF) (ws : List Nat) : EF := fun env st => (fi env st).bind fun ds st => con (traceD t c e ds (wipeE env ws) st).1 (traceD t c e ds (wipeE env ws) st).2
section
variable {g : Gp} {X : Cx} {B : Bs} {Z : ZZ} {fi : AF} {t : GF} {c : TF} {e : EF} {con : CnD}
/-- what a consumer does -/
def Cons (g : Gp) (X : Cx) (B : Bs) (con : CnD) (fv : Value) (tg elt iter : Expr) (ifs : List Expr) (scope : Scope) (gpos : Pos) (t : GF) (c : TF) (e : EF) (ws : List Nat) : Prop := ∀ (pins : List (Addr × Obj)) (σ : St) (F H F1 H1 : Hp) (μ μ1 : List Addr) (env : List Sl) (st st1 stf : List O) (ds : List D) (a : Addr) (s5 : Shared) (r : D) (Q : VK) (M : Made g X pins σ F1 μ1 H1 st1 ds tg elt iter ifs scope gpos a s5),
  Rl X.K g B F μ H env st σ → Go F μ H F1 μ1 H1 → con (traceD t c e ds (wipeE env ws) st1).1 (traceD t c e ds (wipeE env ws) st1).2 = .ok r stf → (∀ F' μ' H', Go F1 μ1 H1 F' μ' H' → Ok X.K g F' μ' H' stf → ∀ v, Rep X.K F' μ' v r → Q v H') →
    wpAny (model X.prog X.w) X.A (call fv [.ref a]) (EP X pins σ Q) X.xe s5
theorem eGen_of {k : Nat} {cc P : Addr} {tg elt iter : Expr} {ifs : List Expr} {scope : Scope} {own : List (Str × Nat)} {gpos : Pos} {fv : Value} {pins : List (Addr × Obj)} {σ : St} {H : Hp} {s : Shared} {Q : VK}
    (hr : Room k X.A) (TB : TabB X.base X.mg cc P) (hcode : X.env.code = .ref cc) (hmT : (P, X.env.qual ++ "<genexpr>") ∈ g.T) (hu : ∀ p ∈ g.T, p.1 = P → p.2 = X.env.qual ++ "<genexpr>") (G : GnS X.N X.env.scope scope own) (hi : DI g X B Z tg iter fi)
    (hs : ∀ v, genFold iter X.env v = pure v) (hnx : ∀ l f ce st, con l f ≠ .exc ce st) (C : Cons g X B con fv tg elt iter ifs scope gpos t c e (own.map fun p : Str × Nat => p.2)) (I : Inv X pins σ H s) (h : tD X.K g B Z (eGen con fi t c e (own.map fun p : Str × Nat => p.2)) σ H Q) :
    wpAny (model X.prog X.w) X.A (eval (.GeneratorExp elt [⟨tg, iter, ifs, 0⟩] scope gpos) X.env) (fun u s5 => wpAny (model X.prog X.w) X.A (call fv [u]) (EP X pins σ Q) X.xe s5) X.xe s := by
  obtain ⟨env, F, μ, st, rl, h⟩ := h
  refine gn_make hr TB hcode hmT hu G hi hs I rl h.bind fun ds st1 F1 μ1 H1 a s5 efi x1 M => ?_
  unfold eGen at h
  rw [efi] at h
  dsimp only [DV.R.bind] at h
  cases q : con (traceD t c e ds (wipeE env (own.map fun p : Str × Nat => p.2)) st1).1 (traceD t c e ds (wipeE env (own.map fun p : Str × Nat => p.2)) st1).2 with
  | bad => rw [q] at h; exact h.elim
  | exc ce se => exact absurd q (hnx _ _ _ _)
  | ok r stf =>
    rw [q] at h
    exact C pins σ F H F1 H1 μ μ1 env st st1 stf ds a s5 r Q M rl x1 q fun F' μ' H' x k v rv => h F' μ' H' (x1.trans x) k v rv
theorem de_genB {nm : Str} {id : String} {k : Nat} {cc P : Addr} {tg elt iter : Expr} {ifs : List Expr} {scope : Scope} {own : List (Str × Nat)} {p gpos pos : Pos} (hg : Gl X nm) (hm : X.mg nm = none) (hb : bootBuiltins nm = some (.builtin id)) (hr : Room k X.A) (TB : TabB X.base X.mg cc P) (hcode : X.env.code = .ref cc) (hmT : (P, X.env.qual ++ "<genexpr>") ∈ g.T) (hu : ∀ p ∈ g.T, p.1 = P → p.2 = X.env.qual ++ "<genexpr>")
    (G : GnS X.N X.env.scope scope own) (hi : DI g X B Z tg iter fi) (hnx : ∀ l f ce st, con l f ≠ .exc ce st) (C : Cons g X B con (.builtin id) tg elt iter ifs scope gpos t c e (own.map fun p : Str × Nat => p.2)) (hs : ∀ v, genFold iter X.env v = pure v := by intro _; rfl) (hn : nm ≠ "__name__" := by decide) (hd : (nm == ("__debug__" : Str)) = false := by decide)
    (he : starEach [.GeneratorExp elt [⟨tg, iter, ifs, 0⟩] scope gpos] X.env = (false, eval (.GeneratorExp elt [⟨tg, iter, ifs, 0⟩] scope gpos) X.env) :: starEach [] X.env := by rfl) :
    DE g X B Z (.Call (.Name nm p) [.GeneratorExp elt [⟨tg, iter, ifs, 0⟩] scope gpos] [] pos) (eGen con fi t c e (own.map fun p : Str × Nat => p.2)) := by
  refine ⟨fun pins s σ H Q I h => ?_⟩
  refine wpAny_Call_Name_kw (ld_blt I hg hm hb (PyProof.Rows.callWith_builtin1 ?_ he (by rfl)) hn hd)
  rw [he]
  show wpAny _ _ (spliced ((false, eval (.GeneratorExp elt [⟨tg, iter, ifs, 0⟩] scope gpos) X.env) :: backTo pos (starEach [] X.env))) _ _ s
  refine Calls.spliced_cons (thn (eGen_of hr TB hcode hmT hu G hi hs hnx C I h) fun u s5 hu => ?_)
  exact Calls.spliced_nil hu
theorem de_genT {nm : Str} {id : String} {k : Nat} {cc P : Addr} {tg elt iter : Expr} {ifs : List Expr} {scope : Scope} {own : List (Str × Nat)} {p gpos pos : Pos} (hg : Gl X nm) (hm : X.mg nm = none) (hb : bootBuiltins nm = some (.type id)) (hr : Room k X.A) (TB : TabB X.base X.mg cc P) (hcode : X.env.code = .ref cc) (hmT : (P, X.env.qual ++ "<genexpr>") ∈ g.T) (hu : ∀ p ∈ g.T, p.1 = P → p.2 = X.env.qual ++ "<genexpr>")
    (G : GnS X.N X.env.scope scope own) (hi : DI g X B Z tg iter fi) (hnx : ∀ l f ce st, con l f ≠ .exc ce st) (C : Cons g X B con (.type id) tg elt iter ifs scope gpos t c e (own.map fun p : Str × Nat => p.2)) (hs : ∀ v, genFold iter X.env v = pure v := by intro _; rfl) (hn : nm ≠ "__name__" := by decide) (hd : (nm == ("__debug__" : Str)) = false := by decide)
    (he : starEach [.GeneratorExp elt [⟨tg, iter, ifs, 0⟩] scope gpos] X.env = (false, eval (.GeneratorExp elt [⟨tg, iter, ifs, 0⟩] scope gpos) X.env) :: starEach [] X.env := by rfl) :
    DE g X B Z (.Call (.Name nm p) [.GeneratorExp elt [⟨tg, iter, ifs, 0⟩] scope gpos] [] pos) (eGen con fi t c e (own.map fun p : Str × Nat => p.2)) := by
  refine ⟨fun pins s σ H Q I h => ?_⟩
  refine wpAny_Call_Name_kw (ld_blt I hg hm hb (PyProof.Rows.callWith_type1 ?_ he (by rfl)) hn hd)
  rw [he]
  show wpAny _ _ (spliced ((false, eval (.GeneratorExp elt [⟨tg, iter, ifs, 0⟩] scope gpos) X.env) :: backTo pos (starEach [] X.env))) _ _ s
  refine Calls.spliced_cons (thn (eGen_of hr TB hcode hmT hu G hi hs hnx C I h) fun u s5 hu => ?_)
  exact Calls.spliced_nil hu
end
/-! ### any, all -/
def anyD : CnD
  | [], some st => .ok (.bl false) st
  | [], none => .bad
  | (.bl true, st) :: _, _ => .ok (.bl true) st
  | (.bl false, _) :: r, f => anyD r f
  | _ :: _, _ => .bad
def allD : CnD
  | [], some st => .ok (.bl true) st
  | [], none => .bad
  | (.bl false, st) :: _, _ => .ok (.bl false) st
  | (.bl true, _) :: r, f => allD r f
  | _ :: _, _ => .bad
theorem any_nx : ∀ l f ce st, anyD l f ≠ .exc ce st := fun l f ce st => by
  fun_induction anyD l f <;> first | (intro z; cases z; done) | assumption
theorem all_nx : ∀ l f ce st, allD l f ≠ .exc ce st := fun l f ce st => by
  fun_induction allD l f <;> first | (intro z; cases z; done) | assumption
theorem drop_at {α : Type} {l : List α} {j : Nat} {x : α} (h : l[j]? = some x) : l.drop j = x :: l.drop (j + 1) := by
  obtain ⟨hj, e⟩ := List.getElem?_eq_some_iff.mp h
  rw [List.drop_eq_getElem_cons hj, e]
section
variable {G : GnP} {A : Around} {a : Addr} {go : Obj} {gi : Nat} {R : Result → Shared → Prop}
theorem any_loop (hp : (a, go) ∈ G.Y.pn) (hgo : ∀ h : Heap, h.get? a = some go → h.IsGen a gi) (hh : A.handled = none) (hroom : A.depth < recursionLimit) (hpf : ∀ o, G.pf o = []) (hsr : ∀ j o F μ, G.SR j o F μ) {b : Bool} {stf : List O}
    (hR : ∀ s' F μ H, G.CoreE [] stf F μ H s' → R (.ok (.ret (.bool b))) s') : ∀ (n j : Nat) (s : Shared), G.Tr.1.length - j = n → G.Alive A.in1 gi j s → anyD (G.Tr.1.drop j) G.Tr.2 = .ok (.bl b) stf → codeAny (model G.Y.prog G.Y.w) A (.builtin "any.loop" ⟨[.ref a], []⟩) R s := by
  intro n
  induction n with
  | zero =>
    intro j s hn hal hd
    refine codeAny_builtin PySem.F.entry_any_loop ?_
    rw [Around.under_plainId PySem.F.plain_any_loop _]
    show wpAny _ A.in1 (pyNext (.ref a) >>= _) _ _ s
    refine wpAny_bind (gn_next (A := A.in1) hp hgo hh hroom hal (fun s' hj hend => ?_) fun v s' hout _ => ?_)
    · obtain ⟨o, F, μ, H, st, _, h1, h2, hcore⟩ := hend
      rw [hj, List.drop_length, h1] at hd
      cases hd
      rw [hpf] at hcore
      exact wpAny_bind (wpAny_rule (wpAny_pure (hR s' F μ H hcore)))
    · obtain ⟨y, x, o, F, μ, H, i, st, _, h1, _⟩ := hout
      have := (List.getElem?_eq_some_iff.mp h1).1
      omega
  | succ n ih =>
    intro j s hn hal hd
    refine codeAny_builtin PySem.F.entry_any_loop ?_
    rw [Around.under_plainId PySem.F.plain_any_loop _]
    show wpAny _ A.in1 (pyNext (.ref a) >>= _) _ _ s
    refine wpAny_bind (gn_next (A := A.in1) hp hgo hh hroom hal (fun s' hj _ => ?_) fun v s' hout hagain => ?_)
    · omega
    · have hat : G.At (j + 1) s' := by
        obtain ⟨y, x, o, F, μ, H, i, st, _, h1, h2, h3, h4, h5, h6, h7, h8⟩ := hout
        exact ⟨o, F, μ, H, i, st, hsr _ _ _ _, h5, h6, h7, h8⟩
      obtain ⟨y, x, o, F, μ, H, i, st, _, h1, h2, h3, h4, h5, h6, h7, h8⟩ := hout
      rw [drop_at h1] at hd
      rw [hpf] at h7
      cases y with
      | bl bb =>
        cases h3
        have ev : v = .bool bb := h2
        subst ev
        refine wpAny_bind (wpAny_holding (wpAny_truthy_bool (wpAny_bind (wpAny_letGo ?_))))
        cases bb with
        | true =>
          simp only [anyD] at hd
          cases hd
          simp only [if_true]
          exact wpAny_bind (wpAny_rule (wpAny_pure (hR s' F μ H h7)))
        | false =>
          simp only [anyD] at hd
          simp only [Bool.false_eq_true, if_false]
          refine wpAny_pure ⟨plainId_quiet PySem.F.plain_any_loop _, ih (j + 1) s' (by omega) (hagain ?_ s' rfl hat) hd⟩
          cases q : G.Tr.1.drop (j + 1) with
          | nil =>
            right
            intro z
            rw [q, z] at hd
            cases hd
          | cons _ _ => exact .inl (by rw [q]; simp)
      | _ => simp only [anyD] at hd; cases hd
theorem all_loop (hp : (a, go) ∈ G.Y.pn) (hgo : ∀ h : Heap, h.get? a = some go → h.IsGen a gi) (hh : A.handled = none) (hroom : A.depth < recursionLimit) (hpf : ∀ o, G.pf o = []) (hsr : ∀ j o F μ, G.SR j o F μ) {b : Bool} {stf : List O}
    (hR : ∀ s' F μ H, G.CoreE [] stf F μ H s' → R (.ok (.ret (.bool b))) s') : ∀ (n j : Nat) (s : Shared), G.Tr.1.length - j = n → G.Alive A.in1 gi j s → allD (G.Tr.1.drop j) G.Tr.2 = .ok (.bl b) stf → codeAny (model G.Y.prog G.Y.w) A (.builtin "all.loop" ⟨[.ref a], []⟩) R s := by
  intro n
  induction n with
  | zero =>
    intro j s hn hal hd
    refine codeAny_builtin PySem.F.entry_all_loop ?_
    rw [Around.under_plainId PySem.F.plain_all_loop _]
    show wpAny _ A.in1 (pyNext (.ref a) >>= _) _ _ s
    refine wpAny_bind (gn_next (A := A.in1) hp hgo hh hroom hal (fun s' hj hend => ?_) fun v s' hout _ => ?_)
    · obtain ⟨o, F, μ, H, st, _, h1, h2, hcore⟩ := hend
      rw [hj, List.drop_length, h1] at hd
      cases hd
      rw [hpf] at hcore
      exact wpAny_bind (wpAny_rule (wpAny_pure (hR s' F μ H hcore)))
    · obtain ⟨y, x, o, F, μ, H, i, st, _, h1, _⟩ := hout
      have := (List.getElem?_eq_some_iff.mp h1).1
      omega
  | succ n ih =>
    intro j s hn hal hd
    refine codeAny_builtin PySem.F.entry_all_loop ?_
    rw [Around.under_plainId PySem.F.plain_all_loop _]
    show wpAny _ A.in1 (pyNext (.ref a) >>= _) _ _ s
    refine wpAny_bind (gn_next (A := A.in1) hp hgo hh hroom hal (fun s' hj _ => ?_) fun v s' hout hagain => ?_)
    · omega
    · have hat : G.At (j + 1) s' := by
        obtain ⟨y, x, o, F, μ, H, i, st, _, h1, h2, h3, h4, h5, h6, h7, h8⟩ := hout
        exact ⟨o, F, μ, H, i, st, hsr _ _ _ _, h5, h6, h7, h8⟩
      obtain ⟨y, x, o, F, μ, H, i, st, _, h1, h2, h3, h4, h5, h6, h7, h8⟩ := hout
      rw [drop_at h1] at hd
      rw [hpf] at h7
      cases y with
      | bl bb =>
        cases h3
        have ev : v = .bool bb := h2
        subst ev
        refine wpAny_bind (wpAny_holding (wpAny_truthy_bool (wpAny_bind (wpAny_letGo ?_))))
        cases bb with
        | false =>
          simp only [allD] at hd
          cases hd
          simp only [Bool.not_false, Bool.false_eq_true, if_true, if_false]
          exact wpAny_bind (wpAny_rule (wpAny_pure (hR s' F μ H h7)))
        | true =>
          simp only [allD] at hd
          simp only [Bool.not_true, Bool.false_eq_true, if_true, if_false]
          refine wpAny_pure ⟨plainId_quiet PySem.F.plain_all_loop _, ih (j + 1) s' (by omega) (hagain ?_ s' rfl hat) hd⟩
          cases q : G.Tr.1.drop (j + 1) with
          | nil =>
            right
            intro z
            rw [q, z] at hd
            cases hd
          | cons _ _ => exact .inl (by rw [q]; simp)
      | _ => simp only [allD] at hd; cases hd
end
theorem any_bl : ∀ {l f r st}, anyD l f = .ok r st → ∃ b, r = .bl b := fun {l f r st} => by
  fun_induction anyD l f <;> first | (intro z; cases z; exact ⟨_, rfl⟩) | (intro z; cases z; done) | assumption
theorem all_bl : ∀ {l f r st}, allD l f = .ok r st → ∃ b, r = .bl b := fun {l f r st} => by
  fun_induction allD l f <;> first | (intro z; cases z; exact ⟨_, rfl⟩) | (intro z; cases z; done) | assumption
theorem tr_good {p : List (D × List O) × Option (List O)} {con : CnD} {r : D} {st : List O} (hb : con [] none = .bad) (h : con p.1 p.2 = .ok r st) : p.1.drop 0 ≠ [] ∨ p.2 ≠ none := by
  rw [List.drop_zero]
  by_cases q : p.1 = []
  · right
    intro z
    rw [q, z, hb] at h
    cases h
  · exact .inl q
section
variable {g : Gp} {X : Cx} {B : Bs} {t : GF} {c : TF} {e : EF} {k : Nat} {tg elt iter : Expr} {ifs : List Expr} {scope : Scope} {own : List (Str × Nat)} {gpos : Pos}
theorem c_any (hr : Room (k + 3) X.A) (G : GnS X.N X.env.scope scope own) (hN : X.N.Nodup) (pg : Gbk X k scope fun Y => DG g Y B (own.map fun p : Str × Nat => p.2) tg t) (pt : Gbk X k scope fun Y => DTs g Y B Z0 ifs c) (pe : Gbk X k scope fun Y => DE g Y B Z0 elt e) :
    Cons g X B anyD (.builtin "any") tg elt iter ifs scope gpos t c e (own.map fun p : Str × Nat => p.2) := by
  intro pins σ F H F1 H1 μ μ1 env st st1 stf ds a s5 r Q M rl x1 hc hQ
  obtain ⟨b, rfl⟩ := any_bl hc
  have K := M.ok2 (A := X.A.in1) (env := env) (B := B) (pf := fun _ => []) (SR := fun _ _ _ _ => True) G hr.in1.in1 pg pt pe (fun _ _ _ _ _ _ _ _ _ => trivial) (fun _ _ h => by cases h)
  have hat := M.at0 (A := X.A.in1) (t := t) (c := c) (e := e) (pf := fun _ => []) (SR := fun _ _ _ _ => True) (h6 := M.h5) (t6 := s5.toks) (o := { cls := .none, data := .plain }) G hN rfl hr.in1.hd M.inv.ok.frames rl x1 (fun _ _ h => h) (fun _ h => by cases h) trivial
  have e5 : s5.heap = M.h5 := congrArg Shared.heap M.e5
  have hat5 : (M.G X.A.in1 B env t c e (own.map fun p : Str × Nat => p.2) (fun _ => []) fun _ _ _ _ => True).At 0 s5 := by
    have q : ({ s5 with heap := M.h5, toks := s5.toks } : Shared) = s5 := by rw [← e5]
    rw [q] at hat
    exact hat
  have hal := M.alive0 K rfl hat5 (tr_good (con := anyD) rfl hc)
  refine call_function_tree PySem.F.kind_any PySem.F.plain_any PySem.F.entry_any (PySem.F.args_any1 _) ?_
  unfold Builtin.«any»
  refine wpAny_bind (m := oneArg "any" _) (wpAny_pure ?_)
  refine wpAny_bind (wpAny_pyIter_gen (M.gen _ (by rw [e5]; exact M.ago)) ?_)
  refine wpAny_pure ⟨plainId_quiet PySem.F.plain_any_loop _, any_loop (A := X.A) (List.mem_singleton.mpr rfl) M.gen hr.hd (by have := hr.dp; omega) (fun _ => rfl) (fun _ _ _ _ => trivial) (fun s' F' μ' H' hcore => ?_) _ 0 s5 rfl hal (by rw [List.drop_zero]; exact hc)⟩
  obtain ⟨I, x, k⟩ := M.back hcore
  exact ⟨.bl b, H', I, rfl, hQ F' μ' H' x k _ (.bl b)⟩
theorem c_all (hr : Room (k + 3) X.A) (G : GnS X.N X.env.scope scope own) (hN : X.N.Nodup) (pg : Gbk X k scope fun Y => DG g Y B (own.map fun p : Str × Nat => p.2) tg t) (pt : Gbk X k scope fun Y => DTs g Y B Z0 ifs c) (pe : Gbk X k scope fun Y => DE g Y B Z0 elt e) :
    Cons g X B allD (.builtin "all") tg elt iter ifs scope gpos t c e (own.map fun p : Str × Nat => p.2) := by
  intro pins σ F H F1 H1 μ μ1 env st st1 stf ds a s5 r Q M rl x1 hc hQ
  obtain ⟨b, rfl⟩ := all_bl hc
  have K := M.ok2 (A := X.A.in1) (env := env) (B := B) (pf := fun _ => []) (SR := fun _ _ _ _ => True) G hr.in1.in1 pg pt pe (fun _ _ _ _ _ _ _ _ _ => trivial) (fun _ _ h => by cases h)
  have hat := M.at0 (A := X.A.in1) (t := t) (c := c) (e := e) (pf := fun _ => []) (SR := fun _ _ _ _ => True) (h6 := M.h5) (t6 := s5.toks) (o := { cls := .none, data := .plain }) G hN rfl hr.in1.hd M.inv.ok.frames rl x1 (fun _ _ h => h) (fun _ h => by cases h) trivial
  have e5 : s5.heap = M.h5 := congrArg Shared.heap M.e5
  have hat5 : (M.G X.A.in1 B env t c e (own.map fun p : Str × Nat => p.2) (fun _ => []) fun _ _ _ _ => True).At 0 s5 := by
    have q : ({ s5 with heap := M.h5, toks := s5.toks } : Shared) = s5 := by rw [← e5]
    rw [q] at hat
    exact hat
  have hal := M.alive0 K rfl hat5 (tr_good (con := allD) rfl hc)
  refine call_function_tree PySem.F.kind_all PySem.F.plain_all PySem.F.entry_all (PySem.F.args_all1 _) ?_
  unfold Builtin.«all»
  refine wpAny_bind (m := oneArg "all" _) (wpAny_pure ?_)
  refine wpAny_bind (wpAny_pyIter_gen (M.gen _ (by rw [e5]; exact M.ago)) ?_)
  refine wpAny_pure ⟨plainId_quiet PySem.F.plain_all_loop _, all_loop (A := X.A) (List.mem_singleton.mpr rfl) M.gen hr.hd (by have := hr.dp; omega) (fun _ => rfl) (fun _ _ _ _ => trivial) (fun s' F' μ' H' hcore => ?_) _ 0 s5 rfl hal (by rw [List.drop_zero]; exact hc)⟩
  obtain ⟨I, x, k⟩ := M.back hcore
  exact ⟨.bl b, H', I, rfl, hQ F' μ' H' x k _ (.bl b)⟩
end
end DV

set_option Elab.async false
set_option linter.all false
set_option maxRecDepth 100000
set_option maxHeartbeats 2000000
namespace DV
open PySem PySem.Spec PyProof.Rows L2 GenW
/-! ### a consumer with a list of its own at S -/
/-- S is none of the generator's things -/
structure Own (Y : Cx) (S : Addr) : Prop where
  young : Y.s_0.heap.objs.size ≤ S
  cells : ∀ x c, Y.env.cells.lookup x = some c → c ≠ S
  pn : ∀ p ∈ Y.pn, p.1 ≠ S
theorem Inv.reS {X : Cx} {S : Addr} {o o' : Obj} {σ : St} {H : Hp} {s : Shared} {h' : Heap} {t' : Nat} (I : Inv X [(S, o)] σ H s) (w : Own X S) (k : ∀ b u, b ≠ S → s.heap.get? b = some u → h'.get? b = some u) (ho : h'.get? S = some o') (hd : ∀ v, o'.data ≠ .cell v) : Inv X [(S, o')] σ H { s with heap := h', toks := t' } := by
  obtain ⟨h1, h2, h3, h4, _⟩ := I.pin (S, o) (List.mem_append_right _ List.mem_cons_self)
  have I0 : Inv X [] σ H s := I.pins_of fun p hp => by cases hp
  have I1 : Inv X [] σ H { s with heap := h', toks := t' } := I0.turned k h2 h3 (.inr w.young) w.cells fun p hp => w.pn p (by simpa using hp)
  exact I1.pins_of fun p hp => by
    rw [List.mem_singleton.mp hp]
    exact ⟨ho, h2, h3, h4, hd⟩
theorem GnP.Out.put {G : GnP} {S : Addr} {j : Nat} {v : Value} {h0 : Heap} {s : Shared} (hpf : ∀ o, G.pf o = [(S, o)]) (w : Own G.Y S) (h : G.Out j v h0 s) {h' : Heap} {t' : Nat} {o' : Obj} (k : ∀ b u, b ≠ S → s.heap.get? b = some u → h'.get? b = some u) (ho : h'.get? S = some o') (hd : ∀ v, o'.data ≠ .cell v) (htn : ∀ i, G.tn i s.heap → G.tn i h')
    (hs : ∀ y st x o F μ, G.Tr.1[j]? = some (y, st) → RelV x v → Rep G.Y.K F μ x y → h0.get? S = some o → s.heap.get? S = some o → G.SR j o F μ → G.SR (j + 1) o' F μ) : G.At (j + 1) { s with heap := h', toks := t' } := by
  obtain ⟨y, x, o, F, μ, H, i, st, hh0, h1, h2, h3, h4, h5, h6, ⟨I, r⟩, h8⟩ := h
  rw [hpf] at I hh0
  refine ⟨o', F, μ, H, i, st, hs y st x o F μ h1 h2 h3 (hh0 _ List.mem_cons_self) (I.pin (S, o) (List.mem_append_right _ List.mem_cons_self)).1 h4, h5, h6, ⟨?_, r⟩, htn i h8⟩
  rw [hpf]
  exact Inv.reS I w k ho hd
theorem GnP.At.own {G : GnP} {S : Addr} {j : Nat} {s : Shared} (hpf : ∀ o, G.pf o = [(S, o)]) (h : G.At j s) : ∃ o F μ, s.heap.get? S = some o ∧ G.SR j o F μ := by
  obtain ⟨o, F, μ, H, i, st, h1, h2, h3, ⟨I, r⟩, h5⟩ := h
  rw [hpf] at I
  exact ⟨o, F, μ, (I.pin (S, o) (List.mem_append_right _ List.mem_cons_self)).1, h1⟩
theorem GnP.Out.own {G : GnP} {S : Addr} {j : Nat} {v : Value} {h0 : Heap} {s : Shared} (hpf : ∀ o, G.pf o = [(S, o)]) (h : G.Out j v h0 s) : ∃ y st x o F μ, G.Tr.1[j]? = some (y, st) ∧ RelV x v ∧ Rep G.Y.K F μ x y ∧ h0.get? S = some o ∧ s.heap.get? S = some o ∧ G.SR j o F μ := by
  obtain ⟨y, x, o, F, μ, H, i, st, hh0, h1, h2, h3, h4, h5, h6, ⟨I, r⟩, h8⟩ := h
  rw [hpf] at I hh0
  exact ⟨y, st, x, o, F, μ, h1, h2, h3, hh0 _ List.mem_cons_self, (I.pin (S, o) (List.mem_append_right _ List.mem_cons_self)).1, h4⟩
/-! ### sum -/
def inLong (i : Int) : Bool := decide (-(2 ^ 63) ≤ i) && decide (i < 2 ^ 63)
def sumD (n : Int) : CnD
  | [], some st => .ok (.int n) st
  | [], none => .bad
  | (.int i, _) :: r, f => if inLong i && inLong (n + i) then sumD (n + i) r f else .bad
  | _ :: _, _ => .bad
theorem sum_nx : ∀ n l f ce st, sumD n l f ≠ .exc ce st := fun n l f ce st => by
  fun_induction sumD n l f <;> first | (intro z; cases z; done) | assumption
theorem sum_int : ∀ {n l f r st}, sumD n l f = .ok r st → ∃ m, r = .int m := fun {n l f r st} => by
  fun_induction sumD n l f <;> first | (intro z; cases z; exact ⟨_, rfl⟩) | (intro z; cases z; done) | assumption
section
variable {G : GnP} {A : Around} {a S : Addr} {go : Obj} {gi : Nat} {R : Result → Shared → Prop}
theorem tn_keep {tg elt : Expr} {ifs : List Expr} {it : Addr} {J : It} {ws : List Nat} {σ : St} {B : Around} (K : GnOk G B tg elt ifs it J ws σ) (hpf : ∀ o, G.pf o = [(S, o)]) {i : Nat} {h h' : Heap} (t : G.tn i h) (k : ∀ b u, b ≠ S → h.get? b = some u → h'.get? b = some u) : G.tn i h' :=
  K.turn.keep _ _ _ t fun b hb o e => k b o (fun z => K.pin default (S, default) (List.mem_append_right _ (by rw [hpf]; exact List.mem_cons_self)) (by rw [← z]; exact hb)) e
theorem sum_loop {tg elt : Expr} {ifs : List Expr} {it : Addr} {J : It} {ws : List Nat} {σ : St} (K : GnOk G A.in1.in1 tg elt ifs it J ws σ) (hp : (a, go) ∈ G.Y.pn) (hgo : ∀ h : Heap, h.get? a = some go → h.IsGen a gi) (hh : A.handled = none) (hroom : A.depth < recursionLimit) (hpf : ∀ o, G.pf o = [(S, o)]) (w : Own G.Y S) {m : Int} {stf : List O}
    (hsr : ∀ j o F μ, G.SR j o F μ ↔ ∃ n tA c, o = lstObj #[.int n tA] c ∧ sumD n (G.Tr.1.drop j) G.Tr.2 = .ok (.int m) stf)
    (hR : ∀ s' F μ H o t, G.CoreE (G.pf o) stf F μ H s' → R (.ok (.ret (.int m t))) s') : ∀ (n j : Nat) (s : Shared), G.Tr.1.length - j = n → G.Alive A.in1 gi j s → codeAny (model G.Y.prog G.Y.w) A (.builtin "sum.loop" ⟨[.ref a, .ref S, rawInt 0, rawInt 0], []⟩) R s := by
  intro n
  induction n with
  | zero =>
    intro j s hn hal
    obtain ⟨o, F0, μ0, hS, h0⟩ := hal.1.own hpf
    obtain ⟨n0, tA, c0, rfl, hd⟩ := (hsr _ _ _ _).mp h0
    refine codeAny_builtin PySem.F.entry_sum_loop ?_
    rw [Around.under_plainId PySem.F.plain_sum_loop _]
    show wpAny _ A.in1 (seqItems? (.ref S) >>= _) _ _ s
    refine wpAny_bind (wpAny_seqItems hS rfl ?_)
    show wpAny _ A.in1 (tryCatch (pyNext (.ref a)) _ >>= _) _ _ s
    refine wpAny_bind (wpAny_tryCatch (gn_next (A := A.in1) hp hgo hh hroom hal (fun s' hj hend => ?_) fun v s' hout _ => ?_))
    · obtain ⟨o, F, μ, H, st, _, h1, h2, hcore⟩ := hend
      rw [hj, List.drop_length, h1] at hd
      simp only [sumD] at hd
      cases hd
      exact wpAny_pure (hR s' F μ H o tA hcore)
    · obtain ⟨y, x, o, F, μ, H, i, st, _, h1, _⟩ := hout
      have := (List.getElem?_eq_some_iff.mp h1).1
      omega
  | succ n ih =>
    intro j s hn hal
    obtain ⟨o, F0, μ0, hS, h0⟩ := hal.1.own hpf
    obtain ⟨n0, tA, c0, rfl, hd⟩ := (hsr _ _ _ _).mp h0
    refine codeAny_builtin PySem.F.entry_sum_loop ?_
    rw [Around.under_plainId PySem.F.plain_sum_loop _]
    show wpAny _ A.in1 (seqItems? (.ref S) >>= _) _ _ s
    refine wpAny_bind (wpAny_seqItems hS rfl ?_)
    show wpAny _ A.in1 (tryCatch (pyNext (.ref a)) _ >>= _) _ _ s
    refine wpAny_bind (wpAny_tryCatch (gn_next (A := A.in1) hp hgo hh hroom hal (fun s' hj _ => ?_) fun v s' hout hagain => ?_))
    · omega
    · obtain ⟨y, st, x, o', F1, μ1, h1, h2, h3, hS0, hS', h5⟩ := hout.own hpf
      rw [hS] at hS0
      cases hS0
      rw [drop_at h1] at hd
      cases y with
      | int i =>
        simp only [sumD] at hd
        split at hd
        · rename_i hfit
          cases h3
          obtain ⟨t, rfl⟩ := h2
          have hc : (inLong i && inLong (n0 + i)) = true := hfit
          show wpAny _ A.in1 (if (_ : Bool) = true then (mkInt (n0 + i) >>= _) else _) _ _ _
          split
          · refine wpAny_bind (wpAny_mkInt ?_)
            show wpAny _ A.in1 (updateSeq S (fun _ => #[.int (n0 + i) s'.toks]) >>= _) _ _ _
            refine wpAny_bind ?_
            have hS2 := Heap.get?_update_self (Obj.mapSeq fun _ => #[.int (n0 + i) s'.toks]) hS' rfl
            have hat := hout.put (t' := s'.toks + 1) hpf w (fun b u nb e => (Heap.get?_update_other (s'.heap) (Obj.mapSeq fun _ => #[.int (n0 + i) s'.toks]) (Ne.symm nb)).trans e) hS2 (fun v z => nomatch z) (fun i t => tn_keep K hpf t fun b u nb e => (Heap.get?_update_other _ _ (Ne.symm nb)).trans e)
              fun y2 st2 x2 o2 F2 μ2 q1 q2 q3 q4 q5 q6 => (hsr _ _ _ _).mpr ⟨n0 + i, s'.toks, _, rfl, hd⟩
            refine wpAny_updateSeq hS' rfl (wpAny_pure ⟨plainId_quiet PySem.F.plain_sum_loop _, ih (j + 1) _ (by omega) (hagain ?_ _ rfl hat)⟩)
            cases q : G.Tr.1.drop (j + 1) with
            | nil =>
              right
              intro z
              rw [q, z] at hd
              simp only [sumD] at hd
              cases hd
            | cons _ _ => exact .inl (by rw [q]; simp)
          · rename_i hneg
            exact absurd hc hneg
        · cases hd
      | _ => simp only [sumD] at hd; cases hd
end
section
variable {g : Gp} {X : Cx} {B : Bs} {t : GF} {c : TF} {e : EF} {k : Nat} {tg elt iter : Expr} {ifs : List Expr} {scope : Scope} {own : List (Str × Nat)} {gpos : Pos} {pins : List (Addr × Obj)} {σ : St} {F H F1 H1 : Hp} {μ μ1 : List Addr} {env : List Sl} {st st1 : List O} {ds : List D} {a : Addr} {s5 : Shared}
theorem Made.s3le (M : Made g X pins σ F1 μ1 H1 st1 ds tg elt iter ifs scope gpos a s5) : M.s3.heap.objs.size ≤ M.h5.objs.size := by
  rw [M.as]
  exact Nat.le_succ_of_le (Nat.le_of_lt M.aC)
theorem Made.ownS (M : Made g X pins σ F1 μ1 H1 st1 ds tg elt iter ifs scope gpos a s5) {A : Around} {ws : List Nat} {pf : Obj → List (Addr × Obj)} {SR : Nat → Obj → Hp → List Addr → Prop} {S : Addr} (hS : M.h5.objs.size ≤ S) : Own (M.G A B env t c e ws pf SR).Y S where
  young := Nat.le_trans M.s3le hS
  cells := fun x cc hc z => by
    rcases cloFrom_mem (PySem.mem_of_lookup (show (cloFrom X.env.cells scope.names []).lookup x = some cc from hc)) with hm | ⟨_, h2⟩
    · cases hm
    · rw [z] at h2
      cases q : X.env.cells.lookup x with
      | none =>
        rw [q] at h2
        have h2 : S = 0 := h2
        have := Nat.le_trans M.s3le hS
        have l := M.inv.lt
        rw [h2] at this
        exact absurd (Nat.lt_of_lt_of_le l this) (Nat.not_lt_zero _)
      | some c0 =>
        rw [q] at h2
        have h2 : S = c0 := h2
        obtain ⟨_, z⟩ := M.inv.cell x c0 q
        have := z.lt
        rw [← h2] at this
        exact absurd (Nat.lt_of_lt_of_le this (Nat.le_trans M.s3le hS)) (Nat.lt_irrefl _)
  pn := fun p hp z => by
    have hp : p ∈ [(a, M.go)] := hp
    rw [List.mem_singleton.mp hp] at z
    have z : a = S := z
    rw [← z, M.as] at hS
    exact absurd hS (Nat.not_succ_le_self a)
/-- the consumer's list has been laid at S -/
theorem Made.begin (M : Made g X pins σ F1 μ1 H1 st1 ds tg elt iter ifs scope gpos a s5) (hr : Room (k + 3) X.A) (G : GnS X.N X.env.scope scope own) (hN : X.N.Nodup) (pg : Gbk X k scope fun Y => DG g Y B (own.map fun p : Str × Nat => p.2) tg t) (pt : Gbk X k scope fun Y => DTs g Y B Z0 ifs c) (pe : Gbk X k scope fun Y => DE g Y B Z0 elt e)
    {A : Around} (hA : Room (k + 1) A.in1) (hfr : A.frames = some X.stack) (rl : Rl X.K g B F μ H env st σ) (x1 : Go F μ H F1 μ1 H1) {S : Addr} {o : Obj} {h6 : Heap} {t6 : Nat} {SR : Nat → Obj → Hp → List Addr → Prop} (mono : ∀ j o F μ F' μ', SR j o F μ → RdSub F F' → Pre μ μ' → SR j o F' μ')
    (hS : M.h5.objs.size ≤ S) (k6 : ∀ b ob, M.h5.get? b = some ob → h6.get? b = some ob) (ho : h6.get? S = some o) (hd : ∀ v, o.data ≠ .cell v) (hsr : SR 0 o F1 μ1) (hgood : (traceD t c e ds (wipeE env (own.map fun p : Str × Nat => p.2)) st1).1.drop 0 ≠ [] ∨ (traceD t c e ds (wipeE env (own.map fun p : Str × Nat => p.2)) st1).2 ≠ none) :
    GnOk (M.G A B env t c e (own.map fun p : Str × Nat => p.2) (fun o => [(S, o)]) SR) A.in1 tg elt ifs M.it M.J (own.map fun p : Str × Nat => p.2) σ ∧
      (M.G A B env t c e (own.map fun p : Str × Nat => p.2) (fun o => [(S, o)]) SR).Alive A M.s3.gens.size 0 { s5 with heap := h6, toks := t6 } := by
  have K := M.ok2 (A := A) (env := env) (B := B) (pf := fun o => [(S, o)]) (SR := SR) G hA pg pt pe mono (fun o p hp => by rw [List.mem_singleton.mp hp]; exact Nat.le_trans M.s3le hS)
  refine ⟨K, M.alive0 K rfl (M.at0 (A := A) (t := t) (c := c) (e := e) (o := o) (t6 := t6) (pf := fun o => [(S, o)]) G hN rfl hA.hd hfr rl x1 k6 (fun p hp => ?_) hsr) hgood⟩
  rw [List.mem_singleton.mp hp]
  exact ⟨ho, hS, hd⟩
theorem c_gsum (hr : Room (k + 3) X.A) (G : GnS X.N X.env.scope scope own) (hN : X.N.Nodup) (pg : Gbk X k scope fun Y => DG g Y B (own.map fun p : Str × Nat => p.2) tg t) (pt : Gbk X k scope fun Y => DTs g Y B Z0 ifs c) (pe : Gbk X k scope fun Y => DE g Y B Z0 elt e) :
    Cons g X B (sumD 0) (.builtin "sum") tg elt iter ifs scope gpos t c e (own.map fun p : Str × Nat => p.2) := by
  intro pins σ F H F1 H1 μ μ1 env st st1 stf ds a s5 r Q M rl x1 hc hQ
  obtain ⟨m, rfl⟩ := sum_int hc
  have e5 : s5.heap = M.h5 := congrArg Shared.heap M.e5
  refine call_function_tree PySem.F.kind_sum PySem.F.plain_sum PySem.F.entry_sum (PySem.F.args_sum1 _) ?_
  unfold Builtin.«sum»
  simp only [List.length_cons, List.length_nil]
  rw [if_neg (by decide)]
  refine wpAny_bind (wpAny_of_eq (show Builtin.Builtins.bindParams "sum" ["start"] 0 { } = pure [none] from rfl) ?_)
  refine wpAny_bind (wpAny_pyIter_gen (M.gen _ (by rw [e5]; exact M.ago)) ?_)
  refine wpAny_bind (wpAny_mkInt ?_)
  refine wpAny_bind (wpAny_pure ?_)
  simp only [List.forIn_cons, List.forIn_nil]
  refine wpAny_bind (wpAny_bind (wpAny_bind (wpAny_isInstance (T := "int") (b := false) (typeIs_int _ _ _) PySem.sub_int_str ?_)))
  simp only [Bool.false_eq_true, if_false]
  refine wpAny_pure (wpAny_bind (wpAny_bind (wpAny_isInstance (T := "int") (b := false) (typeIs_int _ _ _) sub_int_bytes ?_)))
  simp only [Bool.false_eq_true, if_false]
  refine wpAny_pure (wpAny_bind (wpAny_bind (wpAny_isInstance (T := "int") (b := false) (typeIs_int _ _ _) sub_int_bytearray ?_)))
  simp only [Bool.false_eq_true, if_false]
  refine wpAny_pure (wpAny_pure ?_)
  refine wpAny_bind (wpAny_newObj_type ?_)
  have bg := M.begin (A := X.A.in1) (t6 := s5.toks + 1) (h6 := s5.heap.push { cls := .type "list", data := .seq #[.int 0 s5.toks] }) (SR := fun j o _ _ => ∃ n tA c2, o = lstObj #[.int n tA] c2 ∧ sumD n ((traceD t c e ds (wipeE env (own.map fun p : Str × Nat => p.2)) st1).1.drop j) (traceD t c e ds (wipeE env (own.map fun p : Str × Nat => p.2)) st1).2 = .ok (.int m) stf)
    hr G hN pg pt pe hr.in1.in1 M.inv.ok.frames rl x1 (fun _ _ _ _ _ _ h _ _ => h) (S := s5.heap.objs.size) (Nat.le_of_eq (by rw [e5])) (fun b ob h => Heap.get?_push_of_some _ (by rw [e5]; exact h)) (Heap.get?_push_size _ rfl) (fun v z => nomatch z) ⟨0, s5.toks, _, rfl, hc⟩ (tr_good (con := sumD 0) rfl hc)
  refine wpAny_pure ⟨plainId_quiet PySem.F.plain_sum_loop _, sum_loop (A := X.A) bg.1 (List.mem_singleton.mpr rfl) M.gen hr.hd (by have := hr.dp; omega) (fun _ => rfl) (M.ownS (by rw [e5]; exact Nat.le_refl _)) (fun _ _ _ _ => Iff.rfl) (fun s' F' μ' H' o t hcore => ?_) _ 0 _ rfl bg.2⟩
  obtain ⟨I, x, k⟩ := M.back hcore
  exact ⟨.int m, H', I, ⟨t, rfl⟩, hQ F' μ' H' x k _ (.int m)⟩
end
end DV

set_option Elab.async false
set_option linter.all false
set_option maxRecDepth 100000
set_option maxHeartbeats 2000000
namespace DV
open PySem PySem.Spec PyProof.Rows L2 GenW
/-! ### all items, collected -/
def ColR (K : PySem.W.Frag) (Tr : List (D × List O)) : Nat → Obj → Hp → List Addr → Prop := fun j o F μ => ∃ acc c xs, o = lstObj acc c ∧ Vals xs acc.toList ∧ Reps K F μ xs ((Tr.take j).map Prod.fst)
theorem colR_mono {K : PySem.W.Frag} {Tr : List (D × List O)} : ∀ j o F μ F' μ', ColR K Tr j o F μ → RdSub F F' → Pre μ μ' → ColR K Tr j o F' μ' := fun j o F μ F' μ' ⟨acc, c, xs, h1, h2, h3⟩ s p => ⟨acc, c, xs, h1, h2, h3.mono s p⟩
theorem take_at {α : Type} {l : List α} {j : Nat} {x : α} (h : l[j]? = some x) : l.take (j + 1) = l.take j ++ [x] := by
  obtain ⟨hj, e⟩ := List.getElem?_eq_some_iff.mp h
  rw [List.take_succ, h]
  rfl
section
variable {G : GnP} {A : Around} {a S : Addr} {go : Obj} {gi : Nat} {R : Result → Shared → Prop}
theorem ext_loop {tg elt : Expr} {ifs : List Expr} {it : Addr} {J : It} {ws : List Nat} {σ : St} (K : GnOk G A.in1.in1 tg elt ifs it J ws σ) (hp : (a, go) ∈ G.Y.pn) (hgo : ∀ h : Heap, h.get? a = some go → h.IsGen a gi) (hh : A.handled = none) (hroom : A.depth < recursionLimit) (hpf : ∀ o, G.pf o = [(S, o)]) (w : Own G.Y S) {res : Value} {stf : List O}
    (hsr : G.SR = ColR G.Y.K G.Tr.1) (hf : G.Tr.2 = some stf) (hsz : G.Tr.1.length ≤ 100000)
    (hR : ∀ s' F μ H acc c xs, G.CoreE [(S, lstObj acc c)] stf F μ H s' → s'.heap.get? S = some (lstObj acc c) → Vals xs acc.toList → Reps G.Y.K F μ xs (G.Tr.1.map Prod.fst) → R (.ok (.ret res)) s') : ∀ (n j : Nat) (s : Shared), G.Tr.1.length - j = n → G.Alive A.in1 gi j s → codeAny (model G.Y.prog G.Y.w) A (.builtin "list.extend.loop" ⟨[.ref S, .ref a, res], []⟩) R s := by
  intro n
  induction n with
  | zero =>
    intro j s hn hal
    refine codeAny_builtin PySem.F.entry_extend_loop ?_
    rw [Around.under_plainId PySem.F.plain_extend_loop _]
    show wpAny _ A.in1 (pyNext (.ref a) >>= _) _ _ s
    refine wpAny_bind (gn_next (A := A.in1) hp hgo hh hroom hal (fun s' hj hend => ?_) fun v s' hout _ => ?_)
    · obtain ⟨o, F, μ, H, st, _, h1, h2, hcore⟩ := hend
      rw [hf] at h1
      cases h1
      rw [hsr] at h2
      obtain ⟨acc, c, xs, rfl, q1, q2⟩ := h2
      rw [List.take_length] at q2
      rw [hpf] at hcore
      exact wpAny_pure (hR s' F μ H acc c xs hcore (hcore.1.pin _ (List.mem_append_right _ List.mem_cons_self)).1 q1 q2)
    · obtain ⟨y, x, o, F, μ, H, i, st, _, h1, _⟩ := hout
      have := (List.getElem?_eq_some_iff.mp h1).1
      omega
  | succ n ih =>
    intro j s hn hal
    refine codeAny_builtin PySem.F.entry_extend_loop ?_
    rw [Around.under_plainId PySem.F.plain_extend_loop _]
    show wpAny _ A.in1 (pyNext (.ref a) >>= _) _ _ s
    refine wpAny_bind (gn_next (A := A.in1) hp hgo hh hroom hal (fun s' hj _ => ?_) fun v s' hout hagain => ?_)
    · omega
    · obtain ⟨y, st, x, o', F1, μ1, h1, h2, h3, hS0, hS', h5⟩ := hout.own hpf
      rw [hsr] at h5
      obtain ⟨acc, c, xs, rfl, q1, q2⟩ := h5
      have hasz : acc.size = j := by
        have e1 := q1.length
        have e2 := q2.length
        have hj := (List.getElem?_eq_some_iff.mp h1).1
        rw [List.length_map, List.length_take] at e2
        simp only [Array.length_toList] at e1
        omega
      have hjl := (List.getElem?_eq_some_iff.mp h1).1
      have big : (100000 : Nat) < sizeLine := by decide
      show wpAny _ A.in1 (updateSeq S (·.push v) >>= _) _ _ _
      refine wpAny_bind ?_
      have hS2 := Heap.get?_update_self (Obj.mapSeq (·.push v)) hS' rfl
      have hat := hout.put (t' := s'.toks) hpf w (fun b u nb e => (Heap.get?_update_other (s'.heap) (Obj.mapSeq (·.push v)) (Ne.symm nb)).trans e) hS2 (fun v z => nomatch z) (fun i t => tn_keep K hpf t fun b u nb e => (Heap.get?_update_other _ _ (Ne.symm nb)).trans e)
        fun y2 st2 x2 o2 F2 μ2 w1 w2 w3 w4 w5 w6 => by
          rw [hsr] at w6 ⊢
          rw [hS'] at w5
          cases w5
          obtain ⟨acc', c', xs', e1, z1, z2⟩ := w6
          cases e1
          refine ⟨acc.push v, _, xs' ++ [x2], rfl, by rw [Array.toList_push]; exact z1.append (.cons w2 .nil), ?_⟩
          rw [take_at w1, List.map_append]
          exact z2.append (.one w3)
      refine wpAny_updateSeq hS' rfl (wpAny_pure ⟨plainId_quiet PySem.F.plain_extend_loop _, ih (j + 1) _ (by omega) (hagain (.inr (by rw [hf]; simp)) _ rfl hat)⟩) (by rw [hasz]; omega) (by show (acc.push v).size ≤ sizeLine + 1; rw [Array.size_push, hasz]; omega)
end
section
variable {g : Gp} {X : Cx} {B : Bs} {t : GF} {c : TF} {e : EF} {k : Nat} {tg elt iter : Expr} {ifs : List Expr} {scope : Scope} {own : List (Str × Nat)} {gpos : Pos} {pins : List (Addr × Obj)} {σ : St} {F H F1 H1 : Hp} {μ μ1 : List Addr} {env : List Sl} {st st1 stf : List O} {ds : List D} {a : Addr} {s5 : Shared}
/-- collect(g): all items -/
theorem collect_gn (M : Made g X pins σ F1 μ1 H1 st1 ds tg elt iter ifs scope gpos a s5) (hr : Room (k + 3) X.A) (G : GnS X.N X.env.scope scope own) (hN : X.N.Nodup) (pg : Gbk X k scope fun Y => DG g Y B (own.map fun p : Str × Nat => p.2) tg t) (pt : Gbk X k scope fun Y => DTs g Y B Z0 ifs c) (pe : Gbk X k scope fun Y => DE g Y B Z0 elt e)
    {A : Around} (hA : Room (k + 1) A.in1.in1) (hfr : A.frames = some X.stack) (rl : Rl X.K g B F μ H env st σ) (x1 : Go F μ H F1 μ1 H1) {Q : List Value → Shared → Prop} {E : Value → Shared → Prop}
    (hf : (traceD t c e ds (wipeE env (own.map fun p : Str × Nat => p.2)) st1).2 = some stf) (hsz : (traceD t c e ds (wipeE env (own.map fun p : Str × Nat => p.2)) st1).1.length ≤ 100000)
    (hQ : ∀ s' F' μ' H' us xs, Inv X pins σ H' s' → Go F1 μ1 H1 F' μ' H' → Ok X.K g F' μ' H' stf → Vals xs us → Reps X.K F' μ' xs ((traceD t c e ds (wipeE env (own.map fun p : Str × Nat => p.2)) st1).1.map Prod.fst) → Q us s') : wpAny (model X.prog X.w) A (collect (.ref a)) Q E s5 := by
  have e5 : s5.heap = M.h5 := congrArg Shared.heap M.e5
  have hgen : s5.heap.IsGen a M.s3.gens.size := M.gen _ (by rw [e5]; exact M.ago)
  have hal : a < s5.heap.objs.size := by rw [e5, M.as]; exact Nat.lt_succ_self a
  have hSI : s5.heap.objs.size ≠ a := Nat.ne_of_gt hal
  unfold collect
  refine wpAny_bind (wpAny_runValue (codeAny_builtin PySem.F.entry_proto_collect ?_))
  rw [Around.under_plainId PySem.F.plain_proto_collect _]
  show wpAny _ A.in1 (newList [] >>= fun l => again (.builtin "list.__iadd__" ⟨[l, .ref a], []⟩)) _ _ s5
  refine wpAny_bind (wpAny_newObj_type ?_)
  refine wpAny_pure ⟨plainId_quiet PySem.F.plain_list_iadd _, codeAny_builtin PySem.F.entry_list_iadd ?_⟩
  rw [Around.under_plainId PySem.F.plain_list_iadd _]
  have hgen1 : (s5.heap.push { cls := .type "list", data := .seq ([] : List Value).toArray }).IsGen a M.s3.gens.size := by
    obtain ⟨o, nm, qn, ho, r⟩ := hgen
    exact ⟨o, nm, qn, Heap.get?_push_of_some _ ho, r⟩
  have hT : ({ s5 with heap := s5.heap.push { cls := .type "list", data := .seq ([] : List Value).toArray } } : Shared).TypeIs (.ref a) "generator" := hgen1.typeIs
  show wpAny _ A.in1 (Builtin.List.listExtendWith (.ref s5.heap.objs.size) (.ref a) (.ref s5.heap.objs.size)) _ _ _
  unfold Builtin.List.listExtendWith
  refine wpAny_bind (wpAny_typeOf hT ?_)
  have h1 : Builtin.List.listSameRef (.ref s5.heap.objs.size) (.ref a) = false := by simp [Builtin.List.listSameRef, hSI]
  have h2 : (Value.type "generator" == Value.type "list") = false := by decide
  have h3 : (Value.type "generator" == Value.type "tuple") = false := by decide
  simp only [h1, h2, h3, Bool.or_false, Bool.false_eq_true, if_false]
  refine wpAny_bind (wpAny_pyIter_gen hgen1 ?_)
  refine wpAny_bind (wpAny_holding ?_)
  unfold Builtin.List.listLengthHint
  refine wpAny_bind (wpAny_specialOf hT PySem.F.gen_no_len ?_)
  show wpAny _ A.in1 (specialOf (Value.ref a) (Str.ofString "__length_hint__") >>= _) _ _ _
  refine wpAny_bind (wpAny_specialOf hT PySem.F.gen_no_hint ?_)
  refine wpAny_pure ?_
  show wpAny _ A.in1 (rule "list.extend.makes-room" >>= fun _ => Builtin.List.listTouch (.ref s5.heap.objs.size) >>= fun _ =>
    again (.builtin "list.extend.loop" ⟨[.ref s5.heap.objs.size, .ref a, .ref s5.heap.objs.size], []⟩)) _ _ _
  refine wpAny_bind (wpAny_rule ?_)
  have hS₁ : (s5.heap.push { cls := .type "list", data := .seq ([] : List Value).toArray }).get? s5.heap.objs.size = some { cls := .type "list", data := .seq ([] : List Value).toArray } := Heap.get?_push_size _ rfl
  refine wpAny_bind ?_
  show wpAny _ A.in1 (updateSeq s5.heap.objs.size (·.push .none) >>= fun _ => updateSeq s5.heap.objs.size (·.pop)) _ _ _
  refine wpAny_bind (wpAny_updateSeq hS₁ rfl ?_)
  have hS₂ := Heap.get?_update_self (Obj.mapSeq (·.push Value.none)) hS₁ rfl
  refine wpAny_updateSeq hS₂ rfl ?_
  have hS₃ := Heap.get?_update_self (Obj.mapSeq (·.pop)) hS₂ rfl
  have oth : ∀ b o, b ≠ s5.heap.objs.size → s5.heap.get? b = some o →
      (((s5.heap.push { cls := .type "list", data := .seq ([] : List Value).toArray }).update s5.heap.objs.size (Obj.mapSeq (·.push Value.none))).update s5.heap.objs.size (Obj.mapSeq (·.pop))).get? b = some o :=
    fun b o hb e => (Heap.get?_update_other _ _ (Ne.symm hb)).trans ((Heap.get?_update_other _ _ (Ne.symm hb)).trans (Heap.get?_push_of_some _ e))
  have bg := M.begin (A := A.in1) (t6 := s5.toks) (h6 := ((s5.heap.push { cls := .type "list", data := .seq ([] : List Value).toArray }).update s5.heap.objs.size (Obj.mapSeq (·.push Value.none))).update s5.heap.objs.size (Obj.mapSeq (·.pop)))
    (SR := ColR X.K (traceD t c e ds (wipeE env (own.map fun p : Str × Nat => p.2)) st1).1) hr G hN pg pt pe hA hfr rl x1 colR_mono (S := s5.heap.objs.size) (Nat.le_of_eq (by rw [e5])) (fun b ob h => oth b ob (fun z => by
      rw [z, e5] at h
      exact absurd (Heap.lt_size h) (Nat.lt_irrefl _)) (by rw [e5]; exact h)) hS₃ (fun v z => nomatch z) ⟨#[], _, [], rfl, .nil, .nil⟩ (.inr (by rw [hf]; simp))
  refine wpAny_pure ⟨plainId_quiet PySem.F.plain_extend_loop _, ext_loop (A := A) bg.1 (List.mem_singleton.mpr rfl) M.gen hA.hd (by have := hA.dp; exact Nat.lt_of_le_of_lt (Nat.le_trans (Nat.le_add_right _ _) (Nat.le_add_right _ _)) this) (fun _ => rfl) (M.ownS (by rw [e5]; exact Nat.le_refl _)) rfl hf hsz (fun s' F' μ' H' acc c' xs hcore hS' hv hreps => ?_) _ 0 _ rfl bg.2⟩
  show wpAny _ A (load s5.heap.objs.size >>= _) _ _ s'
  refine wpAny_bind (wpAny_load hS' ?_)
  obtain ⟨I, x, kk⟩ := M.back hcore
  exact wpAny_pure (hQ s' F' μ' H' acc.toList xs I x kk hv hreps)
/-! ### tuple(..) -/
def tupD : CnD := fun l f => match f with
  | some st => if l.length ≤ 100000 then .ok (.tup (l.map Prod.fst)) st else .bad
  | none => .bad
theorem tup_nx : ∀ l f ce st, tupD l f ≠ .exc ce st := fun l f ce st z => by
  unfold tupD at z
  split at z
  · split at z <;> cases z
  · cases z
theorem c_gtup (hr : Room (k + 6) X.A) (G : GnS X.N X.env.scope scope own) (hN : X.N.Nodup) (pg : Gbk X k scope fun Y => DG g Y B (own.map fun p : Str × Nat => p.2) tg t) (pt : Gbk X k scope fun Y => DTs g Y B Z0 ifs c) (pe : Gbk X k scope fun Y => DE g Y B Z0 elt e) :
    Cons g X B tupD (.type "tuple") tg elt iter ifs scope gpos t c e (own.map fun p : Str × Nat => p.2) := by
  intro pins σ F H F1 H1 μ μ1 env st st1 stf ds a s5 r Q M rl x1 hc hQ
  unfold tupD at hc
  split at hc
  · rename_i st2 hf
    split at hc
    · rename_i hsz
      cases hc
      have e5 : s5.heap = M.h5 := congrArg Shared.heap M.e5
      have hgen : s5.heap.IsGen a M.s3.gens.size := M.gen _ (by rw [e5]; exact M.ago)
      refine callType_codes (Q₁ := fun obj s₁ => s₁.TypeIs obj "tuple" ∧ EP X pins σ Q obj s₁) PySem.F.called_tuple (PySem.F.typeCall_tuple_1 _) PySem.F.entry_object_init ?_ fun obj s₁ h₁ => ?_
      · refine codeAny_of_tree ?_
        show wpAny _ X.A.in1.in1 (do checkBuiltinCall "tuple.__new__" ⟨[.type "tuple", .ref a], []⟩; again (.builtin "tuple.__new__" ⟨[.type "tuple", .ref a], []⟩)) _ _ s5
        refine wpAny_bind (wpAny_of_eq (PySem.F.newCall_tuple_1 _) (wpAny_pure ⟨plainId_quiet PySem.F.plain_tuple_new _, codeAny_builtin PySem.F.entry_tuple_new ?_⟩))
        rw [Around.under_plainId PySem.F.plain_tuple_new _]
        have hsub := sub_tuple_self
        have hinit := init_tuple_lookup
        have hmh := madeHere_tuple
        have hTI : s5.TypeIs (.ref a) "generator" := hgen.typeIs
        have col : ∀ {E : Value → Shared → Prop} {Q' : List Value → Shared → Prop}, (∀ s' F' μ' H' us xs, Inv X pins σ H' s' → Go F1 μ1 H1 F' μ' H' → Ok X.K g F' μ' H' stf → Vals xs us → Reps X.K F' μ' xs ((traceD t c e ds (wipeE env (own.map fun p : Str × Nat => p.2)) st1).1.map Prod.fst) → Q' us s') → wpAny (model X.prog X.w) X.A.in1.in1 (collect (.ref a)) Q' E s5 :=
          fun hq => collect_gn M (hr.mono (by omega)) G hN pg pt pe (A := X.A.in1.in1) ((hr.mono (by omega : k + 5 ≤ k + 6)).in1.in1.in1.in1) M.inv.ok.frames rl x1 hf hsz hq
        wp_walk using wpAny_typeOf hTI, col
        intro s' F' μ' H' us xs I' x' k' rv rs
        have hlen : us.length ≤ 100000 := by
          have e1 := rv.length
          have e2 := rs.length
          rw [List.length_map] at e2
          omega
        show wpAny _ _ (Builtin.Tuple.tupleExact us.toArray >>= fun v => ret v) _ _ _
        unfold Builtin.Tuple.tupleExact
        refine wpAny_bind (wpAny_newObj_type ?_ (by show us.toArray.size ≤ sizeLine; rw [List.size_toArray]; exact small_sz hlen))
        refine wpAny_pure ?_
        have hp : H' s'.heap.objs.size = none := I'.hok.fresh (Nat.le_refl _)
        obtain ⟨x2, k2⟩ := k'.put (o := .tup xs) hp (fun ps z => by cases z)
        have new : ObjOk X.prog X.w (upd H' s'.heap.objs.size (.tup xs)) (s'.heap.push { cls := Value.type "tuple", data := Data.seq us.toArray }) s'.heap.objs.size (.tup xs) := by
          refine ⟨?_, us, rv, ⟨_, Heap.get?_push_size _ rfl, rfl, _, rfl⟩⟩
          show xs.length ≤ sizeLine
          rw [rv.length]
          exact small_sz hlen
        exact ⟨⟨_, Heap.get?_push_size _ rfl, rfl⟩, .ref s'.heap.objs.size, _, I'.laid (t' := s'.toks) (fun b u e => Heap.get?_push_of_some _ e) (Nat.le_refl _) new, rfl, hQ _ _ _ (x'.trans x2) k2 _ (.tup (.of upd_same) (rs.mono x2.sub x2.pre))⟩
      · exact ⟨h₁.1, PySem.F.args_object_init_2 obj _, object_init_meets PySem.F.called_tuple.init.lookup PySem.F.called_tuple.made (by decide) X.prog X.w X.A.in1 _ s₁ ⟨h₁.1, rfl, h₁.2⟩⟩
    · cases hc
  · cases hc
end
end DV

set_option Elab.async false
set_option linter.all false
set_option maxRecDepth 100000
set_option maxHeartbeats 2000000
namespace DV
open PySem PySem.Spec PyProof.Rows L2 GenW
open PySem.W (alike alikeAll dataLt rcGt_alike rcLt_alike)
/-! ### the largest, the least -/
theorem fits_mem {n : Nat} : ∀ {ds : List D} {d : D}, D.fits n ds = true → d ∈ ds → D.fit n d = true
  | x :: xs, d, h, hm => by
    rw [D.fits, Bool.and_eq_true] at h
    rcases List.mem_cons.mp hm with rfl | hm
    · exact h.1
    · exact fits_mem h.2 hm

def gmax : CnD
  | (x, _) :: r, some st => if likes (x :: r.map Prod.fst) then .ok (D.maxD x (r.map Prod.fst)) st else .bad
  | _, _ => .bad
theorem gmax_nx : ∀ l f ce st, gmax l f ≠ .exc ce st := fun l f ce st z => by
  unfold gmax at z
  split at z
  · split at z <;> cases z
  · cases z
def Rmax (K : PySem.W.Frag) (Tr : List (D × List O)) : Nat → Obj → Hp → List Addr → Prop := fun j o F μ => (j = 0 ∧ ∃ c, o = lstObj #[] c) ∨ ∃ vb c xb x xs, (Tr.take j).map Prod.fst = x :: xs ∧ o = lstObj #[vb, vb] c ∧ RelV xb vb ∧ Rep K F μ xb (D.maxD x xs)
theorem rmax_mono {K : PySem.W.Frag} {Tr : List (D × List O)} : ∀ j o F μ F' μ', Rmax K Tr j o F μ → RdSub F F' → Pre μ μ' → Rmax K Tr j o F' μ' := fun j o F μ F' μ' h s p => h.imp id fun ⟨vb, c, xb, x, xs, h1, h2, h3, h4⟩ => ⟨vb, c, xb, x, xs, h1, h2, h3, h4.mono s p⟩
theorem maxD_snoc (x y : D) (xs : List D) : D.maxD x (xs ++ [y]) = if dataLt (D.maxD x xs).py y.py then y else D.maxD x xs := by
  unfold D.maxD
  rw [List.foldl_append]
  rfl
theorem maxD_mem : ∀ (xs : List D) (x : D), D.maxD x xs ∈ x :: xs
  | [], x => List.mem_cons_self
  | y :: ys, x => by
    have e : D.maxD x (y :: ys) = D.maxD (D.maxD x [y]) ys := rfl
    rw [e]
    rcases List.mem_cons.mp (maxD_mem ys (D.maxD x [y])) with h | h
    · rw [h]
      have e2 : D.maxD x [y] = y ∨ D.maxD x [y] = x := by
        have := maxD_snoc x y []
        rw [List.nil_append] at this
        rw [this]
        split
        · exact .inl rfl
        · exact .inr rfl
      rcases e2 with e2 | e2 <;> rw [e2] <;> simp
    · exact List.mem_cons_of_mem _ (List.mem_cons_of_mem _ h)
section
variable {G : GnP} {A : Around} {a S : Addr} {go : Obj} {gi : Nat} {R : Result → Shared → Prop}
theorem max_loop {tg elt : Expr} {ifs : List Expr} {it : Addr} {J : It} {ws : List Nat} {σ : St} (K : GnOk G A.in1.in1 tg elt ifs it J ws σ) (hp : (a, go) ∈ G.Y.pn) (hgo : ∀ h : Heap, h.get? a = some go → h.IsGen a gi) (hh : A.handled = none) (hroom : A.depth < recursionLimit) (hun : A.units + 150 < cLine) (hpf : ∀ o, G.pf o = [(S, o)]) (w : Own G.Y S) {stf : List O} {x0 : D} {st0 : List O} {r0 : List (D × List O)}
    (hsr : G.SR = Rmax G.Y.K G.Tr.1) (hT : G.Tr.1 = (x0, st0) :: r0) (hf : G.Tr.2 = some stf) (hl : likes (x0 :: r0.map Prod.fst) = true)
    (hR : ∀ s' F μ H xb vb ip h2 t2, G.CoreE ip stf F μ H s' → RelV xb vb → Rep G.Y.K F μ xb (D.maxD x0 (r0.map Prod.fst)) → ip = [(S, (s'.heap.get? S).getD default)] → (∀ b u, b ≠ S → s'.heap.get? b = some u → h2.get? b = some u) → (∃ c, h2.get? S = some (lstObj #[] c)) → R (.ok (.ret vb)) { s' with heap := h2, toks := t2 }) : ∀ (n j : Nat) (s : Shared), G.Tr.1.length - j = n → G.Alive A.in1 gi j s → codeAny (model G.Y.prog G.Y.w) A (.builtin "max.loop" ⟨[.ref a, .none, .ref S], []⟩) R s := by
  have hname : (toString "max" ++ toString ".loop" : String) = "max.loop" := by decide
  have all : G.Tr.1.map Prod.fst = x0 :: r0.map Prod.fst := by rw [hT]; rfl
  have lk := likes_all hl
  have lf := likes_fits hl
  intro n
  induction n with
  | zero =>
    intro j s hn hal
    obtain ⟨o, F0, μ0, hS, h0⟩ := hal.1.own hpf
    have hjl : j = G.Tr.1.length := by have := hal.2.2.1; omega
    rw [hsr] at h0
    rcases h0 with ⟨z, _⟩ | ⟨vb, c, xb, x, xs, h1, rfl, h3, h4⟩
    · rw [z, hT] at hjl; cases hjl
    refine codeAny_builtin PySem.F.entry_max_loop ?_
    rw [Around.under_plainId PySem.F.plain_max_loop _]
    show wpAny _ A.in1 (seqItems? (.ref S) >>= _) _ _ s
    refine wpAny_bind (wpAny_seqItems hS rfl ?_)
    show wpAny _ A.in1 (tryCatch (pyNext (.ref a)) _ >>= _) _ _ s
    refine wpAny_bind (wpAny_tryCatch (gn_next (A := A.in1) hp hgo hh hroom hal (fun s' hj hend => ?_) fun v s' hout _ => ?_))
    · obtain ⟨o, F, μ, H, st, w0, w1, w2, hcore⟩ := hend
      rw [hf] at w1
      cases w1
      rw [hpf] at w0
      have eo := w0 _ List.mem_cons_self
      rw [hS] at eo
      cases eo
      rw [hsr] at w2
      rcases w2 with ⟨z, _⟩ | ⟨vb', c', xb', x', xs', q1, q2, q3, q4⟩
      · rw [hT] at z; cases z
      cases q2
      rw [List.take_length, all] at q1
      cases q1
      rw [hpf] at hcore
      have hS' := (hcore.1.pin _ (List.mem_append_right _ List.mem_cons_self)).1
      show wpAny _ A.in1 (updateSeq S (fun _ => #[]) >>= _) _ _ _
      refine wpAny_bind ?_
      refine wpAny_updateSeq hS' rfl (wpAny_bind (wpAny_letGo (wpAny_pure ?_)))
      exact hR s' F μ H xb' vb _ _ s'.toks hcore q3 q4 (by rw [hS']; rfl) (fun b u nb e => (Heap.get?_update_other _ _ (Ne.symm nb)).trans e) ⟨_, Heap.get?_update_self _ hS' rfl⟩
    · obtain ⟨y, x, o, F, μ, H, i, st, _, h1, _⟩ := hout
      have := (List.getElem?_eq_some_iff.mp h1).1
      omega
  | succ n ih =>
    intro j s hn hal
    obtain ⟨o, F0, μ0, hS, h0⟩ := hal.1.own hpf
    have good : G.Good (j + 1) := .inr (by rw [hf]; simp)
    have at0 : ∀ {s' : Shared} {v : Value}, G.Out j v s.heap s' → True := fun _ => trivial
    rw [hsr] at h0
    rcases h0 with ⟨z, c, rfl⟩ | ⟨vb, c, xb, x, xs, h1, rfl, h3, h4⟩
    · subst z
      refine codeAny_builtin PySem.F.entry_max_loop ?_
      rw [Around.under_plainId PySem.F.plain_max_loop _]
      show wpAny _ A.in1 (seqItems? (.ref S) >>= _) _ _ s
      refine wpAny_bind (wpAny_seqItems hS rfl ?_)
      show wpAny _ A.in1 (tryCatch (pyNext (.ref a)) _ >>= _) _ _ s
      refine wpAny_bind (wpAny_tryCatch (gn_next (A := A.in1) hp hgo hh hroom hal (fun s' hj _ => ?_) fun v s' hout hagain => ?_))
      · omega
      · obtain ⟨y, st, x, o', F1, μ1, q1, q2, q3, hS0, hS', q5⟩ := hout.own hpf
        rw [hS] at hS0
        cases hS0
        show wpAny _ A.in1 (updateSeq S (fun _ => #[v, v]) >>= _) _ _ _
        refine wpAny_bind ?_
        have hS2 := Heap.get?_update_self (Obj.mapSeq fun _ => #[v, v]) hS' rfl
        have hat := hout.put (t' := s'.toks) hpf w (fun b u nb e => (Heap.get?_update_other (s'.heap) (Obj.mapSeq fun _ => #[v, v]) (Ne.symm nb)).trans e) hS2 (fun v z => nomatch z) (fun i t => tn_keep K hpf t fun b u nb e => (Heap.get?_update_other _ _ (Ne.symm nb)).trans e)
          fun y2 st2 x2 o2 F2 μ2 w1 w2 w3 w4 w5 w6 => by
            rw [hsr]
            exact .inr ⟨v, _, x2, y2, [], by rw [take_at w1]; rfl, rfl, w2, w3⟩
        refine wpAny_updateSeq hS' rfl ?_
        rw [hname]
        exact wpAny_pure ⟨plainId_quiet PySem.F.plain_max_loop _, ih 1 _ (by omega) (hagain good _ rfl hat)⟩
    · refine codeAny_builtin PySem.F.entry_max_loop ?_
      rw [Around.under_plainId PySem.F.plain_max_loop _]
      show wpAny _ A.in1 (seqItems? (.ref S) >>= _) _ _ s
      refine wpAny_bind (wpAny_seqItems hS rfl ?_)
      show wpAny _ A.in1 (tryCatch (pyNext (.ref a)) _ >>= _) _ _ s
      refine wpAny_bind (wpAny_tryCatch (gn_next (A := A.in1) hp hgo hh hroom hal (fun s' hj _ => ?_) fun v s' hout hagain => ?_))
      · omega
      · have hout2 := hout
        obtain ⟨y, xv, o', F1, μ1, H1, i1, st1, w0, q1, q2, q3, q4, q5, q6, ⟨I, rl, _⟩, q8⟩ := hout
        rw [hpf] at w0 I
        have eo := w0 _ List.mem_cons_self
        rw [hS] at eo
        cases eo
        have hS' := (I.pin _ (List.mem_append_right _ List.mem_cons_self)).1
        rw [hsr] at q4
        rcases q4 with ⟨z, c', z2⟩ | ⟨vb', c', xb', x', xs', z1, z2, z3, z4⟩
        · cases z2
        cases z2
        rw [h1] at z1
        cases z1
        -- the two compared
        have my : y ∈ x0 :: r0.map Prod.fst := by rw [← all]; exact List.mem_map.mpr ⟨_, List.mem_of_getElem? q1, rfl⟩
        have mb : D.maxD x xs ∈ x0 :: r0.map Prod.fst := by
          have z := maxD_mem xs x
          rw [← h1] at z
          rw [← all]
          obtain ⟨p, hp, e⟩ := List.mem_map.mp z
          exact List.mem_map.mpr ⟨p, List.mem_of_mem_take hp, e⟩
        have fy : D.fit 50 y = true := fits_mem lf my
        have fb : D.fit 50 (D.maxD x xs) = true := fits_mem lf mb
        obtain ⟨as1, rd1⟩ := Dp.reads I _ xv v (q3.dp rl.ok.sub 50 fy) q2
        obtain ⟨as2, rd2⟩ := Dp.reads I _ xb' vb (z4.dp rl.ok.sub 50 fb) z3
        have py : y.py ∈ D.pys (x0 :: r0.map Prod.fst) := by rw [D.pys_map]; exact List.mem_map.mpr ⟨_, my, rfl⟩
        have pb : (D.maxD x xs).py ∈ D.pys (x0 :: r0.map Prod.fst) := by rw [D.pys_map]; exact List.mem_map.mpr ⟨_, mb, rfl⟩
        have hd : y.py.depth ≤ 50 := (D.fit_py 50 y fy).2
        show wpAny _ A.in1 (tryCatch (holding [v, v] (richCompare .Gt v vb >>= _)) _ >>= _) _ _ _
        have cmp : wpAny (model G.Y.prog G.Y.w) A.in1 (richCompare .Gt v vb) (fun u s2 => u = .bool (dataLt (D.maxD x xs).py y.py) ∧ s2 = s') (fun _ _ => False) s' := rcGt_alike y.py (D.maxD x xs).py A.in1 s' v vb _ _ rd1 rd2 (lk.1 _ py _ pb) (lk.2 _ py) (by
          have := Nat.min_le_left y.py.depth (D.maxD x xs).py.depth
          show A.units + 1 + _ < cLine
          omega) G.Y.prog G.Y.w _ _ ⟨rfl, rfl⟩
        refine wpAny_bind (wpAny_tryCatch (wpAny_holding (wpAny_bind (wpAny_mono cmp (fun u s2 hu => ?_) fun _ _ z => z.elim))))
        obtain ⟨rfl, rfl⟩ := hu
        refine wpAny_bind (wpAny_holding (wpAny_truthy_bool ?_))
        refine wpAny_bind (wpAny_letGo (wpAny_pure ?_))
        have up : ∀ {o2 : Obj} {h2 : Heap} {t2 : Nat} {vz : Value}, (∀ b u, b ≠ S → s2.heap.get? b = some u → h2.get? b = some u) → h2.get? S = some o2 → (∃ c2, o2 = lstObj #[vz, vz] c2) → (∀ F2 μ2 x2 xb2, RelV x2 v → Rep G.Y.K F2 μ2 x2 y → RelV xb2 vb → Rep G.Y.K F2 μ2 xb2 (D.maxD x xs) → ∃ xz, RelV xz vz ∧ Rep G.Y.K F2 μ2 xz (if dataLt (D.maxD x xs).py y.py then y else D.maxD x xs)) → G.At (j + 1) { s2 with heap := h2, toks := t2 } := fun {o2 h2 t2 vz} kp hs ⟨c2, e2⟩ hz => by
          subst e2
          refine hout2.put (t' := t2) hpf w kp hs (fun v z => nomatch z) (fun i t => tn_keep K hpf t kp) fun y2 st2 x2 o2 F2 μ2 w1 w2 w3 w4 w5 w6 => ?_
          rw [hsr] at w6 ⊢
          rw [hS] at w4
          cases w4
          rw [q1] at w1
          cases w1
          rcases w6 with ⟨_, _, z⟩ | ⟨vb3, c3, xb3, x3, xs3, e1, e2, e3, e4⟩
          · cases z
          cases e2
          rw [h1] at e1
          cases e1
          obtain ⟨xz, k1, k2⟩ := hz F2 μ2 x2 xb3 w2 w3 e3 e4
          exact .inr ⟨vz, c2, xz, x, xs ++ [y], by rw [take_at q1, List.map_append, h1]; rfl, rfl, k1, by rw [maxD_snoc]; exact k2⟩
        cases hb : dataLt (D.maxD x xs).py y.py with
        | true =>
          simp only [if_true]
          refine wpAny_bind ?_
          have hS2 := Heap.get?_update_self (Obj.mapSeq fun _ => #[v, v]) hS' rfl
          refine wpAny_updateSeq hS' rfl (wpAny_bind (wpAny_letGo ?_))
          rw [hname]
          refine wpAny_pure ⟨plainId_quiet PySem.F.plain_max_loop _, ih (j + 1) _ (by omega) (hagain good _ rfl (up (t2 := s2.toks) (fun b u nb e => (Heap.get?_update_other (s2.heap) (Obj.mapSeq fun _ => #[v, v]) (Ne.symm nb)).trans e) hS2 ⟨_, rfl⟩ fun F2 μ2 x2 xb2 k1 k2 k3 k4 => ⟨x2, k1, by rw [hb]; exact k2⟩))⟩
        | false =>
          simp only [Bool.false_eq_true, if_false]
          refine wpAny_bind (wpAny_letGo ?_)
          rw [hname]
          refine wpAny_pure ⟨plainId_quiet PySem.F.plain_max_loop _, ih (j + 1) _ (by omega) (hagain good _ rfl (up (h2 := s2.heap) (t2 := s2.toks) (fun b u nb e => e) hS' ⟨_, rfl⟩ fun F2 μ2 x2 xb2 k1 k2 k3 k4 => ⟨xb2, k3, by rw [hb]; exact k4⟩))⟩
end
section
variable {g : Gp} {X : Cx} {B : Bs} {t : GF} {c : TF} {e : EF} {k : Nat} {tg elt iter : Expr} {ifs : List Expr} {scope : Scope} {own : List (Str × Nat)} {gpos : Pos}
theorem c_gmax (hr : Room (k + 3) X.A) (G : GnS X.N X.env.scope scope own) (hN : X.N.Nodup) (pg : Gbk X k scope fun Y => DG g Y B (own.map fun p : Str × Nat => p.2) tg t) (pt : Gbk X k scope fun Y => DTs g Y B Z0 ifs c) (pe : Gbk X k scope fun Y => DE g Y B Z0 elt e) :
    Cons g X B gmax (.builtin "max") tg elt iter ifs scope gpos t c e (own.map fun p : Str × Nat => p.2) := by
  intro pins σ F H F1 H1 μ μ1 env st st1 stf ds a s5 r Q M rl x1 hc hQ
  have e5 : s5.heap = M.h5 := congrArg Shared.heap M.e5
  unfold gmax at hc
  split at hc
  · rename_i x0 st0 r0 st2 hT hf
    split at hc
    · rename_i hl
      cases hc
      have hname : (toString "max" ++ toString ".loop" : String) = "max.loop" := by decide
      refine call_function_tree PySem.F.kind_max PySem.F.plain_max PySem.F.entry_max (PySem.F.args_max1 _) ?_
      show wpAny _ X.A.in1 (Builtin.Builtins.bindParams "max" ["key", "default"] 0 ⟨[], []⟩ >>= _) _ _ s5
      refine wpAny_bind (wpAny_of_eq (show Builtin.Builtins.bindParams "max" ["key", "default"] 0 ⟨[], []⟩ = pure [none, none] from rfl) ?_)
      refine wpAny_bind (wpAny_pure ?_)
      refine wpAny_bind (wpAny_pyIter_gen (M.gen _ (by rw [e5]; exact M.ago)) ?_)
      refine wpAny_bind (wpAny_newObj_type ?_)
      have bg := M.begin (A := X.A.in1) (t6 := s5.toks) (h6 := s5.heap.push { cls := .type "list", data := .seq ([] : List Value).toArray }) (SR := Rmax X.K (traceD t c e ds (wipeE env (own.map fun p : Str × Nat => p.2)) st1).1)
        hr G hN pg pt pe hr.in1.in1 M.inv.ok.frames rl x1 rmax_mono (S := s5.heap.objs.size) (Nat.le_of_eq (by rw [e5])) (fun b ob h => Heap.get?_push_of_some _ (by rw [e5]; exact h)) (Heap.get?_push_size _ rfl) (fun v z => nomatch z) (.inl ⟨rfl, _, rfl⟩) (.inr (by rw [hf]; simp))
      rw [hname]
      have own' := M.ownS (B := B) (env := env) (t := t) (c := c) (e := e) (A := X.A.in1) (ws := own.map fun p : Str × Nat => p.2) (pf := fun o => [(s5.heap.objs.size, o)]) (SR := Rmax X.K (traceD t c e ds (wipeE env (own.map fun p : Str × Nat => p.2)) st1).1) (S := s5.heap.objs.size) (by rw [e5]; exact Nat.le_refl _)
      refine wpAny_pure ⟨plainId_quiet PySem.F.plain_max_loop _, max_loop (A := X.A) bg.1 (List.mem_singleton.mpr rfl) M.gen hr.hd (by have := hr.dp; omega) (by have := hr.un; omega) (fun _ => rfl) own' rfl hT hf hl (fun s' F' μ' H' xb vb ip h2 t2 hcore q3 q4 eip kp hs2 => ?_) _ 0 _ rfl bg.2⟩
      obtain ⟨c2, hs2⟩ := hs2
      obtain ⟨I, x, k⟩ := M.back (pf := fun o => [(s5.heap.objs.size, o)]) (ip := [(s5.heap.objs.size, lstObj #[] c2)]) (s' := { s' with heap := h2, toks := t2 }) (by
        obtain ⟨I0, rest⟩ := hcore
        rw [eip] at I0
        exact ⟨Inv.reS I0 own' kp hs2 (fun v z => nomatch z), rest⟩)
      exact ⟨xb, H', I, q3, hQ F' μ' H' x k _ q4⟩
    · cases hc
  · cases hc
end

def gmin : CnD
  | (x, _) :: r, some st => if likes (x :: r.map Prod.fst) then .ok (D.minD x (r.map Prod.fst)) st else .bad
  | _, _ => .bad
theorem gmin_nx : ∀ l f ce st, gmin l f ≠ .exc ce st := fun l f ce st z => by
  unfold gmin at z
  split at z
  · split at z <;> cases z
  · cases z
def Rmin (K : PySem.W.Frag) (Tr : List (D × List O)) : Nat → Obj → Hp → List Addr → Prop := fun j o F μ => (j = 0 ∧ ∃ c, o = lstObj #[] c) ∨ ∃ vb c xb x xs, (Tr.take j).map Prod.fst = x :: xs ∧ o = lstObj #[vb, vb] c ∧ RelV xb vb ∧ Rep K F μ xb (D.minD x xs)
theorem rmin_mono {K : PySem.W.Frag} {Tr : List (D × List O)} : ∀ j o F μ F' μ', Rmin K Tr j o F μ → RdSub F F' → Pre μ μ' → Rmin K Tr j o F' μ' := fun j o F μ F' μ' h s p => h.imp id fun ⟨vb, c, xb, x, xs, h1, h2, h3, h4⟩ => ⟨vb, c, xb, x, xs, h1, h2, h3, h4.mono s p⟩
theorem minD_snoc (x y : D) (xs : List D) : D.minD x (xs ++ [y]) = if dataLt y.py (D.minD x xs).py then y else D.minD x xs := by
  unfold D.minD
  rw [List.foldl_append]
  rfl
theorem minD_mem : ∀ (xs : List D) (x : D), D.minD x xs ∈ x :: xs
  | [], x => List.mem_cons_self
  | y :: ys, x => by
    have e : D.minD x (y :: ys) = D.minD (D.minD x [y]) ys := rfl
    rw [e]
    rcases List.mem_cons.mp (minD_mem ys (D.minD x [y])) with h | h
    · rw [h]
      have e2 : D.minD x [y] = y ∨ D.minD x [y] = x := by
        have := minD_snoc x y []
        rw [List.nil_append] at this
        rw [this]
        split
        · exact .inl rfl
        · exact .inr rfl
      rcases e2 with e2 | e2 <;> rw [e2] <;> simp
    · exact List.mem_cons_of_mem _ (List.mem_cons_of_mem _ h)
section
variable {G : GnP} {A : Around} {a S : Addr} {go : Obj} {gi : Nat} {R : Result → Shared → Prop}
theorem min_loop {tg elt : Expr} {ifs : List Expr} {it : Addr} {J : It} {ws : List Nat} {σ : St} (K : GnOk G A.in1.in1 tg elt ifs it J ws σ) (hp : (a, go) ∈ G.Y.pn) (hgo : ∀ h : Heap, h.get? a = some go → h.IsGen a gi) (hh : A.handled = none) (hroom : A.depth < recursionLimit) (hun : A.units + 150 < cLine) (hpf : ∀ o, G.pf o = [(S, o)]) (w : Own G.Y S) {stf : List O} {x0 : D} {st0 : List O} {r0 : List (D × List O)}
    (hsr : G.SR = Rmin G.Y.K G.Tr.1) (hT : G.Tr.1 = (x0, st0) :: r0) (hf : G.Tr.2 = some stf) (hl : likes (x0 :: r0.map Prod.fst) = true)
    (hR : ∀ s' F μ H xb vb ip h2 t2, G.CoreE ip stf F μ H s' → RelV xb vb → Rep G.Y.K F μ xb (D.minD x0 (r0.map Prod.fst)) → ip = [(S, (s'.heap.get? S).getD default)] → (∀ b u, b ≠ S → s'.heap.get? b = some u → h2.get? b = some u) → (∃ c, h2.get? S = some (lstObj #[] c)) → R (.ok (.ret vb)) { s' with heap := h2, toks := t2 }) : ∀ (n j : Nat) (s : Shared), G.Tr.1.length - j = n → G.Alive A.in1 gi j s → codeAny (model G.Y.prog G.Y.w) A (.builtin "min.loop" ⟨[.ref a, .none, .ref S], []⟩) R s := by
  have hname : (toString "min" ++ toString ".loop" : String) = "min.loop" := by decide
  have all : G.Tr.1.map Prod.fst = x0 :: r0.map Prod.fst := by rw [hT]; rfl
  have lk := likes_all hl
  have lf := likes_fits hl
  intro n
  induction n with
  | zero =>
    intro j s hn hal
    obtain ⟨o, F0, μ0, hS, h0⟩ := hal.1.own hpf
    have hjl : j = G.Tr.1.length := by have := hal.2.2.1; omega
    rw [hsr] at h0
    rcases h0 with ⟨z, _⟩ | ⟨vb, c, xb, x, xs, h1, rfl, h3, h4⟩
    · rw [z, hT] at hjl; cases hjl
    refine codeAny_builtin PySem.F.entry_min_loop ?_
    rw [Around.under_plainId PySem.F.plain_min_loop _]
    show wpAny _ A.in1 (seqItems? (.ref S) >>= _) _ _ s
    refine wpAny_bind (wpAny_seqItems hS rfl ?_)
    show wpAny _ A.in1 (tryCatch (pyNext (.ref a)) _ >>= _) _ _ s
    refine wpAny_bind (wpAny_tryCatch (gn_next (A := A.in1) hp hgo hh hroom hal (fun s' hj hend => ?_) fun v s' hout _ => ?_))
    · obtain ⟨o, F, μ, H, st, w0, w1, w2, hcore⟩ := hend
      rw [hf] at w1
      cases w1
      rw [hpf] at w0
      have eo := w0 _ List.mem_cons_self
      rw [hS] at eo
      cases eo
      rw [hsr] at w2
      rcases w2 with ⟨z, _⟩ | ⟨vb', c', xb', x', xs', q1, q2, q3, q4⟩
      · rw [hT] at z; cases z
      cases q2
      rw [List.take_length, all] at q1
      cases q1
      rw [hpf] at hcore
      have hS' := (hcore.1.pin _ (List.mem_append_right _ List.mem_cons_self)).1
      show wpAny _ A.in1 (updateSeq S (fun _ => #[]) >>= _) _ _ _
      refine wpAny_bind ?_
      refine wpAny_updateSeq hS' rfl (wpAny_bind (wpAny_letGo (wpAny_pure ?_)))
      exact hR s' F μ H xb' vb _ _ s'.toks hcore q3 q4 (by rw [hS']; rfl) (fun b u nb e => (Heap.get?_update_other _ _ (Ne.symm nb)).trans e) ⟨_, Heap.get?_update_self _ hS' rfl⟩
    · obtain ⟨y, x, o, F, μ, H, i, st, _, h1, _⟩ := hout
      have := (List.getElem?_eq_some_iff.mp h1).1
      omega
  | succ n ih =>
    intro j s hn hal
    obtain ⟨o, F0, μ0, hS, h0⟩ := hal.1.own hpf
    have good : G.Good (j + 1) := .inr (by rw [hf]; simp)
    have at0 : ∀ {s' : Shared} {v : Value}, G.Out j v s.heap s' → True := fun _ => trivial
    rw [hsr] at h0
    rcases h0 with ⟨z, c, rfl⟩ | ⟨vb, c, xb, x, xs, h1, rfl, h3, h4⟩
    · subst z
      refine codeAny_builtin PySem.F.entry_min_loop ?_
      rw [Around.under_plainId PySem.F.plain_min_loop _]
      show wpAny _ A.in1 (seqItems? (.ref S) >>= _) _ _ s
      refine wpAny_bind (wpAny_seqItems hS rfl ?_)
      show wpAny _ A.in1 (tryCatch (pyNext (.ref a)) _ >>= _) _ _ s
      refine wpAny_bind (wpAny_tryCatch (gn_next (A := A.in1) hp hgo hh hroom hal (fun s' hj _ => ?_) fun v s' hout hagain => ?_))
      · omega
      · obtain ⟨y, st, x, o', F1, μ1, q1, q2, q3, hS0, hS', q5⟩ := hout.own hpf
        rw [hS] at hS0
        cases hS0
        show wpAny _ A.in1 (updateSeq S (fun _ => #[v, v]) >>= _) _ _ _
        refine wpAny_bind ?_
        have hS2 := Heap.get?_update_self (Obj.mapSeq fun _ => #[v, v]) hS' rfl
        have hat := hout.put (t' := s'.toks) hpf w (fun b u nb e => (Heap.get?_update_other (s'.heap) (Obj.mapSeq fun _ => #[v, v]) (Ne.symm nb)).trans e) hS2 (fun v z => nomatch z) (fun i t => tn_keep K hpf t fun b u nb e => (Heap.get?_update_other _ _ (Ne.symm nb)).trans e)
          fun y2 st2 x2 o2 F2 μ2 w1 w2 w3 w4 w5 w6 => by
            rw [hsr]
            exact .inr ⟨v, _, x2, y2, [], by rw [take_at w1]; rfl, rfl, w2, w3⟩
        refine wpAny_updateSeq hS' rfl ?_
        rw [hname]
        exact wpAny_pure ⟨plainId_quiet PySem.F.plain_min_loop _, ih 1 _ (by omega) (hagain good _ rfl hat)⟩
    · refine codeAny_builtin PySem.F.entry_min_loop ?_
      rw [Around.under_plainId PySem.F.plain_min_loop _]
      show wpAny _ A.in1 (seqItems? (.ref S) >>= _) _ _ s
      refine wpAny_bind (wpAny_seqItems hS rfl ?_)
      show wpAny _ A.in1 (tryCatch (pyNext (.ref a)) _ >>= _) _ _ s
      refine wpAny_bind (wpAny_tryCatch (gn_next (A := A.in1) hp hgo hh hroom hal (fun s' hj _ => ?_) fun v s' hout hagain => ?_))
      · omega
      · have hout2 := hout
        obtain ⟨y, xv, o', F1, μ1, H1, i1, st1, w0, q1, q2, q3, q4, q5, q6, ⟨I, rl, _⟩, q8⟩ := hout
        rw [hpf] at w0 I
        have eo := w0 _ List.mem_cons_self
        rw [hS] at eo
        cases eo
        have hS' := (I.pin _ (List.mem_append_right _ List.mem_cons_self)).1
        rw [hsr] at q4
        rcases q4 with ⟨z, c', z2⟩ | ⟨vb', c', xb', x', xs', z1, z2, z3, z4⟩
        · cases z2
        cases z2
        rw [h1] at z1
        cases z1
        -- the two compared
        have my : y ∈ x0 :: r0.map Prod.fst := by rw [← all]; exact List.mem_map.mpr ⟨_, List.mem_of_getElem? q1, rfl⟩
        have mb : D.minD x xs ∈ x0 :: r0.map Prod.fst := by
          have z := minD_mem xs x
          rw [← h1] at z
          rw [← all]
          obtain ⟨p, hp, e⟩ := List.mem_map.mp z
          exact List.mem_map.mpr ⟨p, List.mem_of_mem_take hp, e⟩
        have fy : D.fit 50 y = true := fits_mem lf my
        have fb : D.fit 50 (D.minD x xs) = true := fits_mem lf mb
        obtain ⟨as1, rd1⟩ := Dp.reads I _ xv v (q3.dp rl.ok.sub 50 fy) q2
        obtain ⟨as2, rd2⟩ := Dp.reads I _ xb' vb (z4.dp rl.ok.sub 50 fb) z3
        have py : y.py ∈ D.pys (x0 :: r0.map Prod.fst) := by rw [D.pys_map]; exact List.mem_map.mpr ⟨_, my, rfl⟩
        have pb : (D.minD x xs).py ∈ D.pys (x0 :: r0.map Prod.fst) := by rw [D.pys_map]; exact List.mem_map.mpr ⟨_, mb, rfl⟩
        have hd : y.py.depth ≤ 50 := (D.fit_py 50 y fy).2
        show wpAny _ A.in1 (tryCatch (holding [v, v] (richCompare .Lt v vb >>= _)) _ >>= _) _ _ _
        have cmp : wpAny (model G.Y.prog G.Y.w) A.in1 (richCompare .Lt v vb) (fun u s2 => u = .bool (dataLt y.py (D.minD x xs).py) ∧ s2 = s') (fun _ _ => False) s' := rcLt_alike y.py (D.minD x xs).py A.in1 s' v vb _ _ rd1 rd2 (lk.1 _ py _ pb) (lk.2 _ py) (by
          have := Nat.min_le_left y.py.depth (D.minD x xs).py.depth
          show A.units + 1 + _ < cLine
          omega) G.Y.prog G.Y.w _ _ ⟨rfl, rfl⟩
        refine wpAny_bind (wpAny_tryCatch (wpAny_holding (wpAny_bind (wpAny_mono cmp (fun u s2 hu => ?_) fun _ _ z => z.elim))))
        obtain ⟨rfl, rfl⟩ := hu
        refine wpAny_bind (wpAny_holding (wpAny_truthy_bool ?_))
        refine wpAny_bind (wpAny_letGo (wpAny_pure ?_))
        have up : ∀ {o2 : Obj} {h2 : Heap} {t2 : Nat} {vz : Value}, (∀ b u, b ≠ S → s2.heap.get? b = some u → h2.get? b = some u) → h2.get? S = some o2 → (∃ c2, o2 = lstObj #[vz, vz] c2) → (∀ F2 μ2 x2 xb2, RelV x2 v → Rep G.Y.K F2 μ2 x2 y → RelV xb2 vb → Rep G.Y.K F2 μ2 xb2 (D.minD x xs) → ∃ xz, RelV xz vz ∧ Rep G.Y.K F2 μ2 xz (if dataLt y.py (D.minD x xs).py then y else D.minD x xs)) → G.At (j + 1) { s2 with heap := h2, toks := t2 } := fun {o2 h2 t2 vz} kp hs ⟨c2, e2⟩ hz => by
          subst e2
          refine hout2.put (t' := t2) hpf w kp hs (fun v z => nomatch z) (fun i t => tn_keep K hpf t kp) fun y2 st2 x2 o2 F2 μ2 w1 w2 w3 w4 w5 w6 => ?_
          rw [hsr] at w6 ⊢
          rw [hS] at w4
          cases w4
          rw [q1] at w1
          cases w1
          rcases w6 with ⟨_, _, z⟩ | ⟨vb3, c3, xb3, x3, xs3, e1, e2, e3, e4⟩
          · cases z
          cases e2
          rw [h1] at e1
          cases e1
          obtain ⟨xz, k1, k2⟩ := hz F2 μ2 x2 xb3 w2 w3 e3 e4
          exact .inr ⟨vz, c2, xz, x, xs ++ [y], by rw [take_at q1, List.map_append, h1]; rfl, rfl, k1, by rw [minD_snoc]; exact k2⟩
        cases hb : dataLt y.py (D.minD x xs).py with
        | true =>
          simp only [if_true]
          refine wpAny_bind ?_
          have hS2 := Heap.get?_update_self (Obj.mapSeq fun _ => #[v, v]) hS' rfl
          refine wpAny_updateSeq hS' rfl (wpAny_bind (wpAny_letGo ?_))
          rw [hname]
          refine wpAny_pure ⟨plainId_quiet PySem.F.plain_min_loop _, ih (j + 1) _ (by omega) (hagain good _ rfl (up (t2 := s2.toks) (fun b u nb e => (Heap.get?_update_other (s2.heap) (Obj.mapSeq fun _ => #[v, v]) (Ne.symm nb)).trans e) hS2 ⟨_, rfl⟩ fun F2 μ2 x2 xb2 k1 k2 k3 k4 => ⟨x2, k1, by rw [hb]; exact k2⟩))⟩
        | false =>
          simp only [Bool.false_eq_true, if_false]
          refine wpAny_bind (wpAny_letGo ?_)
          rw [hname]
          refine wpAny_pure ⟨plainId_quiet PySem.F.plain_min_loop _, ih (j + 1) _ (by omega) (hagain good _ rfl (up (h2 := s2.heap) (t2 := s2.toks) (fun b u nb e => e) hS' ⟨_, rfl⟩ fun F2 μ2 x2 xb2 k1 k2 k3 k4 => ⟨xb2, k3, by rw [hb]; exact k4⟩))⟩
end
section
variable {g : Gp} {X : Cx} {B : Bs} {t : GF} {c : TF} {e : EF} {k : Nat} {tg elt iter : Expr} {ifs : List Expr} {scope : Scope} {own : List (Str × Nat)} {gpos : Pos}
theorem c_gmin (hr : Room (k + 3) X.A) (G : GnS X.N X.env.scope scope own) (hN : X.N.Nodup) (pg : Gbk X k scope fun Y => DG g Y B (own.map fun p : Str × Nat => p.2) tg t) (pt : Gbk X k scope fun Y => DTs g Y B Z0 ifs c) (pe : Gbk X k scope fun Y => DE g Y B Z0 elt e) :
    Cons g X B gmin (.builtin "min") tg elt iter ifs scope gpos t c e (own.map fun p : Str × Nat => p.2) := by
  intro pins σ F H F1 H1 μ μ1 env st st1 stf ds a s5 r Q M rl x1 hc hQ
  have e5 : s5.heap = M.h5 := congrArg Shared.heap M.e5
  unfold gmin at hc
  split at hc
  · rename_i x0 st0 r0 st2 hT hf
    split at hc
    · rename_i hl
      cases hc
      have hname : (toString "min" ++ toString ".loop" : String) = "min.loop" := by decide
      refine call_function_tree PySem.F.kind_min PySem.F.plain_min PySem.F.entry_min (PySem.F.args_min1 _) ?_
      show wpAny _ X.A.in1 (Builtin.Builtins.bindParams "min" ["key", "default"] 0 ⟨[], []⟩ >>= _) _ _ s5
      refine wpAny_bind (wpAny_of_eq (show Builtin.Builtins.bindParams "min" ["key", "default"] 0 ⟨[], []⟩ = pure [none, none] from rfl) ?_)
      refine wpAny_bind (wpAny_pure ?_)
      refine wpAny_bind (wpAny_pyIter_gen (M.gen _ (by rw [e5]; exact M.ago)) ?_)
      refine wpAny_bind (wpAny_newObj_type ?_)
      have bg := M.begin (A := X.A.in1) (t6 := s5.toks) (h6 := s5.heap.push { cls := .type "list", data := .seq ([] : List Value).toArray }) (SR := Rmin X.K (traceD t c e ds (wipeE env (own.map fun p : Str × Nat => p.2)) st1).1)
        hr G hN pg pt pe hr.in1.in1 M.inv.ok.frames rl x1 rmin_mono (S := s5.heap.objs.size) (Nat.le_of_eq (by rw [e5])) (fun b ob h => Heap.get?_push_of_some _ (by rw [e5]; exact h)) (Heap.get?_push_size _ rfl) (fun v z => nomatch z) (.inl ⟨rfl, _, rfl⟩) (.inr (by rw [hf]; simp))
      rw [hname]
      have own' := M.ownS (B := B) (env := env) (t := t) (c := c) (e := e) (A := X.A.in1) (ws := own.map fun p : Str × Nat => p.2) (pf := fun o => [(s5.heap.objs.size, o)]) (SR := Rmin X.K (traceD t c e ds (wipeE env (own.map fun p : Str × Nat => p.2)) st1).1) (S := s5.heap.objs.size) (by rw [e5]; exact Nat.le_refl _)
      refine wpAny_pure ⟨plainId_quiet PySem.F.plain_min_loop _, min_loop (A := X.A) bg.1 (List.mem_singleton.mpr rfl) M.gen hr.hd (by have := hr.dp; omega) (by have := hr.un; omega) (fun _ => rfl) own' rfl hT hf hl (fun s' F' μ' H' xb vb ip h2 t2 hcore q3 q4 eip kp hs2 => ?_) _ 0 _ rfl bg.2⟩
      obtain ⟨c2, hs2⟩ := hs2
      obtain ⟨I, x, k⟩ := M.back (pf := fun o => [(s5.heap.objs.size, o)]) (ip := [(s5.heap.objs.size, lstObj #[] c2)]) (s' := { s' with heap := h2, toks := t2 }) (by
        obtain ⟨I0, rest⟩ := hcore
        rw [eip] at I0
        exact ⟨Inv.reS I0 own' kp hs2 (fun v z => nomatch z), rest⟩)
      exact ⟨xb, H', I, q3, hQ F' μ' H' x k _ q4⟩
    · cases hc
  · cases hc
end
end DV

set_option Elab.async false
set_option linter.all false
set_option maxRecDepth 100000
set_option maxHeartbeats 2000000
namespace DV
open PySem PySem.Spec PyProof.Rows L2 GenW
open PySem.W (alike alikeAll EachIs dataLt dataLe dataKind AllAlike Sortable SortsAt sortVals each_map bound_map sortVals_length sortVals_data sortingHeap sortingHeap_old)
theorem likes_all2 {ds : List D} (hl : likes ds = true) : AllAlike (ds.map D.py) := fun x hx y hy => by
  have la := likes_all hl
  rw [← D.pys_map] at hx hy
  exact la.1 x hx y hy
theorem sortable_of {ds : List D} (hs : sortable ds = true) : Sortable (ds.map D.py) := by
  unfold sortable at hs
  simp only [Bool.or_eq_true, List.all_eq_true] at hs
  rcases hs with hs | hs
  · refine .inl fun x hx => ?_
    obtain ⟨d, hd, rfl⟩ := List.mem_map.mp hx
    have z := hs d hd
    cases d with
    | tup zs =>
      cases zs with
      | nil => simp at z
      | cons z1 zs => exact ⟨z1.py, D.pys zs, by simp only [D.py, D.pys]⟩
    | _ => simp at z
  · refine .inr fun x hx => ?_
    obtain ⟨d, hd, rfl⟩ := List.mem_map.mp hx
    have z := hs d hd
    cases d <;> simp [D.py] at z ⊢
def sortD (ds : List D) : List D := ds.mergeSort (dataLe false D.py)
section
variable {g : Gp} {X : Cx} {pins : List (Addr × Obj)} {σ : St} {F H : Hp} {μ : List Addr} {st : List O}
/-- the items are there: a new list of them, sorted -/
theorem sorted_rest {A : Around} {s : Shared} {us : List Value} {xs : List V} {ds : List D} {Q : Value → Shared → Prop} {E : Value → Shared → Prop} (I : Inv X pins σ H s) (k : Ok X.K g F μ H st) (rv : Vals xs us) (rs : Reps X.K F μ xs ds) (hl : likes ds = true) (hso : sortable ds = true) (hz : ds.length ≤ 100000) (hu : A.units + 60 < cLine)
    (hQ : ∀ s' H' v u, Inv X pins σ H' s' → RelV v u → (∃ F', Go F μ H F' μ H' ∧ Ok X.K g F' μ H' st ∧ Rep X.K F' μ v (.lst (sortD ds))) → Q u s') :
    wpAny (model X.prog X.w) A (newList us >>= fun l => holding [l] (call (.builtin "list.sort") [l] []) >>= fun _ => ret l) (fun f s' => ∃ v, f = .done (.ret v) ∧ Q v s') E s := by
  have e1 := rv.length
  have e2 := rs.length
  have hsz : us.length ≤ sizeLine := small_sz (by omega)
  refine wpAny_bind (wpAny_newList ?_ hsz)
  have hat : (s.heap.push { cls := .type "list", data := .seq us.toArray }).get? s.heap.objs.size = some (seqObj "list" us.toArray 0) := Heap.get?_push_size _ rfl
  have old : ∀ b o, s.heap.get? b = some o → b ≠ s.heap.objs.size := fun b o e => Nat.ne_of_lt (Heap.lt_size e)
  have kp : ∀ b o, s.heap.get? b = some o → (sortingHeap (s.heap.push { cls := .type "list", data := .seq us.toArray }) s.heap.objs.size us).get? b = some o := fun b o e => sortingHeap_old (old b o e) (Heap.get?_push_of_some _ e)
  have hf := likes_fits hl
  have ee := each_of rv rs
  have er : EachIs (fun u d => ∃ as, Reads (sortingHeap (s.heap.push { cls := .type "list", data := .seq us.toArray }) s.heap.objs.size us) u (D.py d) as) us ds := each_imp ee fun u d hd ⟨v, r, h⟩ => by
    obtain ⟨as, q⟩ := Dp.reads I _ v u (h.dp k.sub 50 (D.fits_mem hf hd)) r
    exact ⟨as, PyProof.Rows.Reads.keeps kp q⟩
  have hal := likes_all2 hl
  have big : ∀ d, d ∈ ds → A.units + 1 + (D.py d).depth < cLine := fun d hd => by
    have z := (D.fit_py 50 d (D.fits_mem hf hd)).2
    omega
  refine wpAny_bind (wpAny_holding (wpAny_call_entry PyProof.Rows.slot_list_sort ⟨_, hat, rfl⟩ PyProof.Rows.entry_list_sort (PySem.W.list_sort_vals (s := { s with heap := s.heap.push { cls := .type "list", data := .seq us.toArray } }) (κ := dataKind (sortingHeap (s.heap.push { cls := .type "list", data := .seq us.toArray }) s.heap.objs.size us) (ds.map D.py)) hat
    (SortsAt.data (A := A.in1) (s := { s with heap := sortingHeap (s.heap.push { cls := .type "list", data := .seq us.toArray }) s.heap.objs.size us }) (each_map (R := fun v d => ∃ as, Reads (sortingHeap (s.heap.push { cls := .type "list", data := .seq us.toArray }) s.heap.objs.size us) v d as) D.py er) hal (sortable_of hso) (bound_map big)) hsz ⟨.none, rfl, ?_⟩) (PyProof.Rows.args_list_sort _)))
  refine wpAny_pure ⟨_, rfl, ?_⟩
  have eo := sortVals_data (enc := D.py) false ee er hal
  have lo : (sortVals (dataKind (sortingHeap (s.heap.push { cls := .type "list", data := .seq us.toArray }) s.heap.objs.size us) (ds.map D.py)) false us us).length = ds.length := by
    rw [sortVals_length false rfl]
    exact ee.length
  obtain ⟨ws, h1, h2⟩ := each_back eo
  obtain ⟨c, hc⟩ := sortedHeap_at (out := (sortVals (dataKind (sortingHeap (s.heap.push { cls := .type "list", data := .seq us.toArray }) s.heap.objs.size us) (ds.map D.py)) false us us).toArray) hat
  have hp : H s.heap.objs.size = none := I.hok.fresh (Nat.le_refl _)
  obtain ⟨x2, k2⟩ := k.put (o := .lst ws) hp (fun ps z => by cases z)
  have lw := h1.length
  refine hQ _ _ (.ref s.heap.objs.size) _ (I.laid (o := .lst ws) (t' := s.toks) (fun b o e => ?_) (Nat.le_refl _) ⟨?_, _, c, h1, hc⟩) rfl ⟨_, x2, k2, .lst upd_same (h2.mono x2.sub x2.pre)⟩
  · rw [sortedHeap_old (old b o e) (by rw [Heap.size_push]; exact Nat.lt_succ_of_lt (Heap.lt_size e))]
    exact Heap.get?_push_of_some _ e
  · rw [lw, lo]
    exact small_sz hz
def hSorted2 : FN := fun _ xs => match xs with
  | [.lst ds] => if likes ds && sortable ds && decide (ds.length ≤ 100000) then some (.lst (sortD ds)) else none
  | [.tup ds] => if likes ds && sortable ds && decide (ds.length ≤ 100000) then some (.lst (sortD ds)) else none
  | _ => none
theorem sorted_head {A : Around} {u : Value} {s : Shared} {Q : Value → Shared → Prop} {E : Value → Shared → Prop} (h : wpAny (model X.prog X.w) A.in1 (collect u) (fun us s' => wpAny (model X.prog X.w) A.in1 (newList us >>= fun l => holding [l] (call (.builtin "list.sort") [l] []) >>= fun _ => ret l) (fun f s' => ∃ v, f = .done (.ret v) ∧ Q v s') E s') E s) : wpAny (model X.prog X.w) A (call (.builtin "sorted") [u]) Q E s := by
  refine PySem.Calls.call_function_entry kind_sorted plain_sorted entry_sorted (args_sorted1 _) ?_
  unfold Builtin.«sorted»
  refine wpAny_bind (m := checkCount "sorted" 1 1 _) (wpAny_pure ?_)
  exact wpAny_bind h
theorem c_sorted2 (hu : X.A.units + 65 < cLine) : CallR X (.builtin "sorted") (rN X.K g hSorted2) := by
  intro pins s σ H xs us Q I rs z
  obtain ⟨F, μ, st, ds, d, k, r1, e, gv⟩ := z
  unfold hSorted2 at e
  have fin : ∀ {es : List D} {s' : Shared} {ws : List V} {ws' : List Value}, (likes es && sortable es && decide (es.length ≤ 100000)) = true → d = .lst (sortD es) → Inv X pins σ H s' → Vals ws ws' → Reps X.K F μ ws es →
      wpAny (model X.prog X.w) X.A.in1 (newList ws' >>= fun l => holding [l] (call (.builtin "list.sort") [l] []) >>= fun _ => ret l) (fun f s' => ∃ v, f = .done (.ret v) ∧ EP X pins σ Q v s') X.xe s' := fun {es s' ws ws'} hl ed I' rv rr => by
    rw [Bool.and_eq_true, Bool.and_eq_true, decide_eq_true_eq] at hl
    refine sorted_rest I' k rv rr hl.1.1 hl.1.2 hl.2 (by show X.A.units + 1 + 60 < cLine; omega) fun s2 H2 v u J rv2 ⟨F', x, k2, rr2⟩ => ⟨v, H2, J, rv2, gv F' H2 v x k2 (by rw [ed]; exact rr2)⟩
  split at e
  · split at e
    · rename_i hl
      obtain ⟨v, rfl, w⟩ := reps1 r1
      cases w with
      | @lst a vs _ h q =>
        obtain ⟨its, rv, pl, hz⟩ := I.list (.inl (.inl (k.sub _ _ h)))
        rw [Vals.ref1 rs]
        obtain ⟨o, n, ho, hc, _, hd⟩ := pl
        refine sorted_head (wpAny_collect_seq a (.inl rfl) ho hc hd (fun h' hk => ?_) (by rw [List.size_toArray, ← rv.length]; exact hz))
        exact fin hl (Option.some.inj e).symm (I.kept (t' := s.toks) hk) (by simpa using rv) q
    · cases e
  · split at e
    · rename_i hl
      obtain ⟨v, rfl, w⟩ := reps1 r1
      cases w with
      | @tup a vs _ h q =>
        obtain ⟨its, rv, pl, hz⟩ := I.tuple (k.sub.t h)
        rw [Vals.ref1 rs]
        obtain ⟨o, ho, hc, n, hd⟩ := pl
        refine sorted_head (wpAny_collect_seq a (.inr rfl) ho hc hd (fun h' hk => ?_) (by rw [List.size_toArray, ← rv.length]; exact hz))
        exact fin hl (Option.some.inj e).symm (I.kept (t' := s.toks) hk) (by simpa using rv) q
    · cases e
  · cases e
end
def gsort : CnD := fun l f => match f with
  | some st => if likes (l.map Prod.fst) && sortable (l.map Prod.fst) && decide (l.length ≤ 100000) then .ok (.lst (sortD (l.map Prod.fst))) st else .bad
  | none => .bad
theorem gsort_nx : ∀ l f ce st, gsort l f ≠ .exc ce st := fun l f ce st z => by
  unfold gsort at z
  split at z
  · split at z <;> cases z
  · cases z
section
variable {g : Gp} {X : Cx} {B : Bs} {t : GF} {c : TF} {e : EF} {k : Nat} {tg elt iter : Expr} {ifs : List Expr} {scope : Scope} {own : List (Str × Nat)} {gpos : Pos}
theorem c_gsort (hr : Room (k + 6) X.A) (G : GnS X.N X.env.scope scope own) (hN : X.N.Nodup) (pg : Gbk X k scope fun Y => DG g Y B (own.map fun p : Str × Nat => p.2) tg t) (pt : Gbk X k scope fun Y => DTs g Y B Z0 ifs c) (pe : Gbk X k scope fun Y => DE g Y B Z0 elt e) :
    Cons g X B gsort (.builtin "sorted") tg elt iter ifs scope gpos t c e (own.map fun p : Str × Nat => p.2) := by
  intro pins σ F H F1 H1 μ μ1 env st st1 stf ds a s5 r Q M rl x1 hc hQ
  unfold gsort at hc
  split at hc
  · rename_i st2 hf
    split at hc
    · rename_i hl
      cases hc
      rw [Bool.and_eq_true, Bool.and_eq_true, decide_eq_true_eq] at hl
      refine sorted_head (collect_gn M (hr.mono (by omega)) G hN pg pt pe (A := X.A.in1) ((hr.mono (by omega : k + 4 ≤ k + 6)).in1.in1.in1) M.inv.ok.frames rl x1 hf hl.2 fun s' F' μ' H' us xs I' x' k' rv rs => ?_)
      refine sorted_rest I' k' rv rs hl.1.1 hl.1.2 (by rw [List.length_map]; exact hl.2) (by have := hr.un; show X.A.units + 1 + 60 < cLine; omega) fun s2 H2 v u J rv2 ⟨F2, x2, k2, rr2⟩ => ⟨v, H2, J, rv2, hQ F2 μ' H2 (x'.trans x2) k2 v rr2⟩
    · cases hc
  · cases hc
end
end DV

set_option Elab.async false
set_option linter.all false
set_option maxRecDepth 100000
set_option maxHeartbeats 1000000
namespace DV
open PySem PySem.Spec PyProof.Rows L2
/-! ### truth values subtracted -/
def bI (b : Bool) : Int := if b then 1 else 0
theorem gives_sub_bl (a b : Bool) : PySem.Gives (Builtin.«int.__sub__» ⟨[.bool a, .bool b], []⟩) (.int ((if a = true then (1 : Int) else 0) - if b = true then (1 : Int) else 0)) :=
  .of_wp fun M A E s Q h => by
    obtain ⟨hp, gg, dd, tk, os⟩ := s
    wp_walk
    exact ⟨_, rfl, h⟩
def hSubB : F2 := fun st x y => match x, y with
  | .bl a, .bl b => some (.int (bI a - bI b))
  | _, _ => hSub st x y
section
variable {g : Gp} {X : Cx} {B : Bs} {Z : ZZ} {e a b c : Expr} {es : List Expr} {f fa fb fc : EF} {pos : Pos}
theorem op_SubB : OpR X (binaryOp .Sub) (r2 X.K g hSubB) := by
  intro pins s σ H x y v u Q I rx ry z
  obtain ⟨F, μ, st, dx, dy, d, k, r1, r2, e, gv⟩ := z
  by_cases h : ∃ a b, dx = .bl a ∧ dy = .bl b
  · obtain ⟨a, b, rfl, rfl⟩ := h
    cases r1
    cases r2
    cases e
    have ev : v = .bool a := rx
    have eu : u = .bool b := ry
    subst ev eu
    refine binaryOp_gives (op := .Sub) (PySem.typeIs_bool s a) (PySem.typeIs_bool s b) PySem.F.fills_bool_sub PySem.F.slot_bool_sub PySem.F.entry_int_sub (PySem.F.args_int_sub_2 _ _) (gives_sub_bl a b) trivial ?_
    exact ⟨.int (bI a - bI b), H, I.tok _, ⟨_, rfl⟩, gv_now gv k (.int _)⟩
  · refine op_Sub pins s σ H x y v u Q I rx ry ⟨F, μ, st, dx, dy, d, k, r1, r2, ?_, gv⟩
    unfold hSubB at e
    split at e
    · rename_i a b
      exact absurd ⟨a, b, rfl, rfl⟩ h
    · exact e
/-! ### comparisons in a chain, as a test -/
abbrev CF := D → TF
def DCh (g : Gp) (X : Cx) (B : Bs) (Z : ZZ) (pos : Pos) (ops : List CmpOp) (es : List Expr) (c : CF) : Prop := ∀ (pins : List (Addr × Obj)) (s : Shared) (σ : St) (H : Hp) (x : V) (v : Value) (Q : Bool → Hp → Prop), Inv X pins σ H s → RelV x v →
  (∃ env F μ st d, Rl X.K g B F μ H env st σ ∧ Rep X.K F μ x d ∧ Aft X.K g F μ H Z (c d env st) fun b _ _ _ H' => Q b H') → wpAny (model X.prog X.w) X.A (testChain pos v ops (evalEach es X.env)) (TP X pins σ Q) X.xe s
def cLast (h : F2) (f : EF) : CF := fun x env st => (f env st).bind fun y st => match h st x y with
  | some (.bl b) => .ok b st
  | _ => .bad
def cLink (h : F2) (f : EF) (r : CF) : CF := fun x env st => (f env st).bind fun y st => match h st x y with
  | some (.bl b) => if b then r y env st else .ok false st
  | _ => .bad
theorem testChain_last {M : Model} {A : Around} {E : Value → Shared → Prop} {s : Shared} {pos : Pos} {a : Value} {op : CmpOp} {r : Sem Value} {Q : Bool → Shared → Prop}
    (h : wpAny M A r (fun b s₁ => wpAny M A (compareOp op a b) (fun c s₂ => wpAny M A (truthy c) Q E s₂) E s₁) E s) : wpAny M A (testChain pos a [op] [r]) Q E s := by
  first
    | exact PyProof.Rows.test_last h
    | (show wpAny M A (do
          let rv ← holding [a] r
          standAt pos
          let c ← compareOp op a rv
          truthy c) Q E s
       exact wpAny_bind (wpAny_holding (wpAny_mono h (fun b s1 h1 => wpAny_bind (wpAny_standAt (wpAny_bind h1))) fun _ _ z => z)))
theorem dch_last {op : CmpOp} {h : F2} (ho : OpR X (compareOp op) (r2 X.K g h)) (hb : DE g X B Z b fb) : DCh g X B Z pos [op] [b] (cLast h fb) := fun pins s σ H x v Q I rx ⟨env, F, μ, st, d, r, rp, z⟩ => by
  refine testChain_last (thn (hb.run pins s σ H (fun y H1 => ∃ F1 μ1 s1 d1, Rl X.K g B F1 μ1 H1 env s1 σ ∧ Go F μ H F1 μ1 H1 ∧ Rep X.K F1 μ1 y d1 ∧ Aft X.K g F1 μ1 H1 Z (match h s1 d d1 with | some (.bl b) => .ok b s1 | _ => .bad) fun b _ _ _ H' => Q b H') I (tD_of r z.bind fun d1 s1 y F1 μ1 H1 x1 r1 z1 ry => ⟨F1, μ1, s1, d1, r1, x1, ry, z1⟩)) fun u s1 ⟨y, H1, I1, ry, F1, μ1, st1, d1, r1, x1, rp1, z1⟩ => ?_)
  split at z1
  · rename_i bb hbb
    refine thn (ho pins s1 σ H1 x y v u (fun w H2 => w = .bl bb ∧ ∃ F2, Go F1 μ1 H1 F2 μ1 H2 ∧ Ok X.K g F2 μ1 H2 st1) I1 rx ry ⟨F1, μ1, st1, d, d1, _, r1.ok, rp.mono x1.sub x1.pre, rp1, hbb, fun F' H' v' x2 k2 rr => by cases rr; exact ⟨rfl, F', x2, k2⟩⟩) fun w s2 ⟨w', H2, I2, rw2, ew, F2, x2, k2⟩ => ?_
    subst ew
    have ew : w = .bool bb := rw2
    subst ew
    exact wpAny_truthy_bool ⟨H2, I2, z1 F2 μ1 H2 x2 k2⟩
  · exact z1.elim
theorem dch_link {op op' : CmpOp} {ops : List CmpOp} {h : F2} {r : CF} (ho : OpR X (compareOp op) (r2 X.K g h)) (hb : DE g X B Z b fb) (hr : DCh g X B Z pos (op' :: ops) (c :: es) r) : DCh g X B Z pos (op :: op' :: ops) (b :: c :: es) (cLink h fb r) := fun pins s σ H x v Q I rx ⟨env, F, μ, st, d, rl, rp, z⟩ => by
  show wpAny _ _ (testChain pos v (op :: op' :: ops) (eval b X.env :: eval c X.env :: evalEach es X.env)) _ _ _
  refine test_link (thn (hb.run pins s σ H (fun y H1 => ∃ F1 μ1 s1 d1, Rl X.K g B F1 μ1 H1 env s1 σ ∧ Go F μ H F1 μ1 H1 ∧ Rep X.K F1 μ1 y d1 ∧ Aft X.K g F1 μ1 H1 Z (match h s1 d d1 with | some (.bl b) => if b then r d1 env s1 else .ok false s1 | _ => .bad) fun b _ _ _ H' => Q b H') I (tD_of rl z.bind fun d1 s1 y F1 μ1 H1 x1 r1 z1 ry => ⟨F1, μ1, s1, d1, r1, x1, ry, z1⟩)) fun u s1 ⟨y, H1, I1, ry, F1, μ1, st1, d1, r1, x1, rp1, z1⟩ => ?_)
  split at z1
  · rename_i bb hbb
    refine thn (ho pins s1 σ H1 x y v u (fun w H2 => w = .bl bb ∧ ∃ F2, Go F1 μ1 H1 F2 μ1 H2 ∧ Ok X.K g F2 μ1 H2 st1) I1 rx ry ⟨F1, μ1, st1, d, d1, _, r1.ok, rp.mono x1.sub x1.pre, rp1, hbb, fun F' H' v' x2 k2 rr => by cases rr; exact ⟨rfl, F', x2, k2⟩⟩) fun w s2 ⟨w', H2, I2, rw2, ew, F2, x2, k2⟩ => ?_
    subst ew
    have ew : w = .bool bb := rw2
    subst ew
    refine wpAny_truthy_bool ?_
    cases bb with
    | true => exact ite_tt (hr pins s2 σ H2 y u Q I2 ry ⟨env, F2, μ1, st1, d1, r1.step x2 k2, rp1.mono x2.sub x2.pre, z1.shift x2⟩)
    | false => exact ite_ff ⟨H2, I2, z1 F2 μ1 H2 x2 k2⟩
  · exact z1.elim
def tChN (f : EF) (c : CF) : TF := fun env st => (f env st).bind fun x st => c x env st
theorem dt_chN {op op' : CmpOp} {ops : List CmpOp} {r : CF} (ha : DE g X B Z a fa) (hr : DCh g X B Z pos (op :: op' :: ops) (b :: c :: es) r) (hm : lastMarks (op :: op' :: ops) (b :: c :: es) = false := by rfl) : DT g X B Z (.Compare a (op :: op' :: ops) (b :: c :: es) pos) (tChN fa r) := by
  refine ⟨fun pins s σ H Q I ⟨env, F, μ, st, rl, z⟩ => ?_⟩
  refine isTrue_chain (thn (ha.run pins s σ H (fun x H1 => ∃ F1 μ1 s1 d1, Rl X.K g B F1 μ1 H1 env s1 σ ∧ Rep X.K F1 μ1 x d1 ∧ Aft X.K g F1 μ1 H1 Z (r d1 env s1) fun b _ _ _ H' => Q b H') I (tD_of rl z.bind fun d1 s1 y F1 μ1 H1 x1 r1 z1 ry => ⟨F1, μ1, s1, d1, r1, ry, z1⟩)) fun v s1 ⟨x, H1, I1, rx, F1, μ1, st1, d1, r1, rp, z1⟩ => ?_) hm
  exact hr pins s1 σ H1 x v Q I1 rx ⟨env, F1, μ1, st1, d1, r1, rp, z1⟩
end
end DV

set_option Elab.async false
set_option linter.all false
set_option maxRecDepth 100000
set_option maxHeartbeats 1000000
namespace DV
open PySem PySem.Spec PyProof.Rows L2
/-! ### a dict of constants under pairs of truth values, asked at once -/
abbrev QK (P : Program) (w : World) := tupleKind (leafKind P w)
abbrev lfB (b : Bool) : Leaf := .num (if b = true then 1 else 0)
theorem is_of {P : Program} {w : World} {h : Heap} {a : Addr} {x y : Bool} (p : IsTup h a #[.bool x, .bool y]) : (QK P w).is h [lfB x, lfB y] a := by
  obtain ⟨o, ho, hc, n, hd⟩ := p
  have e : ∀ z : Bool, (leafKind P w).is (lfB z) (.bool z) = true := fun z => by
    show Leaf.isOf (lfB z) (.bool z) = true
    simp [lfB, Leaf.isOf]
  exact ⟨o, _, n, ho, hc, hd, .cons (e x) (.cons (e y) .nil)⟩
section
variable {g : Gp} {X : Cx} {B : Bs} {Z : ZZ} {f : EF} {pins : List (Addr × Obj)} {σ : St} {H : Hp} {s : Shared}
theorem is_tracked (I : Inv X pins σ H s) {a : Addr} {x y : Bool} (h : H a = some (.tup [.bl x, .bl y])) : (QK X.prog X.w).is s.heap [lfB x, lfB y] a := by
  obtain ⟨its, rv, p, _⟩ := I.tuple (.of h)
  obtain ⟨u, v, rfl, r1, r2⟩ := vals2 rv
  have e1 : u = .bool x := r1
  have e2 : v = .bool y := r2
  subst e1 e2
  exact is_of p
theorem pair_step {b1 b2 : Bool} {n : Int} {i1 i2 k l : Nat} {p1 p2 q o r : Pos} {rest : List (Sem Value × Sem Value)} {Q : List (Value × Value) → Shared → Prop} (I : Inv X pins σ H s)
    (h : ∀ a t s', H a = none → Inv X pins σ (upd H a (.tup [.bl b1, .bl b2])) s' → wpAny (model X.prog X.w) X.A (evalPairs rest) (fun vs s2 => Q ((.ref a, .int n t) :: vs) s2) X.xe s') :
    wpAny (model X.prog X.w) X.A (evalPairs ((eval (.Tuple [.Constant (.bool b1) i1 p1, .Constant (.bool b2) i2 p2] k q) X.env, do let x ← eval (.Constant (.int n) l o) X.env; standAt r; pure x) :: rest)) Q X.xe s := by
  unfold evalPairs
  have tp : PE X (.Tuple [.Constant (.bool b1) i1 p1, .Constant (.bool b2) i2 p2] k q) (tTup (tCons (tC (.bl b1)) (tCons (tC (.bl b2)) tNil))) := pe_tup (pa_cons pe_bl (pa_cons pe_bl pa_nil))
  refine wpAny_bind (thn (tp.run pins s σ H (fun v H1 => ∃ a, v = .ref a ∧ H a = none ∧ H1 = upd H a (.tup [.bl b1, .bl b2])) I ⟨by show 2 ≤ sizeLine; decide, fun p hp => ⟨p, rfl, hp, rfl⟩⟩) fun u s1 ⟨v, H1, I1, r1, a, ev, ha, eH⟩ => ?_)
  subst ev eH
  obtain rfl : u = .ref a := r1
  refine wpAny_bind (wpAny_holding (wpAny_bind (thn ((pe_int (i := n) (j := l) (pos := o)).run pins s1 σ _ (fun v H2 => v = .int n ∧ H2 = upd H a (.tup [.bl b1, .bl b2])) I1 ⟨rfl, rfl⟩) fun w s2 ⟨v2, H2, I2, r2, ev2, eH2⟩ => wpAny_bind (wpAny_standAt (wpAny_pure ?_)))))
  subst ev2 eH2
  obtain ⟨t, rfl⟩ := r2
  exact wpAny_bind (wpAny_holding (wpAny_mono (h a t s2 ha I2) (fun vs s3 hq => wpAny_pure hq) fun _ _ z => z))
theorem dict_step {pairs : List (Sem Value × Sem Value)} {keys : List (Option Expr)} {values : List Expr} {pos : Pos} {Q : Value → Shared → Prop} {E : Value → Shared → Prop} (hu : X.A.units < cLine)
    (hshape : (evalEachOpt keys X.env).zip ((evalEach values X.env).map fun v => do let x ← v; standAt pos; pure x) = pairs.map fun p => (some p.1, p.2)) (h0 : pairs ≠ []) (hlen : pairs.length ≤ 15)
    (h : wpAny (model X.prog X.w) X.A (evalPairs pairs) (fun vs s₁ => ∃ ps, CarriesH (QK X.prog X.w) s₁.heap vs ps ∧ s₁.heap.DictOfH (QK X.prog X.w) s.heap.objs.size [] ∧
      ∀ h' tk, h'.DictOfH (QK X.prog X.w) s.heap.objs.size (storedAllH [] ps) → Heap.SameBut s.heap.objs.size s₁.heap h' → Q (.ref s.heap.objs.size) { s₁ with heap := h', toks := tk }) E
      { s with heap := s.heap.push { cls := .type "dict", data := .dict #[] } }) : wpAny (model X.prog X.w) X.A (eval (.Dict keys values pos) X.env) Q E s := by
  rw [arm_eval_Dict, hshape, dictDisplay_pairs pairs h0 (by omega)]
  exact wpAny_bind (wpAny_standAt (wpAny_bind (wpAny_subDictH (knd := QK X.prog X.w) (Q := fun d s' => wpAny (model X.prog X.w) X.A (pure (Value.ref d)) Q E s') hu hlen
    (wpAny_mono h (fun vs s₁ h₁ => by obtain ⟨ps, hc, hm, hq⟩ := h₁; exact ⟨ps, hc, hm, fun h' tk a b => wpAny_pure (hq h' tk a b)⟩) fun _ _ e => e))))
def quar (a b : Bool) : Int := if a then (if b then 1 else 7) else if b then 3 else 5
def eQuar (f : EF) : EF := fun env st => (f env st).bind fun d st => match d with
  | .tup [.bl a, .bl b] => .ok (.int (quar a b)) st
  | _ => .bad
theorem de_quar_core {keys : List (Option Expr)} {values : List Expr} {ix : Expr} {i1 i2 i3 i4 i5 i6 i7 i8 k1 k2 k3 k4 l1 l2 l3 l4 : Nat} {p1 p2 p3 p4 p5 p6 p7 p8 q1 q2 q3 q4 o1 o2 o3 o4 dp pos : Pos} (hu : X.A.units + 65 < cLine) (hf : DE g X B Z ix f) (hs : PlainIx ix)
    (hsh : (evalEachOpt keys X.env).zip
      ((evalEach values X.env).map fun v => do let x ← v; standAt dp; pure x) =
      [(eval (.Tuple [.Constant (.bool true) i1 p1, .Constant (.bool true) i2 p2] k1 q1) X.env, do let x ← eval (.Constant (.int 1) l1 o1) X.env; standAt dp; pure x), (eval (.Tuple [.Constant (.bool false) i3 p3, .Constant (.bool true) i4 p4] k2 q2) X.env, do let x ← eval (.Constant (.int 3) l2 o2) X.env; standAt dp; pure x),
        (eval (.Tuple [.Constant (.bool false) i5 p5, .Constant (.bool false) i6 p6] k3 q3) X.env, do let x ← eval (.Constant (.int 5) l3 o3) X.env; standAt dp; pure x), (eval (.Tuple [.Constant (.bool true) i7 p7, .Constant (.bool false) i8 p8] k4 q4) X.env, do let x ← eval (.Constant (.int 7) l4 o4) X.env; standAt dp; pure x)].map fun p => (some p.1, p.2)) :
    DE g X B Z (.Subscript (.Dict keys values dp) ix pos) (eQuar f) := by
  refine ⟨fun pins s σ H Q I ⟨env, F, μ, st, rl, z⟩ => ?_⟩
  refine Subscript_ ?_
  refine dict_step (by omega) hsh (by simp) (Nat.le_of_ble_eq_true rfl) ?_
  generalize hd : s.heap.objs.size = d
  have hdn : H d = none := I.hok.fresh (Nat.le_of_eq hd)
  have fd := I.fpOk (Nat.le_of_eq hd) hdn
  have hget : (s.heap.push { cls := .type "dict", data := .dict #[] }).get? d = some { cls := .type "dict", data := .dict #[] } := by rw [← hd]; exact Heap.get?_push_size _ rfl
  have hdict : (s.heap.push { cls := .type "dict", data := .dict #[] }).DictOfH (QK X.prog X.w) d [] := by rw [← hd]; exact Heap.DictOfH.new _
  have I0 : Inv X pins σ H { s with heap := s.heap.push { cls := .type "dict", data := .dict #[] } } := I.kept (t' := s.toks) fun b o e => Heap.get?_push_of_some _ e
  have I1 : Inv X (pins ++ [(d, { cls := .type "dict", data := .dict #[] })]) σ H { s with heap := s.heap.push { cls := .type "dict", data := .dict #[] } } := I0.pins_of fun p hp => by
    rcases List.mem_append.mp hp with hp | hp
    · exact I0.pin p (List.mem_append_right _ hp)
    · rw [List.mem_singleton.mp hp]
      exact ⟨hget, hdn, fd.2.1, fd.2.2.1, fun v z => nomatch z⟩
  refine pair_step I1 fun a1 t1 s1 h1 J1 => ?_
  refine pair_step J1 fun a2 t2 s2 h2 J2 => ?_
  refine pair_step J2 fun a3 t3 s3 h3 J3 => ?_
  refine pair_step J3 fun a4 t4 s4 h4 J4 => ?_
  have n1 : ∀ {a b : Addr} {G : Hp} {o : HO}, upd G a o b = none → b ≠ a ∧ G b = none := fun {a b G o} h => by
    by_cases e : b = a
    · subst e; rw [upd_same] at h; cases h
    · rw [upd_ne e] at h; exact ⟨e, h⟩
  obtain ⟨n21, h2'⟩ := n1 h2
  obtain ⟨n32, h3'⟩ := n1 h3
  obtain ⟨n31, h3''⟩ := n1 h3'
  obtain ⟨n43, h4'⟩ := n1 h4
  obtain ⟨n42, h4''⟩ := n1 h4'
  obtain ⟨n41, h4'''⟩ := n1 h4''
  generalize hH4 : upd (upd (upd (upd H a1 (.tup [.bl true, .bl true])) a2 (.tup [.bl false, .bl true])) a3 (.tup [.bl false, .bl false])) a4 (.tup [.bl true, .bl false]) = H4 at J4
  have w1 : H4 a1 = some (.tup [.bl true, .bl true]) := by rw [← hH4, upd_ne n41.symm, upd_ne n31.symm, upd_ne n21.symm, upd_same]
  have w2 : H4 a2 = some (.tup [.bl false, .bl true]) := by rw [← hH4, upd_ne n42.symm, upd_ne n32.symm, upd_same]
  have w3 : H4 a3 = some (.tup [.bl false, .bl false]) := by rw [← hH4, upd_ne n43.symm, upd_same]
  have w4 : H4 a4 = some (.tup [.bl true, .bl false]) := by rw [← hH4, upd_same]
  have go : Go F μ H F μ H4 ∧ Ok X.K g F μ H4 st := by
    rw [← hH4]
    exact ⟨(((Go.newH h1).trans (Go.newH h2)).trans (Go.newH h3)).trans (Go.newH h4), (((rl.ok.new h1).new h2).new h3).new h4⟩
  have hd4 : H4 d = none := (J4.pin (d, _) (List.mem_append_right _ (List.mem_append_right _ List.mem_cons_self))).2.1
  have hdict4 : s4.heap.DictOfH (QK X.prog X.w) d [] := by
    have e := (J4.pin (d, _) (List.mem_append_right _ (List.mem_append_right _ List.mem_cons_self))).1
    obtain ⟨o, es, ep, ho, hx, hda, he, _, hn⟩ := hdict
    rw [hget] at ho
    cases ho
    exact ⟨_, es, ep, e, hx, hda, he, ⟨fun x hx => (by cases hx), hn⟩⟩
  unfold evalPairs
  refine wpAny_pure ⟨[([lfB true, lfB true], a1, .int 1 t1), ([lfB false, lfB true], a2, .int 3 t2), ([lfB false, lfB false], a3, .int 5 t3), ([lfB true, lfB false], a4, .int 7 t4)], ⟨rfl, rfl, is_tracked J4 w1, rfl, rfl, is_tracked J4 w2, rfl, rfl, is_tracked J4 w3, rfl, rfl, is_tracked J4 w4, trivial⟩, hdict4, fun h' tk hdk hsb => ?_⟩
  have J5 : Inv X pins σ H4 s4 := J4.pins_of fun p hp => J4.pin p (List.mem_append_right _ (List.mem_append_left _ hp))
  have fd4 : FpOk X pins H4 d := ⟨hd4, fd.2⟩
  have J6 : Inv X pins σ H4 { s4 with heap := h', toks := tk } := J5.turned (t' := tk) (fun b o nb e => (hsb.2 b nb).trans e) hd4 fd4.2.1 fd4.2.2.2.1 fd4.2.2.2.2.1 fd4.2.2.2.2.2
  have hst : storedAllH ([] : List (List Leaf × Addr × Value)) [([lfB true, lfB true], a1, .int 1 t1), ([lfB false, lfB true], a2, .int 3 t2), ([lfB false, lfB false], a3, .int 5 t3), ([lfB true, lfB false], a4, .int 7 t4)] = [([lfB true, lfB true], a1, .int 1 t1), ([lfB false, lfB true], a2, .int 3 t2), ([lfB false, lfB false], a3, .int 5 t3), ([lfB true, lfB false], a4, .int 7 t4)] := by
    simp [storedAllH, storedH, atKey, lfB]
  rw [hst] at hdk
  obtain ⟨od, es, ep, ho, hx, hda, he, _, hn⟩ := hdk
  have J7 : Inv X (pins ++ [(d, od)]) σ H4 { s4 with heap := h', toks := tk } := J6.pins_of fun p hp => by
    rcases List.mem_append.mp hp with hp | hp
    · exact J6.pin p (List.mem_append_right _ hp)
    · rw [List.mem_singleton.mp hp]
      exact ⟨ho, hd4, fd4.2.1, fd4.2.2.1, fun v z => by rw [hda] at z; cases z⟩
  have out : ∀ a, H a = none → a ∉ μ := fun a h z => rl.ok.there z h
  refine thn (hf.run (pins ++ [(d, od)]) _ σ H4 (fun v H5 => ∃ a b F5 μ5 st5, f env st = .ok (.tup [.bl a, .bl b]) st5 ∧ Go F μ H F5 μ5 H5 ∧ Ok X.K g F5 μ5 H5 st5 ∧ Rep X.K F5 μ5 v (.tup [.bl a, .bl b]) ∧ Go F μ H4 F5 μ5 H5) J7 ⟨env, F, μ, st, rl.step go.1 go.2, ?_⟩) fun u s5 ⟨v, H5, J8, rv, a, b, F5, μ5, st5, ef, g5, k5, rp, g45⟩ => ?_
  · unfold eQuar at z
    cases q : f env st with
    | bad => rw [q] at z; exact z.elim
    | exc c s' => rw [q] at z; exact z
    | ok dd s' =>
      rw [q] at z
      dsimp only [DV.R.bind] at z
      split at z
      · intro F5 μ5 H5 x5 k5 v rv
        exact ⟨_, _, F5, μ5, s', rfl, go.1.trans x5, k5, rv, x5⟩
      · exact z.elim
  · have J9 : Inv X pins σ H5 s5 := J8.pins_of fun p hp => J8.pin p (List.mem_append_right _ (List.mem_append_left _ hp))
    have ho5 := (J8.pin (d, od) (List.mem_append_right _ (List.mem_append_right _ List.mem_cons_self))).1
    have tup5 : ∀ {a : Addr} {x y : Bool}, H4 a = some (.tup [.bl x, .bl y]) → H a = none → (QK X.prog X.w).is s5.heap [lfB x, lfB y] a := fun e hn => is_tracked J9 (g45.keep _ _ e (out _ hn) (fun ps z => by cases z))
    have hdk5 : s5.heap.DictOfH (QK X.prog X.w) d [([lfB true, lfB true], a1, .int 1 t1), ([lfB false, lfB true], a2, .int 3 t2), ([lfB false, lfB false], a3, .int 5 t3), ([lfB true, lfB false], a4, .int 7 t4)] := by
      refine ⟨od, es, ep, ho5, hx, hda, he, fun x hx => ?_, hn⟩
      simp only [List.mem_cons, List.not_mem_nil, or_false] at hx
      rcases hx with rfl | rfl | rfl | rfl
      · exact tup5 w1 h1
      · exact tup5 w2 h2'
      · exact tup5 w3 h3''
      · exact tup5 w4 h4'''
    cases rp with
    | @tup ta tvs _ hsq rr =>
      obtain rfl : u = .ref ta := rv
      obtain ⟨its, rv2, p, _⟩ := J9.tuple (k5.sub.t hsq)
      obtain ⟨v1, v2, rfl, r1, r2⟩ := reps2 rr
      cases r1
      cases r2
      obtain ⟨u1, u2, rfl, e1, e2⟩ := vals2 rv2
      have e1 : u1 = .bool a := e1
      have e2 : u2 = .bool b := e2
      subst e1 e2
      have hk := is_of (P := X.prog) (w := X.w) p
      have hat : ∃ ad t, atKey [([lfB true, lfB true], a1, Value.int 1 t1), ([lfB false, lfB true], a2, .int 3 t2), ([lfB false, lfB false], a3, .int 5 t3), ([lfB true, lfB false], a4, .int 7 t4)] [lfB a, lfB b] = some (ad, .int (quar a b) t) := by
        cases a <;> cases b <;> simp [atKey, lfB, quar]
      obtain ⟨ad, t, hat⟩ := hat
      unfold eQuar at z
      rw [ef] at z
      exact tail_any hdk5.typeIs slot_dict_getitem.lookup (wpAny_getItem_heap (knd := QK X.prog X.w) (by show X.A.units + 1 < cLine; omega) hk hdk5 hat ⟨.int (quar a b), H5, J9.tok _, ⟨t, rfl⟩, z F5 μ5 H5 g5 k5 _ (.int _)⟩) (hs _ _)
theorem de_quar {ix : Expr} {i1 i2 i3 i4 i5 i6 i7 i8 k1 k2 k3 k4 l1 l2 l3 l4 : Nat} {p1 p2 p3 p4 p5 p6 p7 p8 q1 q2 q3 q4 o1 o2 o3 o4 dp pos : Pos} (hu : X.A.units + 65 < cLine) (hf : DE g X B Z ix f) (hs : PlainIx ix) :
    DE g X B Z (.Subscript (.Dict [some (.Tuple [.Constant (.bool true) i1 p1, .Constant (.bool true) i2 p2] k1 q1), some (.Tuple [.Constant (.bool false) i3 p3, .Constant (.bool true) i4 p4] k2 q2), some (.Tuple [.Constant (.bool false) i5 p5, .Constant (.bool false) i6 p6] k3 q3), some (.Tuple [.Constant (.bool true) i7 p7, .Constant (.bool false) i8 p8] k4 q4)]
      [.Constant (.int 1) l1 o1, .Constant (.int 3) l2 o2, .Constant (.int 5) l3 o3, .Constant (.int 7) l4 o4] dp) ix pos) (eQuar f) := de_quar_core (k1 := k1) (k2 := k2) (k3 := k3) (k4 := k4) (i1 := i1) (i2 := i2) (i3 := i3) (i4 := i4) (i5 := i5) (i6 := i6) (i7 := i7) (i8 := i8) (l1 := l1) (l2 := l2) (l3 := l3) (l4 := l4) (p1 := p1) (p2 := p2) (p3 := p3) (p4 := p4) (p5 := p5) (p6 := p6) (p7 := p7) (p8 := p8) (q1 := q1) (q2 := q2) (q3 := q3) (q4 := q4) (o1 := o1) (o2 := o2) (o3 := o3) (o4 := o4) hu hf hs rfl
end
end DV

set_option Elab.async false
set_option linter.all false
set_option maxRecDepth 100000
set_option maxHeartbeats 1000000
namespace DV
open PySem PySem.Spec PyProof.Rows L2
open LamX (Tabs TabS ExtN CodeO TabB LamS lamCx lamEnv)
/-- a made lambda -/
structure LmI where
  params : Arguments
  body : Expr
  scope : Scope
  f : Addr
  c : Addr
  pm : Value
  ct : Value
abbrev LmI.obj (l : LmI) (X : Cx) : Obj := PySem.W.kla_obj "<lambda>" (X.env.qual ++ "<lambda>") l.params l.body l.scope (cloFrom X.env.cells l.scope.names []) l.pm l.c l.ct
/-- all of them end by the exception n -/
def badsD (n : Nat) : List EF → List Sl → List O → R Unit
  | [], _, st => .ok () st
  | f :: fs, env, st => match f (unlin env) st with
    | .exc c st' => if c = n then badsD n fs env st' else .bad
    | _ => .bad
section
variable {g : Gp} {X : Cx} {B : Bs}
/-- what a lambda needs of the text -/
structure LmOk (g : Gp) (X : Cx) (k : Nat) (l : LmI) (f : EF) : Prop where
  s : LamS X.env.scope l.scope
  b : LamOk g X k l.scope l.body f
  bind : ∀ (q : Str) (cl : List (Str × Addr)) (pm cv ctv : Value), bindArgs (PySem.W.kla_fn "<lambda>" q l.params l.body l.scope cl pm cv ctv) ⟨[], []⟩ = pure []
/-- the def called with a made lambda, from a block in X -/
theorem told_at {n k : Nat} {ret x a2 : Str} {p p2 pos : Pos} {l : LmI} {f : EF} {scope : Scope} {ce : Env} {fp : List Addr} {s3 : Shared} {H3 : Hp} {pins : List (Addr × Obj)} {σ : St} {i2 : Nat} (T : ToldF g X n ret x) (hr : Room (k + 2) X.A) (ok : LmOk g X k l f) (I3 : Inv X pins σ H3 s3) (hfs : X.env.frame = some X.env.locals ∧ X.stack = X.env :: X.outer)
    (hfp : ∀ b ∈ fp, FpOk X pins H3 b) (hpn : (l.f, l.obj X) ∈ X.pn) (hg : Gl (X.blk s3 H3 scope ce fp) x) (hN : X.N[i2]? = some a2) (hv : Vis ce.scope a2) (hdb : (x == ("__debug__" : Str)) = false) (hd2 : (a2 == ("__debug__" : Str)) = false) (hc2 : (a2 == ("__classdict__" : Str)) = false)
    (he : starEach [.Name a2 p2] ce = (false, eval (.Name a2 p2) ce) :: starEach [] ce) :
    PE (X.blk s3 H3 scope ce fp) (.Call (.Name x p) [.Name a2 p2] [] pos) (fun σY HY Q => σY[i2]? = some (some (.ref l.f)) ∧ HY l.c = some (CodeO l.c (X.env.qual ++ "<lambda>")) ∧ ∃ env F μ st Z, Rl X.K g B F μ HY env st σ ∧ Aft X.K g F μ HY Z (eTold n ret f env st) fun d _ F' μ' H' => ∀ v, Rep X.K F' μ' v d → Q v H') := by
  obtain ⟨gT, cT, fd, stT, a, e, Ng, CS, j, p1', p2', p3, p4, p5, p6, p7, p8, Fu, hm, hbd, Sg, hNg, hvg, hbody, hge, hme, hde, hda, hca, hex⟩ := T.ex
  obtain ⟨oc, od, dV, kV, doc, pm, an, ct, osl, rfl, lk⟩ := Fu.ex
  have G := LamX.told_gives (X := X) (Ng := Ng) (x := x) (a := a) (e := e) (q := X.env.qual ++ "<lambda>") (ret := ret) (sg := defScope stT) (g := gT) (CS := CS) (cdg := .ref cT) (j := j) (p1 := p1') (p2 := p2') (p3 := p3) (p4 := p4) (p5 := p5) (p6 := p6) (p7 := p7) (p8 := p8) hge hme hde (fun f => start0 hNg)
  rw [← hbody] at G
  refine ⟨fun pinsY sY σY HY Q IY ⟨hs, hco, env, F, μ, st, Z, rl, z⟩ => ?_⟩
  refine wpAny_Call_Name_kw (ld_glob IY hg hm ?_ hdb)
  have ha : PA (X.blk s3 H3 scope ce fp) [.Name a2 p2] (tCons (tVar i2) tNil) := pa_cons (pe_var hN hv hd2 hc2) pa_nil he
  refine PySem.W.callWith_K (h₀ := X.base) IY.ok.mod.kin Fu.kp (thn (ha.run pos pinsY sY σY HY (fun vs H1 => vs = [.ref l.f] ∧ H1 = HY) IY ⟨.ref l.f, hs, rfl, rfl⟩) fun us s1 ⟨vs, H1, I1, r1, ev, eH⟩ => ?_) he (by rfl)
  subst ev eH
  refine ⟨I1.kIn, ?_⟩
  obtain ⟨u, rfl, ru⟩ := vals1 r1
  cases ru
  have IX : Inv X pins σ H1 s1 := I3.call' (ch := fp) I1.os I1.base I1.hok I1.bare fun b hb => ⟨(hfp b hb).2.2.2.1, (hfp b hb).2.1, (hfp b hb).2.2.2.2.1, (hfp b hb).2.2.2.2.2⟩
  obtain ⟨hf, hfn, hfl, hff, _⟩ := IX.pin (l.f, l.obj X) (List.mem_append_left _ hpn)
  have hfr : l.f ∉ frs X.stack := fun z => by
    rcases List.mem_cons.mp (IX.stkSub _ z) with q | q
    · exact hfl q
    · exact hff q
  have rc : codeAny (model X.prog X.w) X.A (.call (.ref gT) ⟨[.ref l.f], []⟩) (CR C8.CX0 X.stack X.prog X.w H1 s1 Q C8.E0) s1 := by
    refine LamX.run_ofS (N := Ng) (ps := [a]) (us := [.ref l.f]) (vs := [.ref l.f]) lk Fu.code Sg hr IX.env0 (hbd s1 [.ref l.f] IX.kIn rfl) (.cons rfl .nil) rfl fun hr' => ?_
    obtain ⟨t', ht', hq'⟩ := G l.f l.c s1 H1 Q (fun E H' Q' => tLamB X.K g f E σ H' Q') (fun W pn xe E q1 q2 tk hW => LamX.pe_act (i := 0) IX ok.s hf hfn hfr (ok.bind _ _ _ _ _) tk hW hr' (fun A outer s H hr2 => ok.b.body A outer s H E l.f l.c hr2) hNg hvg hda hca) hco (told_of hex rl (ExtN.refl _) rl.ok.tab z)
    exact ⟨t', ht'.nox, hq'⟩
  refine wpAny_call (codeAny_mono rc fun r s2 hq => ?_)
  cases r with
  | error e => exact (show False from hq).elim
  | ok fl =>
    cases fl with
    | ret u => exact I1.after hq
    | next => exact False.elim hq
    | brk => exact False.elim hq
    | cont => exact False.elim hq
theorem badsD_step {n : Nat} {ret : Str} {f : EF} {fs : List EF} {env : List Sl} {st st' : List O} (h : badsD n (f :: fs) env st = .ok () st') : ∃ s1, eTold n ret f env st = .ok (.str ret) s1 ∧ badsD n fs env s1 = .ok () st' := by
  unfold badsD at h
  unfold eTold
  cases q : f (unlin env) st with
  | ok d s1 => rw [q] at h; cases h
  | bad => rw [q] at h; cases h
  | exc c s1 =>
    rw [q] at h
    dsimp only at h ⊢
    split at h
    · rename_i hc
      rw [if_pos hc]
      exact ⟨s1, rfl, h⟩
    · cases h
/-- [1 for f in bad if told(f) != '..']: the empty list -/
def tBads (X : Cx) (g : Gp) (B : Bs) (n : Nat) (ib : Nat) (L : Addr) (ls : List LmI) (fs : List EF) : TE := fun σ H Q => ∃ env F μ st st', Rl X.K g B F μ H env st σ ∧ σ[ib]? = some (some (.ref L)) ∧ H L = some (.lst (ls.map fun l => V.ref l.f)) ∧ L ∉ μ ∧ (∀ l ∈ ls, H l.c = some (CodeO l.c (X.env.qual ++ "<lambda>")) ∧ l.c ∉ μ) ∧
  badsD n fs env st = .ok () st' ∧ ∀ F' μ' H', Go F μ H F' μ' H' → Ok X.K g F' μ' H' st' → ∀ v, Rep X.K F' μ' v (.lst []) → Q v H'
theorem codeO_nt {c : Addr} {q : Str} : ∀ ps, CodeO c q ≠ .tbl ps := fun ps => LamX.codeO_ne ps
theorem pe_bads {n k ib i2 : Nat} {ret x xb a2 : Str} {L : Addr} {ls : List LmI} {fs : List EF} {scope : Scope} {own : List (Str × Nat)} {j1 j2 : Nat} {pe1 pt pb px p2 pc ps pm pos : Pos} (hcalm : X.calm = true) (hND : X.N.Nodup) (T : ToldF g X n ret x) (hr : Room (k + 2) X.A) (hfs : X.env.frame = some X.env.locals ∧ X.stack = X.env :: X.outer)
    (hN : X.N[i2]? = some a2) (hNb : X.N[ib]? = some xb) (hvb : Vis X.env.scope xb) (hgt : (∀ (s : Shared) (H : Hp) (C : Addr) (cl : List (Str × Addr)) (fp : List Addr), Gl (X.blk s H scope (compEnvC scope cl C X.env) fp) x)) (hown : own = [(a2, i2)]) (ok : BlkOk X.N X.env.scope scope own)
    (hl2 : ∀ (C : Addr) (cl : List (Str × Addr)), Loc (compEnvC scope cl C X.env).scope a2) (hlf : ∀ (s : Shared) (H : Hp) (C : Addr) (cl : List (Str × Addr)) (fp : List Addr), (X.blk s H scope (compEnvC scope cl C X.env) fp).fn a2 = true ∨ (compEnvC scope cl C X.env).scope.names.lookup a2 = some .local)
    (hv2 : ∀ (C : Addr) (cl : List (Str × Addr)), Vis (compEnvC scope cl C X.env).scope a2) (hlen : fs.length = ls.length) (hsh : SeqAt.shaped (PyData.str ret) = true) (hev : PyData.eqv (.str ret) (.str ret) = true) (hall : ∀ (i : Nat) l f, ls[i]? = some l → fs[i]? = some f → LmOk g X k l f) (hpn : ∀ l ∈ ls, (l.f, l.obj X) ∈ X.pn)
    (hu : X.A.units + 65 < cLine) (hdb : (x == ("__debug__" : Str)) = false := by decide) (hd2 : (a2 == ("__debug__" : Str)) = false := by decide) (hc2 : (a2 == ("__classdict__" : Str)) = false := by decide) (hdbb : (xb == ("__debug__" : Str)) = false := by decide) (hcb : (xb == ("__classdict__" : Str)) = false := by decide) :
    PE X (.ListComp (.Constant (.int 1) j1 pe1) [⟨.Name a2 pt, .Name xb pb, [.Compare (.Call (.Name x px) [.Name a2 p2] [] pc) [.NotEq] [.Constant (.str ret) j2 ps] pm], 0⟩] scope pos) (tBads X g B n ib L ls fs) := by
  refine ⟨fun pins s σ H Q I h => ?_⟩
  obtain ⟨env, F, μ, st, st', rl, hσ, hL, hLm, hcs, hbd, hQ⟩ := h
  have hfree : ∀ y ∈ scope.names, y.2 = .free → ∃ c, X.env.cells.lookup y.1 = some c := fun y hy e => by
    rcases ok.free y hy e with k | k
    · exact I.ok.has _ (.inl k)
    · exact I.ok.has _ (.inr k)
  rw [eval_ListComp]
  have hi := (pi_list (X := X) (tg := .Name a2 pt) (pe_var (pos := pb) hNb hvb hdbb hcb)).run pins s σ H (fun J H1 => J = Itl X.K L ∧ H1 = H) I ⟨.ref L, hσ, L, rfl, ⟨_, .of hL⟩, rfl, rfl⟩
  refine wpAny_comprehension_free (use := none) rfl (fun _ => rfl) (closure_ok hfree) ok.kind (fun y hy e => by rw [ok.uniq y hy, e]) (thn hi fun xv s1 hx => thn hx fun itv s2 h2 => ?_)
  obtain ⟨it, fp, tn, J, H2, e, I2, T2, st2, f2, eJ, eH⟩ := h2
  subst e eJ eH
  refine wpAny_newObj_type (newEnv_comp ?_) (by show 0 ≤ sizeLine; decide)
  generalize hD : s2.heap.objs.size = D
  have hDn : H2 D = none := I2.hok.fresh (Nat.le_of_eq hD)
  generalize hs3 : ({ s2 with heap := s2.heap.push { cls := .type "list", data := .seq ([] : List Value).toArray } } : Shared) = s3
  have h3 : s3.heap = s2.heap.push { cls := .type "list", data := .seq ([] : List Value).toArray } := by rw [← hs3]
  have I3 : Inv X pins σ (upd H2 D (.lst [])) s3 := by
    rw [← hs3]
    refine I2.laid (t' := s2.toks) (fun b o e => Heap.get?_push_of_some _ e) (Nat.le_of_eq hD) ⟨Nat.zero_le _, [], 0, .nil, ?_⟩
    rw [← hD]
    exact Heap.get?_push_size _ rfl
  have sz : ∀ b ∈ fp, b < s2.heap.objs.size := fun b hb => by
    obtain ⟨o, e, _⟩ := T2.obj _ _ st2 b hb
    exact Heap.lt_size e
  have f3 : ∀ b ∈ fp, FpOk X pins (upd H2 D (.lst [])) b ∧ b < s3.heap.objs.size := fun b hb => by
    have hlt := sz b hb
    refine ⟨⟨?_, (f2 b hb).2⟩, by rw [h3, Heap.size_push]; exact Nat.lt_succ_of_lt hlt⟩
    rw [upd_ne (by rw [← hD]; exact Nat.ne_of_lt hlt)]
    exact (f2 b hb).1
  have st3 : tn 0 s3.heap := T2.keep _ _ _ st2 fun b _ o e => by rw [h3]; exact Heap.get?_push_of_some _ e
  have hDm : D ∉ μ := fun z => rl.ok.there z hDn
  have k3 : Ok X.K g F μ (upd H2 D (.lst [])) st := rl.ok.new hDn
  have g3 : Go F μ H2 F μ (upd H2 D (.lst [])) := Go.newH hDn
  have hL3 : upd H2 D (.lst []) L = some (.lst (ls.map fun l => V.ref l.f)) := by rw [upd_ne (ne_of_none hL hDn)]; exact hL
  have I4 := block_start I3 ok hND f3
  -- the block's rules, at its state
  have pt1 : ∀ (l : LmI) (f : EF), l ∈ ls → LmOk g X k l f → PT (X.blk s3 (upd H2 D (.lst [])) scope (compEnvC scope (cellsFrom (s3.heap.objs.size + 1) scope.names (cloFrom X.env.cells scope.names [])) s3.heap.objs.size X.env) fp) (.Compare (.Call (.Name x px) [.Name a2 p2] [] pc) [.NotEq] [.Constant (.str ret) j2 ps] pm)
      (tTest (tOp (rNeD X.K) (fun σY HY Q => σY[i2]? = some (some (.ref l.f)) ∧ HY l.c = some (CodeO l.c (X.env.qual ++ "<lambda>")) ∧ ∃ env F μ st Z, Rl X.K g B F μ HY env st σ ∧ Aft X.K g F μ HY Z (eTold n ret f env st) fun d _ F' μ' H' => ∀ v, Rep X.K F' μ' v d → Q v H') (tC (.str ret)))) := fun l f hl hok =>
    pt_cmpR (op_neD (by show X.A.units + 64 < cLine; omega)) (told_at T hr hok I3 hfs (fun b hb => (f3 b hb).1) (hpn l hl) (hgt _ _ _ _ _) hN (hv2 _ _) hdb hd2 hc2 rfl) pe_str (nomark _)
  have pg1 := pg_name (X := X.blk s3 (upd H2 D (.lst [])) scope (compEnvC scope (cellsFrom (s3.heap.objs.size + 1) scope.names (cloFrom X.env.cells scope.names [])) s3.heap.objs.size X.env) fp) (pos := pt) hND hN (hl2 _ _) (hlf _ _ _ _ _)
  show codeAny _ _ (.compStart (.ListComp (.Constant (.int 1) j1 pe1) [⟨.Name a2 pt, .Name xb pb, [.Compare (.Call (.Name x px) [.Name a2 p2] [] pc) [.NotEq] [.Constant (.str ret) j2 ps] pm], 0⟩] scope pos) 0 (.ref it) (.ref D) (compEnvC scope (cellsFrom (s3.heap.objs.size + 1) scope.names (cloFrom X.env.cells scope.names [])) s3.heap.objs.size X.env)) (compPost (model X.prog X.w) X.A X.xe none (EP X pins σ Q) (.ref D) s3.heap.objs.size) { s3 with heap := pushCells (s3.heap.push { cls := .type "dict", data := .dict #[] }) scope.names }
  have nfp : ∀ b ∈ fp, (upd H2 D (.lst [])) b = none := fun b hb => (f3 b hb).1.1
  generalize hce : compEnvC scope (cellsFrom (s3.heap.objs.size + 1) scope.names (cloFrom X.env.cells scope.names [])) s3.heap.objs.size X.env = ce at I4 pt1 pg1 ⊢
  have cL : ce.locals = s3.heap.objs.size := by subst hce; rfl
  generalize hH3 : upd H2 D (.lst []) = H3 at I3 I4 pt1 pg1 nfp f3 k3 g3 hL3
  have hD3 : H3 D = some (.lst []) := by rw [← hH3]; exact upd_same
  generalize hs4 : ({ s3 with heap := pushCells (s3.heap.push { cls := .type "dict", data := .dict #[] }) scope.names } : Shared) = s4 at I4 ⊢
  have st4 : tn 0 s4.heap := T2.keep _ _ _ st3 fun b _ o e => by rw [← hs4]; exact pushCells_keeps _ _ _ _ (Heap.get?_push_of_some _ e)
  have stat : ∀ {σ' : St} {H' : Hp} {s' : Shared}, Inv (X.blk s3 H3 scope ce fp) [] σ' H' s' → (∀ b ∈ fp, H' b = none) → ∀ b ∈ fp, FpOk (X.blk s3 H3 scope ce fp) [] H' b := fun {σ' H' s'} I' hn b hb =>
    ⟨hn b hb, (I'.ok.exf b hb).1, I'.ok.exfs b hb, .inl hb, fun x c e => (I'.ok.exf b hb).2 x c e, fun p hp => absurd (show p ∈ ([] : List (Addr × Obj)) ++ [] from hp) (by simp)⟩
  have hcalmY : (X.blk s3 H3 scope ce fp).calm = true := hcalm
  have rl3 : Rl X.K g B F μ H3 env st σ := rl.step g3 k3
  have loop : codeAny (model X.prog X.w) X.A (.compLoop (.ListComp (.Constant (.int 1) j1 pe1) [⟨.Name a2 pt, .Name xb pb, [.Compare (.Call (.Name x px) [.Name a2 p2] [] pc) [.NotEq] [.Constant (.str ret) j2 ps] pm], 0⟩] scope pos) 0 (.ref it) (.ref D) ce) (compPost (model X.prog X.w) X.A X.xe none (EP X pins σ Q) (.ref D) s3.heap.objs.size) s4 := by
    refine compLoop_any (fun m s' => ∃ i H', Inv (X.blk s3 H3 scope ce fp) [] (L2.wipe σ (own.map (·.2))) H' s' ∧ tn i s'.heap ∧ (∀ b ∈ fp, H' b = none) ∧ m = ls.length - i ∧ i ≤ ls.length ∧ ∃ F' μ' st1, Rl X.K g B F' μ' H' env st1 σ ∧ Go F μ H3 F' μ' H' ∧ badsD n (fs.drop i) env st1 = .ok () st') ?_ ls.length
      ⟨0, H3, I4, st4, nfp, rfl, Nat.zero_le _, F, μ, st, rl3, Go.refl, by rw [List.drop_zero]; exact hbd⟩
    rintro m s5 ⟨i, H5, I5, st5, n5, rfl, hi5, F5, μ5, st1, rl5, g5, hb5⟩
    have hL5 : H5 L = some (.lst (ls.map fun l => V.ref l.f)) := g5.keep _ _ hL3 hLm (fun ps z => by cases z)
    by_cases hlt : i < ls.length
    · obtain ⟨l, hl⟩ : ∃ l, ls[i]? = some l := ⟨_, List.getElem?_eq_getElem hlt⟩
      obtain ⟨f, hf⟩ : ∃ f, fs[i]? = some f := ⟨_, List.getElem?_eq_getElem (by rw [hlen]; exact hlt)⟩
      have hlm : l ∈ ls := List.mem_of_getElem? hl
      rw [drop_at hf] at hb5
      obtain ⟨st6, ht6, hb6⟩ := badsD_step (ret := ret) hb5
      have go5 : (Itl X.K L).go i H5 := ⟨_, .ref l.f, .of hL5, by rw [List.getElem?_map, hl]; rfl⟩
      refine thnF (T2.item (X.blk s3 H3 scope ce fp) rfl rfl rfl hcalmY i [] s5 _ H5 (fun _ _ => False) I5 (stat I5 n5) st5 go5) fun r s6 ⟨u, hr6, h6⟩ => ?_
      subst hr6
      refine thnF h6 fun _ s7 ⟨xv, H7, I7, r7, ⟨eH7, hx7⟩, st7, n7⟩ => ?_
      subst eH7
      have ex : xv = .ref l.f := by
        have z := hx7 _ (.of hL5)
        rw [List.getElem?_map, hl] at z
        exact (Option.some.inj z).symm
      subst ex
      have I7' := I7.pinned (stat I7 n7) (T2.obj _ _ st7)
      refine thnF (pg1.run _ s7 _ H7 (.ref l.f) u (fun σ8 H8 => σ8 = (L2.wipe σ (own.map (·.2))).set i2 (some (.ref l.f)) ∧ H8 = H7) I7' r7 ⟨rfl, rfl⟩) fun _ s8 ⟨σ8, H8, I8, e8, eH8⟩ => ?_
      subst e8 eH8
      have hw8 : ((L2.wipe σ (own.map (·.2))).set i2 (some (V.ref l.f)))[i2]? = some (some (.ref l.f)) := by
        refine List.getElem?_set_self ?_
        rw [wipe_length, I3.len]
        exact (List.getElem?_eq_some_iff.mp hN).1
      have hc8 : H8 l.c = some (CodeO l.c (X.env.qual ++ "<lambda>")) := g5.keep _ _ (g3.keep _ _ (hcs l hlm).1 (hcs l hlm).2 codeO_nt) (hcs l hlm).2 codeO_nt
      refine thnF (wpAny_tests_one ((pt1 l f hlm (hall i l f hl hf)).run _ s8 _ H8 (fun b H9 => b = false ∧ ∃ F9 μ9, Go F5 μ5 H8 F9 μ9 H9 ∧ Ok X.K g F9 μ9 H9 st6) I8 ⟨hw8, hc8, env, F5, μ5, st1, Z0, rl5, ?_⟩)) fun b s9 ⟨H9, I9, q9, F9, μ9, g9, k9⟩ => ?_
      · rw [ht6]
        intro F9 μ9 H9 x9 k9 v rv
        cases rv
        refine ⟨.str ret, .str ret, .str _, .str _, hsh, hsh, ?_⟩
        exact ⟨false, by rw [hev]; rfl, rfl, F9, μ9, x9, k9⟩
      · subst q9
        simp only [Bool.false_eq_true, if_false]
        have pin' : ∀ b ∈ fp, ∀ o, s7.heap.get? b = some o → s9.heap.get? b = some o ∧ H9 b = none := fun b hb o e =>
          let z := I9.pin (b, o) (List.mem_append_right _ (List.mem_append_right _ (mem_pinsAt hb e)))
          ⟨z.1, z.2.1⟩
        refine ⟨ls.length - (i + 1), by omega, i + 1, H9, (I9.unpinned (pins := [])).weak (by rw [List.length_set]) (fun j v e => ?_), T2.keep _ _ _ st7 fun b hb o e => (pin' b hb o e).1, fun b hb => ?_, rfl, hlt, F9, μ9, st6, rl5.step g9 k9, g5.trans g9, hb6⟩
        · rw [hown] at e ⊢
          have z := (wipe_some e).2
          rw [List.getElem?_set_ne (fun w => z (by rw [← w]; exact List.mem_cons_self))]
          exact e
        · obtain ⟨o, e, _⟩ := T2.obj _ _ st7 b hb
          exact (pin' b hb o e).2
    · have ei : i = ls.length := by omega
      subst ei
      have stop5 : (Itl X.K L).stop ls.length H5 := ⟨_, .of hL5, by rw [List.length_map]; exact Nat.le_refl _⟩
      refine thnF (T2.done (X.blk s3 H3 scope ce fp) rfl rfl rfl hcalmY _ [] s5 _ H5 (fun _ _ => False) I5 (stat I5 n5) st5 stop5) fun r s6 ⟨hr6, I6⟩ => ?_
      subst hr6
      have I7 : Inv X pins σ H5 s6 := I3.call' (ch := fp) I6.os I6.base I6.hok I6.bare fun b hb => ⟨(f3 b hb).1.2.2.2.1, (f3 b hb).1.2.1, (f3 b hb).1.2.2.2.2.1, (f3 b hb).1.2.2.2.2.2⟩
      have nC : H5 s3.heap.objs.size = none := by
        have z : H5 ce.locals = none := I6.free
        rw [cL] at z
        exact z
      obtain ⟨m, hn, _⟩ := I6.loc
      have hn : s6.heap.Ns ce.locals m := hn
      rw [cL] at hn
      obtain ⟨f0, f1, f2', f3', f4, f5⟩ := I3.fpOk (Nat.le_refl _) nC
      rw [← hlen, List.drop_length] at hb5
      have hb5 : R.ok () st1 = R.ok () st' := hb5
      cases hb5
      have hD5 : H5 D = some (.lst []) := g5.keep _ _ hD3 hDm (fun ps z => by cases z)
      have hDF : F5 D = none := g5.new D (rl.ok.fresh hDn) (live_lst hD3)
      obtain ⟨sb, k9⟩ := rl5.ok.frz hDF (g5.notin hDm (live_lst hD3)) hD5
      refine ⟨m, hn, fun h'' sb2 => ⟨.ref D, H5, I7.turned (fun b o nb e => (sb2.2 b nb).trans e) f0 f1 f3' f4 f5, rfl, hQ _ _ _ ((g3.trans g5).frz (nl hDn) hDF) k9 _ (.lst upd_same .nil)⟩⟩
  exact codeAny_compStart_list loop (T2.self X.A 0 _ _ _ st4 loop)
end
end DV

set_option Elab.async false
set_option linter.all false
set_option maxRecDepth 100000
set_option maxHeartbeats 1000000
namespace DV
open PySem PySem.Spec PyProof.Rows L2
open LamX (Tabs TabS ExtN CodeO TabB LamS lamCx lamEnv)
/-- a lambda as it is written -/
structure LmE where
  params : Arguments
  body : Expr
  scope : Scope
  pos : Pos
abbrev LmE.expr (l : LmE) : Expr := .Lambda l.params l.body l.scope l.pos
abbrev LmI.of (e : LmE) (f c : Addr) (pm ct : Value) : LmI := ⟨e.params, e.body, e.scope, f, c, pm, ct⟩
section
variable {g : Gp} {X : Cx} {B : Bs} {Z : ZZ}
structure LmEk (g : Gp) (X : Cx) (k : Nat) (e : LmE) (f : EF) : Prop where
  s : LamS X.env.scope e.scope
  b : LamOk g X k e.scope e.body f
  bind : ∀ (q : Str) (cl : List (Str × Addr)) (pm cv ctv : Value), bindArgs (PySem.W.kla_fn "<lambda>" q e.params e.body e.scope cl pm cv ctv) ⟨[], []⟩ = pure []
  dfl : defaultsOf e.params X.env = ([], [])
inductive LmEs (g : Gp) (X : Cx) (k : Nat) : List LmE → List EF → Prop
  | nil : LmEs g X k [] []
  | cons {e f es fs} : LmEk g X k e f → LmEs g X k es fs → LmEs g X k (e :: es) (f :: fs)
/-- as they are made -/
inductive Mk : List LmE → List LmI → Prop
  | nil : Mk [] []
  | cons {e f c pm ct es ls} : Mk es ls → Mk (e :: es) (.of e f c pm ct :: ls)
theorem LmEs.len {k : Nat} : ∀ {es : List LmE} {fs : List EF} {ls : List LmI}, LmEs g X k es fs → Mk es ls → fs.length = ls.length
  | [], _, _, .nil, .nil => rfl
  | _ :: _, _, _, .cons _ r, .cons m => by simp only [List.length_cons, r.len m]
theorem LmEs.at {k : Nat} : ∀ {es : List LmE} {fs : List EF} {ls : List LmI}, LmEs g X k es fs → Mk es ls → ∀ (i : Nat) l f, ls[i]? = some l → fs[i]? = some f → LmOk g X k l f
  | _, _, _, .nil, .nil, i, l, f, h, _ => by simp at h
  | _, _, _, .cons h r, .cons m, 0, l, f, h1, h2 => by
    cases h1
    cases h2
    exact ⟨h.s, h.b, h.bind⟩
  | _, _, _, .cons h r, .cons m, i + 1, l, f, h1, h2 => r.at m i l f h1 h2
theorem not_frs {f : Addr} (hfs : X.env.frame = some X.env.locals ∧ X.stack = X.env :: X.outer) (h : f ∉ frs X.stack) : f ≠ X.env.locals ∧ f ∉ X.fs := by
  rw [hfs.2] at h
  unfold frs at h
  rw [List.filterMap_cons, hfs.1] at h
  exact ⟨fun z => h (by rw [z]; exact List.mem_cons_self), fun z => h (List.mem_cons_of_mem _ z)⟩
/-- they are made one behind another -/
theorem lams_make {c P : Addr} {pos : Pos} {E : Value → Shared → Prop} {k : Nat} (TB : TabB X.base X.mg c P) (hcode : X.env.code = .ref c) (hm : (P, X.env.qual ++ "<lambda>") ∈ g.T) (hu : ∀ p ∈ g.T, p.1 = P → p.2 = X.env.qual ++ "<lambda>") (hfs : X.env.frame = some X.env.locals ∧ X.stack = X.env :: X.outer) {σ : St} :
    ∀ {es : List LmE} {fs : List EF}, LmEs g X k es fs → ∀ {pins : List (Addr × Obj)} {H : Hp} {s : Shared} {Q : List Value → Shared → Prop}, Inv X pins σ H s → Tabs g.T H →
    (∀ (ls : List LmI) H1 s', Mk es ls → (∃ pins', Inv X pins' σ H1 s' ∧ (∀ p ∈ pins, p ∈ pins') ∧ ∀ l ∈ ls, (l.f, l.obj X) ∈ pins') → ExtN H H1 → Tabs g.T H1 → (∀ l ∈ ls, H1 l.c = some (CodeO l.c (X.env.qual ++ "<lambda>"))) → Q (ls.map fun l => .ref l.f) s') →
    wpAny (model X.prog X.w) X.A (spliced (backTo pos (starEach (es.map LmE.expr) X.env))) Q E s
  | [], _, .nil, pins, H, s, Q, I, t, h => by
    refine Calls.spliced_nil ?_
    exact h [] H s .nil ⟨pins, I, fun _ z => z, fun l hl => absurd hl (by simp)⟩ (ExtN.refl H) t fun l hl => absurd hl (by simp)
  | e :: es, _, .cons he r, pins, H, s, Q, I, t, h => by
    have hs : starEach ((e :: es).map LmE.expr) X.env = (false, eval e.expr X.env) :: starEach (es.map LmE.expr) X.env := rfl
    rw [hs]
    show wpAny _ _ (spliced ((false, eval e.expr X.env) :: backTo pos (starEach (es.map LmE.expr) X.env))) _ _ s
    refine Calls.spliced_cons (LamX.lam_make2 I TB hcode hm hu t he.dfl (he.s.has I.ok) fun f c' pm ctv H1 s' I1 eN T1 hf hfn hfr hco => ?_)
    obtain ⟨nL, nF⟩ := not_frs hfs hfr
    have I2 : Inv X ((f, (LmI.of e f c' pm ctv).obj X) :: pins) σ H1 s' := I1.pins_of fun p hp => by
      rcases List.mem_cons.mp hp with z | z
      · subst z
        exact ⟨hf, hfn, nL, nF, fun v z => by cases z⟩
      · exact I1.pin p (List.mem_append_right _ z)
    refine lams_make TB hcode hm hu hfs r I2 T1 fun ls H2 s2 mk ⟨pins', I3, hp, hl⟩ e2 t2 hc => ?_
    refine h (.of e f c' pm ctv :: ls) H2 s2 (.cons mk) ⟨pins', I3, fun p z => hp p (List.mem_cons_of_mem _ z), fun l hl2 => ?_⟩ (eN.trans e2) t2 fun l hl2 => ?_
    · rcases List.mem_cons.mp hl2 with z | z
      · subst z
        exact hp _ List.mem_cons_self
      · exact hl l z
    · rcases List.mem_cons.mp hl2 with z | z
      · subst z
        exact e2 _ _ hco fun ps => LamX.codeO_ne ps
      · exact hc l z

theorem Rl.setUn {K : PySem.W.Frag} {F : Hp} {μ : List Addr} {H : Hp} {env : List Sl} {st : List O} {σ : St} (r : Rl K g B F μ H env st σ) {i : Nat} {v : V} : Rl K g B F μ H (env.set i .un) st (σ.set i (some v)) := by
  have nt : ∀ {j : Nat} {x : Sl}, (env.set i .un)[j]? = some x → x ≠ .un → i ≠ j ∧ env[j]? = some x := fun {j x} h n => by
    rcases get_set h with ⟨_, e2⟩ | ⟨ne, h1⟩
    · exact (n e2.symm).elim
    · exact ⟨ne, h1⟩
  refine ⟨r.ok, ⟨by simp only [List.length_set]; exact r.sl.len, fun j d h => ?_, fun j ds h => ?_, fun j1 j2 ds es a ij h1 h2 h3 h4 => ?_⟩, r.go, fun j ds a h1 h2 => ?_⟩
  · obtain ⟨ne, h1⟩ := nt h (by simp)
    rw [List.getElem?_set_ne ne]
    exact r.sl.val j d h1
  · obtain ⟨ne, h1⟩ := nt h (by simp)
    rw [List.getElem?_set_ne ne]
    exact r.sl.lin j ds h1
  · obtain ⟨ne1, e1⟩ := nt h1 (by simp)
    obtain ⟨ne2, e2⟩ := nt h2 (by simp)
    rw [List.getElem?_set_ne ne1] at h3
    rw [List.getElem?_set_ne ne2] at h4
    exact r.sl.dis j1 j2 ds es a ij e1 e2 h3 h4
  · obtain ⟨ne, e1⟩ := nt h1 (by simp)
    rw [List.getElem?_set_ne ne] at h2
    exact r.lb j ds a e1 h2
theorem Aft.from {α : Type} {K : PySem.W.Frag} {F F1 H H1 : Hp} {μ μ1 : List Addr} {r : R α} {P : α → List O → Hp → List Addr → Hp → Prop} (h : Aft K g F μ H Z r P) (x : Go F μ H F1 μ1 H1) : Aft K g F1 μ1 H1 Z r P := by
  cases r with
  | ok a s => exact fun F' μ' H' y k => h F' μ' H' (x.trans y) k
  | exc c s => exact h
  | bad => exact h
theorem AftS.seq {K : PySem.W.Frag} {hw : Hp} {mw : List Addr} {fs gs : SF} {env : List Sl} {st : List O} {D : Ends} (h : AftS K g B Z hw mw (sSeq fs gs env st) D) : AftS K g B Z hw mw (fs env st) { D with nx := fun σ H => tS K g B Z gs D σ H } := by
  unfold sSeq at h
  cases q : fs env st with
  | nx env' st' =>
    rw [q] at h
    exact fun F' μ' H' σ' r' d' => ⟨hw, mw, env', F', μ', st', r', d', h⟩
  | rt v st' => rw [q] at h; exact h
  | bk env' st' => rw [q] at h; exact h
  | ct env' st' => rw [q] at h; exact h
  | exc c st' => rw [q] at h; exact h
  | bad => rw [q] at h; exact h
theorem vals_lams : ∀ ls : List LmI, Vals (ls.map fun l => V.ref l.f) (ls.map fun l => Value.ref l.f)
  | [] => .nil
  | l :: ls => .cons rfl (vals_lams ls)
/-- what is known where the comp starts -/
def BdAt (X : Cx) (g : Gp) (B : Bs) (n ib : Nat) (L : Addr) (ls : List LmI) (fs : List EF) (σ : St) (H : Hp) (env : List Sl) (F : Hp) (μ : List Addr) (st st' : List O) : Prop := Rl X.K g B F μ H env st σ ∧ σ[ib]? = some (some (.ref L)) ∧ H L = some (.lst (ls.map fun l => V.ref l.f)) ∧ L ∉ μ ∧ (∀ l ∈ ls, H l.c = some (CodeO l.c (X.env.qual ++ "<lambda>")) ∧ l.c ∉ μ) ∧
  badsD n fs env st = .ok () st'
/-- `[..] != []`, which does not hold, and the rest of an `or` -/
def tBadT (X : Cx) (g : Gp) (B : Bs) (n ib : Nat) (L : Addr) (ls : List LmI) (fs : List EF) (fu : TF) : TT := fun σ H Q => ∃ env F μ st st', BdAt X g B n ib L ls fs σ H env F μ st st' ∧ Aft X.K g F μ H Z0 (fu env st') fun b _ _ _ H' => Q b H'
theorem pt_bad0 {e : Expr} {n ib : Nat} {L : Addr} {ls : List LmI} {fs : List EF} {lp pos : Pos} (hu : X.A.units + 64 < cLine) (h : PE X e (tBads X g B n ib L ls fs)) : PT X (.Compare e [.NotEq] [.List [] lp] pos) (tBadT X g B n ib L ls fs fun _ st => .ok false st) := by
  refine PT.imp (pt_cmpR (op_neD hu) h (de_lst (g := g) (B := B) (Z := Z0) da_nil) (nomark _)) fun σ H Q ⟨env, F, μ, st, st', ⟨rl, h1, h2, h3, h4, h5⟩, hq⟩ => ?_
  refine ⟨env, F, μ, st, st', rl, h1, h2, h3, h4, h5, fun F1 μ1 H1 x1 k1 v rv => ?_⟩
  refine tD_of (P := fun d s F' μ' H' => d = .lst [] ∧ Q false H' ∧ True) (rl.step x1 k1) ?_ fun d s u F2 μ2 H2 x2 r2 q2 ru => ?_
  · intro F2 μ2 H2 x2 k2
    exact ⟨rfl, hq _ _ _ (x1.trans x2) k2, trivial⟩
  · obtain ⟨rfl, q, _⟩ := q2
    have hv := (rv.mono x2.sub x2.pre)
    exact ⟨_, _, hv.dp r2.ok.sub 3 rfl, ru.dp r2.ok.sub 3 rfl, rfl, rfl, false, rfl, q⟩

theorem pt_badOr {e b : Expr} {rest : List Expr} {n ib : Nat} {L : Addr} {ls : List LmI} {fs : List EF} {fu : TF} {lp pos pos2 : Pos} (hu : X.A.units + 64 < cLine) (h : PE X e (tBads X g B n ib L ls fs)) (hb : DW g X B Z0 (.BoolOp .Or (b :: rest) pos) fu) : PT X (.BoolOp .Or (.Compare e [.NotEq] [.List [] lp] pos2 :: b :: rest) pos) (tBadT X g B n ib L ls fs fu) := by
  refine PW.pt (PW.imp (pw_or (pt_bad0 hu h) hb) fun σ H Q ⟨env, F, μ, st, st', ⟨rl, h1, h2, h3, h4, h5⟩, hq⟩ => ?_)
  exact ⟨env, F, μ, st, st', ⟨rl, h1, h2, h3, h4, h5⟩, fun F1 μ1 H1 x1 k1 => ⟨env, F1, μ1, st', rl.step x1 k1, hq.from x1⟩⟩
/-- the ends, with nothing let out -/
def noX (r : RS) : RS := match r with
  | .exc _ _ => .bad
  | r => r
/-- bad = [lambda: .., ..]; if [..] != [] or ..: ..; .. -/
def sBads (n ib : Nat) (fs : List EF) (fu : TF) (fb fr : SF) : SF := fun env st => match badsD n fs (env.set ib .un) st with
  | .ok _ st' => noX (sSeq (sIf fu fb sNx) fr (env.set ib .un) st')
  | _ => .bad
theorem AftS.noX {K : PySem.W.Frag} {hw : Hp} {mw : List Addr} {r : RS} {D : Ends} (h : AftS K g B Z hw mw (noX r) D) : AftS K g B Z0 hw mw r D := by
  cases r <;> first | exact h | exact False.elim h
theorem dss_bad {n k ib : Nat} {xb : Str} {pb lp2 spos ipos : Pos} {es : List LmE} {fs : List EF} {cnd : Expr} {body rest : List Stmt} {fu : TF} {fb fr : SF} {c P : Addr} (TB : TabB X.base X.mg c P) (hcode : X.env.code = .ref c) (hm : (P, X.env.qual ++ "<lambda>") ∈ g.T) (hu : ∀ p ∈ g.T, p.1 = P → p.2 = X.env.qual ++ "<lambda>")
    (hfs : X.env.frame = some X.env.locals ∧ X.stack = X.env :: X.outer) (hND : X.N.Nodup) (hN : X.N[ib]? = some xb) (hxb : Loc X.env.scope xb) (hes : LmEs g X k es fs) (hsz : es.length ≤ 1000)
    (hsw : swapsWith (.List (es.map LmE.expr) lp2) (some (.Name xb pb)) spos.line X.env = pure false)
    (hc : ∀ pn, ∀ (L : Addr) (ls : List LmI), Mk es ls → (∀ l ∈ ls, (l.f, l.obj X) ∈ pn) → PT (X.tr pn X.xe) cnd (tBadT (X.tr pn X.xe) g B n ib L ls fs fu)) (hb : ∀ pn, DSs g (X.tr pn X.xe) B Z0 body fb) (hr : ∀ pn, DSs g (X.tr pn X.xe) B Z0 rest fr)
    (hf : X.fn xb = true ∨ X.env.scope.names.lookup xb = some .local := by first | exact .inl rfl | exact .inr rfl | assumption) :
    DSs g X B Z (.Assign [.Name xb pb] (.List (es.map LmE.expr) lp2) spos :: .If cnd body [] ipos :: rest) (sBads n ib fs fu fb fr) := by
  refine ⟨fun pins s σ H D I ⟨hw, mw, env, F, μ, st, r, d, h⟩ => ?_⟩
  refine wpAny_execs_cons (wpAny_Assign_Name (wpAny_List_spliced (lams_make TB hcode hm hu hfs hes I r.ok.tab fun ls H1 s1 mk ⟨pins', I1, hp, hl⟩ eN T1 hco => ?_)) hsw)
  have hlen : ls.length ≤ 1000 := by
    have : ∀ {es ls}, Mk es ls → ls.length = es.length := fun {es ls} m => by
      induction m with
      | nil => rfl
      | cons _ ih => simp only [List.length_cons, ih]
    rw [this mk]; exact hsz
  refine ⟨by rw [List.length_map]; exact Nat.le_trans hlen (by decide), ?_⟩
  generalize hL : s1.heap.objs.size = L
  have hLn : H1 L = none := I1.hok.fresh (Nat.le_of_eq hL)
  have hv := vals_lams ls
  have I2 : Inv X pins' σ (upd H1 L (.lst (ls.map fun l => V.ref l.f))) { s1 with heap := s1.heap.push { cls := .type "list", data := .seq (ls.map fun l => Value.ref l.f).toArray } } := by
    refine I1.laid (t' := s1.toks) (fun b o e => Heap.get?_push_of_some _ e) (Nat.le_of_eq hL) ⟨by rw [List.length_map]; exact Nat.le_trans hlen (by decide), _, 0, hv, ?_⟩
    rw [← hL]
    exact Heap.get?_push_size _ rfl
  refine store_ok (v := V.ref L) I2 hND hN hxb rfl (fun s2 I3 => ?_) hf
  show wpAny _ _ (execs (.If cnd body [] ipos :: rest) X.env) _ _ _
  have hI : Inv (X.tr (X.pn ++ pins') X.xe) [] (σ.set ib (some (.ref L))) (upd H1 L (.lst (ls.map fun l => V.ref l.f))) s2 := I3.toTry X.xe
  have hif := pss_cons (ps_if (pos := ipos) (hc (X.pn ++ pins') L ls mk fun l z => List.mem_append_right _ (hl l z)) (hb (X.pn ++ pins')) (dss_nil (g := g) (B := B) (Z := Z0))) (hr (X.pn ++ pins'))
  have hx1 : Go F μ H F μ H1 := Go.ext eN
  have k1 := r.ok.ext eN T1
  have hx2 : Go F μ H F μ (upd H1 L (.lst (ls.map fun l => V.ref l.f))) := hx1.trans (Go.newH hLn)
  have k2 := k1.new (o := .lst (ls.map fun l => V.ref l.f)) hLn
  have hLm : L ∉ μ := fun z => k1.there z hLn
  have rl2 : Rl X.K g B F μ (upd H1 L (.lst (ls.map fun l => V.ref l.f))) (env.set ib .un) st (σ.set ib (some (.ref L))) := (r.step hx2 k2).setUn
  unfold sBads at h
  cases q : badsD n fs (env.set ib .un) st with
  | bad => rw [q] at h; exact h.elim
  | exc c s => rw [q] at h; exact h.elim
  | ok u st' =>
    rw [q] at h
    have h := (AftS.ofR (F := F) (μ := μ) (H := upd H1 L (.lst (ls.map fun l => V.ref l.f))) (AftS.noX h).seq)
    refine wpAny_mono (hif.run [] s2 _ _ D hI ?_) (fun f s3 w => ?_) fun _ _ x => x
    · have hiL : ib < σ.length := by rw [I1.len]; exact (List.getElem?_eq_some_iff.mp hN).1
      refine ⟨_, F, μ, st, st', ⟨rl2, List.getElem?_set_self hiL, upd_same, hLm, fun l z => ⟨?_, fun y => ?_⟩, q⟩, h.mono fun b s4 F' μ' H' _ x k p => ?_⟩
      · rw [upd_ne (ne_of_none (hco l z) hLn)]
        exact hco l z
      · obtain ⟨m, hm2, e⟩ := List.getElem_of_mem y
        have hm3 : m < st.length := by rw [← k1.len]; exact hm2
        have w := k1.obj m _ st[m] (List.getElem?_eq_getElem hm2) (List.getElem?_eq_getElem hm3)
        rw [e] at w
        cases q2 : st[m] with
        | lst ds =>
          rw [q2] at w
          obtain ⟨vs, e1, _⟩ := w
          rw [hco l z] at e1
          unfold CodeO at e1
          cases e1
      · have rl3 := rl2.step x k
        cases b with
        | true => exact ⟨hw, mw, _, F', μ', s4, rl3, d.go (hx2.trans x), p⟩
        | false => exact ⟨hw, mw, _, F', μ', s4, rl3, d.go (hx2.trans x), p⟩
    · cases f with
      | next => obtain ⟨σ', H', I', q'⟩ := w; exact ⟨σ', H', (I'.ofTry I.ok).pins_of fun p z => (I'.ofTry I.ok).pin p (List.mem_append_right _ (hp p z)), q'⟩
      | brk => obtain ⟨σ', H', I', q'⟩ := w; exact ⟨σ', H', (I'.ofTry I.ok).pins_of fun p z => (I'.ofTry I.ok).pin p (List.mem_append_right _ (hp p z)), q'⟩
      | cont => obtain ⟨σ', H', I', q'⟩ := w; exact ⟨σ', H', (I'.ofTry I.ok).pins_of fun p z => (I'.ofTry I.ok).pin p (List.mem_append_right _ (hp p z)), q'⟩
      | ret u => obtain ⟨v, σ', H', I', rv, q'⟩ := w; exact ⟨v, σ', H', (I'.ofTry I.ok).pins_of fun p z => (I'.ofTry I.ok).pin p (List.mem_append_right _ (hp p z)), rv, q'⟩
end
end DV

set_option Elab.async false
set_option linter.all false
set_option maxRecDepth 100000
set_option maxHeartbeats 1000000
namespace DV
open PySem PySem.Spec PyProof.Rows L2
section
variable {K : PySem.W.Frag} {g : Gp} {F F' : Hp} {μ μ' : List Addr} {H H' : Hp} {st : List O}
/-- a new thing of the store -/
theorem Ok.alloc (k : Ok K g F μ H st) {p : Addr} {vs : List V} {ds : List D} (hp : H p = none) (rs : Reps K F μ vs ds) : Go F μ H F (μ ++ [p]) (upd H p (.lst vs)) ∧ Ok K g F (μ ++ [p]) (upd H p (.lst vs)) (st ++ [.lst ds]) := by
  have fp := k.fresh hp
  have hm : p ∉ μ := fun z => k.there z hp
  refine ⟨⟨RdSub.refl F, fun _ h _ => h, ⟨[p], rfl, fun a ha => ?_⟩, fun a q h _ _ => by rw [upd_ne (ne_of_none h hp)]; exact h, fun a ⟨u, e, n⟩ => ⟨u, by rw [upd_ne (ne_of_none e hp)]; exact e, n⟩⟩, ?_⟩
  · rw [List.mem_singleton.mp ha]
    exact nl hp
  · refine ⟨fun a u h => by rw [upd_ne (ne_of_none h fp)]; exact k.sub a u h, k.nt, by rw [List.length_append, List.length_append, k.len]; rfl, ?_, fun a ha => ?_, fun n a ob h1 h2 => ?_, k.tab.ext fun b q h => by rw [upd_ne (ne_of_none h hp)]; exact h⟩
    · rw [List.nodup_append]
      exact ⟨k.nd, by simp, fun a h1 b h2 e => hm (by rw [← List.mem_singleton.mp h2, ← e]; exact h1)⟩
    · rcases List.mem_append.mp ha with z | z
      · exact k.dis a z
      · rw [List.mem_singleton.mp z]; exact fp
    · have pm : Pre μ (μ ++ [p]) := ⟨[p], rfl⟩
      rw [List.getElem?_append] at h1 h2
      rw [k.len] at h1
      split at h1
      · rename_i hl
        rw [if_pos hl] at h2
        have z := k.obj n a ob h1 h2
        have ne : a ≠ p := fun e => z.there (by rw [e]; exact hp)
        cases ob with
        | lst es =>
          obtain ⟨ws, e, r⟩ := z
          exact ⟨ws, by rw [upd_ne ne]; exact e, r.mono (RdSub.refl F) pm⟩
      · rename_i hl
        rw [if_neg hl] at h2
        have e0 : n - st.length = 0 := by
          have := (List.getElem?_eq_some_iff.mp h1).1
          simp at this
          omega
        rw [e0] at h1 h2
        cases h1
        cases h2
        exact ⟨vs, upd_same, rs.mono (RdSub.refl F) pm⟩
end
section
variable {g : Gp} {X : Cx} {B : Bs} {Z : ZZ} {e a b c : Expr} {es rest : List Expr} {f fa fb fc : EF} {fr : AF} {pos : Pos}
/-- [..], a thing of the store -/
def eLstO (r : AF) : EF := fun env st => (r env st).bind fun ds st => if ds.length ≤ 100000 then .ok (.ref st.length) (st ++ [.lst ds]) else .bad
theorem de_lstO (h : DA g X B Z es fr) : DE g X B Z (.List es pos) (eLstO fr) := PE.imp (pe_lst h) fun σ H Q h => by
  obtain ⟨env, F, μ, st, r, h⟩ := h
  refine tA_of r h.bind fun ds s vs F1 μ1 H1 x1 r1 h1 rs => ?_
  split at h1
  · rename_i hl
    refine ⟨by rw [rs.length]; exact small_sz hl, fun p hp => ?_⟩
    obtain ⟨x2, k2⟩ := r1.ok.alloc hp rs
    exact h1 _ _ _ x2 k2 _ (.ref (by rw [← r1.ok.len]; simp))
  · exact h1.elim
theorem reps3 {K : PySem.W.Frag} {F : Hp} {μ : List Addr} {vs : List V} {d e f : D} (h : Reps K F μ vs [d, e, f]) : ∃ v w u, vs = [v, w, u] ∧ Rep K F μ v d ∧ Rep K F μ w e ∧ Rep K F μ u f := by
  cases h with
  | cons h r =>
    obtain ⟨w, u, rfl, h2, h3⟩ := reps2 r
    exact ⟨_, w, u, rfl, h, h2, h3⟩
theorem ds_par3 {i j l : Nat} {x y z : Str} {px py pz pt : Pos} {kt k2 pt2} (hc : X.calm = true) (hN : X.N.Nodup) (hi : X.N[i]? = some x) (hj : X.N[j]? = some y) (hl : X.N[l]? = some z) (hij : i ≠ j) (hil : i ≠ l) (hjl : j ≠ l)
    (hx : X.env.scope.names.lookup x = some .local) (hy : X.env.scope.names.lookup y = some .local) (hz : X.env.scope.names.lookup z = some .local) (ha : DA g X B Z [a, b, c] fr)
    (hw : swappedStores [.Tuple [.Name x px, .Name y py, .Name z pz] kt pt] (.Tuple [a, b, c] k2 pt2) X.env = pure (some [x, y, z]))
    (hs : swapsWithSole [.Tuple [.Name x px, .Name y py, .Name z pz] kt pt] (.Tuple [a, b, c] k2 pt2) pos.line X.env = pure false := by rfl) :
    DS g X B Z (.Assign [.Tuple [.Name x px, .Name y py, .Name z pz] kt pt] (.Tuple [a, b, c] k2 pt2) pos) (sPar3 i j l fr) := PS.imp (ps_par3 hc hN hi hj hl hij hil hjl hx hy hz ha hw hs) fun D σ H ⟨hw, mw, env, F, μ, st, r, d, h⟩ =>
  tA_of r (AftS.ofR h) fun ys s vs F' μ' H' x r' p rv => by
    split at p
    · obtain ⟨v, w, u, rfl, h1, h2, h3⟩ := reps3 rv
      exact ⟨v, w, u, rfl, p F' μ' H' _ (((r'.set h1).set h2).set h3) (d.go x)⟩
    · exact p.elim
end
end DV

set_option Elab.async false
set_option linter.all false
set_option maxRecDepth 100000
set_option maxHeartbeats 1000000
namespace DV
open PySem PySem.Spec PyProof.Rows L2
/-! ### small words for printed derivations -/
def visB (sc : Scope) (x : Str) : Bool := match sc.names.lookup x with
  | some .local => true
  | some .cell => true
  | some .free => true
  | _ => false
def locB (sc : Scope) (x : Str) : Bool := match sc.names.lookup x with
  | some .local => true
  | some .cell => true
  | _ => false
theorem vis_of {sc : Scope} {x : Str} (h : visB sc x = true) : Vis sc x := by
  unfold visB at h
  unfold Vis
  split at h
  · rename_i e; exact .inl e
  · rename_i e; exact .inr (.inl e)
  · rename_i e; exact .inr (.inr e)
  · cases h
theorem loc_of {sc : Scope} {x : Str} (h : locB sc x = true) : L2.Loc sc x := by
  unfold locB at h
  unfold L2.Loc
  split at h
  · rename_i e; exact .inl e
  · rename_i e; exact .inr e
  · cases h
def blkOkB (N : List Str) (sc scope : Scope) (own : List (Str × Nat)) : Bool :=
  decide (scope.kind = .function) && scope.names.all (fun y => decide (scope.names.lookup y.1 = some y.2)) && own.all (fun p => decide (N[p.2]? = some p.1)) &&
  scope.names.all (fun y => !decide (y.2 = .free) || (decide (sc.names.lookup y.1 = some .cell) || decide (sc.names.lookup y.1 = some .free))) &&
  scope.names.all fun y => !(decide (y.2 = .local) || decide (y.2 = .cell)) || (decide (y.1 ∈ own.map (·.1)) || decide (y.1 ∉ N))
theorem bk_by {N : List Str} {sc scope : Scope} {own : List (Str × Nat)} (h : blkOkB N sc scope own = true) : BlkOk N sc scope own := by
  unfold blkOkB at h
  simp only [Bool.and_eq_true, Bool.or_eq_true, Bool.not_eq_true', decide_eq_true_eq, decide_eq_false_iff_not, List.all_eq_true, Bool.or_eq_false_iff] at h
  obtain ⟨⟨⟨⟨h1, h2⟩, h3⟩, h4⟩, h5⟩ := h
  exact ⟨h1, h2, h3, fun y hy e => (h4 y hy).resolve_left fun z => z e, fun y hy e => (h5 y hy).resolve_left fun z => e.elim z.1 z.2⟩
theorem room65 {k : Nat} {A : Around} (r : Room k A) : A.units + 65 < cLine := by
  have := r.un
  omega
/-- a def without defaults that stands in the text -/
structure FunZ (K : PySem.W.Frag) (mg : Str → Option Value) (x : Str) (st : Stmt) (f c : Addr) : Prop where
  ex : ∃ (oc : Value) (od : Option Addr) (kV doc pm : Value) (an : Option Addr) (ct : Value) (osl : Array (Option Value)), K.lookup f = some ⟨oc, od, .func (PySem.W.fnOf x x (defArgs st) (defBody st) (defScope st) .none kV doc pm an (.ref c) ct), osl⟩
  code : PySem.W.codeIn K (.ref c) x = true
  kp : PySem.W.keepIn K (.ref f) = true
  at_ : mg x = some (.ref f)
theorem has_z {g : Gp} {P : Program} {w : World} {K : PySem.W.Frag} {mg : Str → Option Value} {base : Heap} {x : Str} {st : Stmt} {fa c : Addr} {N ps : List Str} {k : Nat} {b : SF} (Fu : FunZ K mg x st fa c) (S : FnScope N ps (defScope st))
    (hb : ∀ (kV doc pm : Value) (an : Option Addr) (cdv ct : Value) (us : List Value), us.length = ps.length → bindArgs (PySem.W.fnOf x x (defArgs st) (defBody st) (defScope st) .none kV doc pm an cdv ct) ⟨us, []⟩ = pure (ps.zip us))
    (hbody : ∀ (A : Around) (outer : List Env) (s : Shared) (H : Hp) (E : XK) (B : Bs) (Z : ZZ), Room k (A.deeper (envOfC x (defScope st) s.heap.objs.size fa (.ref c))) →
      Lets g (cxOf (L2.CX P w) P w K mg base N x (defScope st) fa (.ref c) A outer s H E) B Z → DSs g (cxOf (L2.CX P w) P w K mg base N x (defScope st) fa (.ref c) A outer s H E) B Z (defBody st) b) :
    Has g P w K mg base (k + 1) x ps.length [] (runF ps.length N.length b) := by
  obtain ⟨oc, od, kV, doc, pm, an, ct, osl, lk⟩ := Fu.ex
  exact has_of (fd := PySem.W.fnOf x x (defArgs st) (defBody st) (defScope st) .none kV doc pm an (.ref c) ct) ⟨⟨oc, od, .none, kV, doc, pm, an, ct, osl, rfl, lk⟩, Fu.code, Fu.kp⟩ Fu.at_ S (.all fun us hl => hb kV doc pm an _ ct us hl) .nil (fun _ _ => .nil) hbody
/-- fuel: a local's size -/
def fuelAbs (i : Nat) : List Sl → List O → Nat := fun env _ => match env[i]? with
  | some (.v (.int n)) => n.natAbs + 1
  | _ => 0
/-- fuel: how much of a list is left -/
def fuelLen (i j : Nat) : List Sl → List O → Nat := fun env _ => match env[i]?, env[j]? with
  | some (.v (.int n)), some (.lin ds) => ds.length - n.toNat + 1
  | _, _ => 0

def lamE : Expr → LmE
  | .Lambda p b s pos => ⟨p, b, s, pos⟩
  | e => ⟨⟨[], [], none, [], [], none, []⟩, e, ⟨.function, [], false, false, []⟩, ⟨0, 0, 0, 0⟩⟩
def lamsOf : List Stmt → List LmE
  | .Assign _ (.List es _) _ :: _ => es.map lamE
  | _ => []
section
variable {g : Gp} {X : Cx} {B : Bs} {Z : ZZ}
theorem pe_badX {n k ib i2 : Nat} {ret x xb a2 : Str} {es : List LmE} {fs : List EF} {scope : Scope} {own : List (Str × Nat)} {j1 j2 : Nat} {pe1 pt pb px p2 pc ps pm pos : Pos} (hes : LmEs g X k es fs) (hcalm : X.calm = true) (hND : X.N.Nodup) (T : ToldF g X n ret x) (hr : Room (k + 2) X.A) (hfs : X.env.frame = some X.env.locals ∧ X.stack = X.env :: X.outer)
    (hN : X.N[i2]? = some a2) (hNb : X.N[ib]? = some xb) (hvb : Vis X.env.scope xb) (hgt : (∀ (s : Shared) (H : Hp) (C : Addr) (cl : List (Str × Addr)) (fp : List Addr), Gl (X.blk s H scope (compEnvC scope cl C X.env) fp) x)) (hown : own = [(a2, i2)]) (ok : BlkOk X.N X.env.scope scope own)
    (hl2 : ∀ (C : Addr) (cl : List (Str × Addr)), L2.Loc (compEnvC scope cl C X.env).scope a2) (hlf : ∀ (s : Shared) (H : Hp) (C : Addr) (cl : List (Str × Addr)) (fp : List Addr), (X.blk s H scope (compEnvC scope cl C X.env) fp).fn a2 = true ∨ (compEnvC scope cl C X.env).scope.names.lookup a2 = some .local)
    (hv2 : ∀ (C : Addr) (cl : List (Str × Addr)), Vis (compEnvC scope cl C X.env).scope a2) (hsh : SeqAt.shaped (PyData.str ret) = true) (hev : PyData.eqv (.str ret) (.str ret) = true) 
    (hdb : (x == ("__debug__" : Str)) = false) (hd2 : (a2 == ("__debug__" : Str)) = false) (hc2 : (a2 == ("__classdict__" : Str)) = false) (hdbb : (xb == ("__debug__" : Str)) = false) (hcb : (xb == ("__classdict__" : Str)) = false)
    (pn : List (Addr × Obj)) (L : Addr) (ls : List LmI) (mk : Mk es ls) (hp : ∀ l ∈ ls, (l.f, l.obj X) ∈ pn) :
    PE (X.tr pn X.xe) (.ListComp (.Constant (.int 1) j1 pe1) [⟨.Name a2 pt, .Name xb pb, [.Compare (.Call (.Name x px) [.Name a2 p2] [] pc) [.NotEq] [.Constant (.str ret) j2 ps] pm], 0⟩] scope pos) (tBads (X.tr pn X.xe) g B n ib L ls fs) :=
  pe_bads (X := X.tr pn X.xe) (k := k) (own := own) hcalm hND ⟨T.ex⟩ hr hfs hN hNb hvb hgt hown ok hl2 hlf hv2 (hes.len mk) hsh hev (fun i l f a b => let h := hes.at mk i l f a b; ⟨h.s, h.b, h.bind⟩) hp (room65 hr) hdb hd2 hc2 hdbb hcb
theorem dss_badOr {n k ib i2 : Nat} {ret x xb a2 : Str} {fs : List EF} {own : List (Str × Nat)} {c P : Addr} {fu : TF} {fb fr : SF}
    {j1 j2 : Nat} {pe1 pt pb px p2 pc ps pm pos pb0 lp2 spos ipos lp mp opos : Pos} {scope : Scope} {b : Expr} {orest : List Expr} {body rest : List Stmt} {es : List LmE}
    (TB : LamX.TabB X.base X.mg c P) (hcode : X.env.code = .ref c) (hm : (P, X.env.qual ++ "<lambda>") ∈ g.T) (hu : ∀ p ∈ g.T, p.1 = P → p.2 = X.env.qual ++ "<lambda>") (hfs : X.env.frame = some X.env.locals ∧ X.stack = X.env :: X.outer) (hND : X.N.Nodup) (hNb : X.N[ib]? = some xb) (hxb : L2.Loc X.env.scope xb) (hvb : Vis X.env.scope xb)
    (hes : LmEs g X k es fs) (hsz : es.length ≤ 1000) (hsw : swapsWith (.List (es.map LmE.expr) lp2) (some (.Name xb pb0)) spos.line X.env = pure false) (hcalm : X.calm = true) (T : ToldF g X n ret x) (hr : Room (k + 2) X.A) (hN : X.N[i2]? = some a2)
    (hgt : (∀ (s : Shared) (H : Hp) (C : Addr) (cl : List (Str × Addr)) (fp : List Addr), Gl (X.blk s H scope (compEnvC scope cl C X.env) fp) x)) (hown : own = [(a2, i2)]) (ok : BlkOk X.N X.env.scope scope own)
    (hl2 : ∀ (C : Addr) (cl : List (Str × Addr)), L2.Loc (compEnvC scope cl C X.env).scope a2) (hlf : ∀ (s : Shared) (H : Hp) (C : Addr) (cl : List (Str × Addr)) (fp : List Addr), (X.blk s H scope (compEnvC scope cl C X.env) fp).fn a2 = true ∨ (compEnvC scope cl C X.env).scope.names.lookup a2 = some .local)
    (hv2 : ∀ (C : Addr) (cl : List (Str × Addr)), Vis (compEnvC scope cl C X.env).scope a2) (hsh : SeqAt.shaped (PyData.str ret) = true) (hev : PyData.eqv (.str ret) (.str ret) = true) 
    (hdb : (x == ("__debug__" : Str)) = false) (hd2 : (a2 == ("__debug__" : Str)) = false) (hc2 : (a2 == ("__classdict__" : Str)) = false) (hdbb : (xb == ("__debug__" : Str)) = false) (hcb : (xb == ("__classdict__" : Str)) = false)
    (hw : ∀ pn, DW g (X.tr pn X.xe) B Z0 (.BoolOp .Or (b :: orest) opos) fu) (hb : ∀ pn, DSs g (X.tr pn X.xe) B Z0 body fb) (hrr : ∀ pn, DSs g (X.tr pn X.xe) B Z0 rest fr)
    (hf : X.fn xb = true ∨ X.env.scope.names.lookup xb = some .local := by first | exact .inl rfl | exact .inr rfl | assumption) :
    DSs g X B Z (.Assign [.Name xb pb0] (.List (es.map LmE.expr) lp2) spos :: .If (.BoolOp .Or (.Compare (.ListComp (.Constant (.int 1) j1 pe1) [⟨.Name a2 pt, .Name xb pb, [.Compare (.Call (.Name x px) [.Name a2 p2] [] pc) [.NotEq] [.Constant (.str ret) j2 ps] pm], 0⟩] scope pos) [.NotEq] [.List [] lp] mp :: b :: orest) opos) body [] ipos :: rest) (sBads n ib fs fu fb fr) :=
  dss_bad (k := k) TB hcode hm hu hfs hND hNb hxb hes hsz hsw (fun pn L ls mk hp => pt_badOr (X := X.tr pn X.xe) hr.units (pe_badX hes hcalm hND T hr hfs hN hNb hvb hgt hown ok hl2 hlf hv2 hsh hev hdb hd2 hc2 hdbb hcb pn L ls mk hp) (hw pn)) hb hrr hf
end
end DV

set_option Elab.async false
set_option linter.all false
set_option maxRecDepth 100000
set_option maxHeartbeats 1000000
namespace DV
open PySem PySem.Spec PyProof.Rows L2
/-- the end of a law, what is known of the top at hand too -/
theorem walk_ofTop {l : PySem.W.OpenLaw} {n k : Nat} {q : Program} {loose : List Str} {XP : (Str → Option Value) → Heap → Prop} {YP : World → Heap → Prop} {d : DefRec} {K : Params → PySem.W.Frag} {CX : World → CXT} {x : Str}
    (hn : l.most = some n) (hn2 : n ≤ sizeLine) (hdf : d.params.defaults = []) (hr : Room k callerA) (hY : ∀ (w : World) (h : Heap), YP w h → (K w.params).In h)
    (F : ∀ (w : World) (s₀ s₁ : Shared) (mg mb : Str → Option Value) (fa : Addr), YP w s₁.heap → (K w.params).In s₁.heap → PySem.W.Ground q loose [] XP w s₀ mg mb s₁.heap → mg d.name = some (.ref fa) → LamX.LawAtS l w (K w.params) (CX w) k n x mg fa s₁.heap)
    (hCX : ∀ (w : World) (H : Hp) (s : Shared) (e : Value) (s' : Shared), CX w [] H s (fun _ _ _ => False) e s' → False) :
    PySem.W.WalkO q loose XP YP l.row.toRowW d [] (fun f vs => PySem.call f vs) := by
  refine Att.attach_callB hn hdf fun w s₀ s₁ mg mb fa o pm cd doc a vs ns G Y ho hd hcd hmg hobj hints hlen hbits hg => ?_
  have KX := hY w _ Y
  obtain ⟨fd, cs, sp, hT, nT, C, hb, hsp, hF⟩ := F w s₀ s₁ mg mb fa Y KX G hmg
  exact LamX.law_callTs KX G.T.g G.T.b G.T.builtins G.T.nolimit hg hT nT C G.T.bmain hobj hints (Nat.le_trans hlen hn2) hr hF hb (fun H hH hS => hsp H a ns hlen hbits hH hS) fun H e s' => hCX w H s₁ e s'
/-- the def of the text at its address, its data as it stands there -/
def HasL (g : Gp) (P : Program) (w : World) (K : PySem.W.Frag) (mg : Str → Option Value) (base : Heap) (k : Nat) (x : Str) (st : Stmt) (ps : List Str) (fn : Fn) : Prop :=
  ∃ fa, mg x = some (.ref fa) ∧ ∀ (oc : Value) (od : Option Addr) (kV doc pm : Value) (an : Option Addr) (cdv ct : Value) (osl : Array (Option Value)),
    K.lookup fa = some ⟨oc, od, .func (PySem.W.fnOf x x (defArgs st) (defBody st) (defScope st) .none kV doc pm an cdv ct), osl⟩ →
    FnOk P w K mg base (L2.CX P w) k fa (PySem.W.fnOf x x (defArgs st) (defBody st) (defScope st) .none kV doc pm an cdv ct) ps (spD K g ps.length fn)
theorem hasL_z {g : Gp} {P : Program} {w : World} {K : PySem.W.Frag} {mg : Str → Option Value} {base : Heap} {x : Str} {st : Stmt} {fa c : Addr} {N ps : List Str} {k : Nat} {b : SF} (Fu : FunZ K mg x st fa c) (S : FnScope N ps (defScope st))
    (hbody : ∀ (A : Around) (outer : List Env) (s : Shared) (H : Hp) (E : XK) (B : Bs) (Z : ZZ), Room k (A.deeper (envOfC x (defScope st) s.heap.objs.size fa (.ref c))) →
      Lets g (cxOf (L2.CX P w) P w K mg base N x (defScope st) fa (.ref c) A outer s H E) B Z → DSs g (cxOf (L2.CX P w) P w K mg base N x (defScope st) fa (.ref c) A outer s H E) B Z (defBody st) b) :
    HasL g P w K mg base (k + 1) x st ps (runF ps.length N.length b) := by
  refine ⟨fa, Fu.at_, fun oc od kV doc pm an cdv ct osl lk => ?_⟩
  obtain ⟨oc', od', kV', doc', pm', an', ct', osl', lk'⟩ := Fu.ex
  have hcc : cdv = .ref c := by
    rw [lk] at lk'
    have z := Option.some.inj lk'
    injection z with z1 z2 z3 z4
    injection z3 with z3
    have := congrArg FuncData.code z3
    exact this
  subst hcc
  refine fn_of lk Fu.code S (fun vs H Q E h => ?_) (fun A outer s H vs Q E hr h => ?_)
  · obtain ⟨F, μ, st, ds, ok, rs, hl, h⟩ := h
    exact hl
  · obtain ⟨F, μ, st1, ds, ok, rs, hl, h⟩ := h
    unfold runF at h
    have hd : ds.length = ps.length := rs.length.symm.trans hl
    rw [if_pos hd] at h
    refine ⟨_, hbody A outer s H E ⟨F, μ, H⟩ (fun c st' => ∀ F' μ' H', Go F μ H F' μ' H' → Ok K g F' μ' H' st' → E (g.ec c) none H') hr ⟨_, takes_of rfl rfl rfl rfl, fun c st F' μ' H' σ z hg hk => z F' μ' H' hg hk⟩, F, μ, startE N.length ds, F, μ, st1, ⟨ok, start_slots rs, Go.refl, fun i es a h => ?_⟩, Hd.refl _ _, ?_⟩
    · obtain ⟨a', _, _, h3, _⟩ := (start_slots (H := H) (N := N) rs).lin i es h
      exfalso
      unfold startE at h
      rw [List.getElem?_append] at h
      split at h
      · rw [List.getElem?_map] at h
        cases q : ds[i]? with
        | none => rw [q] at h; cases h
        | some d => rw [q] at h; cases h
      · rw [List.getElem?_replicate] at h
        split at h <;> cases h
    · cases q : b (startE N.length ds) st1 with
      | nx env' s' => rw [q] at h; exact fun F' μ' H' σ' r _ => h F' μ' H' r.go r.ok _ .non
      | rt d s' => rw [q] at h; exact fun F' μ' H' v k g rv => h F' μ' H' g k v rv
      | exc c s' => rw [q] at h; exact h
      | bk _ _ => rw [q] at h; exact h.elim
      | ct _ _ => rw [q] at h; exact h.elim
      | bad => rw [q] at h; exact h.elim
/-- a def of the text, from what is written of it -/
theorem funz {K : PySem.W.Frag} {h : Heap} {mg : Str → Option Value} {x : Str} {st : Stmt} {f c : Addr} {oc : Value} {od : Option Addr} {kV doc pm : Value} {an : Option Addr} {ct : Value} {osl : Array (Option Value)} (X : K.In h) (G : h.Ns mainGlobals mg)
    (a : PySem.W.nsIn K mainGlobals x = some (some (.ref f))) (l : K.lookup f = some ⟨oc, od, .func (PySem.W.fnOf x x (defArgs st) (defBody st) (defScope st) .none kV doc pm an (.ref c) ct), osl⟩) (cc : PySem.W.codeIn K (.ref c) x = true) (kk : PySem.W.keepIn K (.ref f) = true) :
    FunZ K mg x st f c := ⟨⟨oc, od, kV, doc, pm, an, ct, osl, l⟩, cc, kk, PySem.W.mg_of X G a⟩
/-- the law's own call from the plain law -/
theorem spD_law {K : PySem.W.Frag} {T : List (Addr × Str)} {ec : Nat → Value} {fn : Fn} {H : Hp} {a : Addr} {ns : List Int} (hT : ∀ p ∈ T, H p.1 = some (.tbl #[])) (hS : SqL K H a (ns.map V.int)) (h : ∃ st, fn [.frz (ns.map .int)] [] = .ok (.bl true) st) :
    spD K ⟨T, ec⟩ 1 fn [.ref a] H (fun v _ => v = .bl true) fun _ _ _ => False := by
  obtain ⟨st, e⟩ := h
  let F : Hp := fun b => match H b with
    | some (.tbl _) => none
    | o => o
  have hF : ∀ b o, H b = some o → (∀ ps, o ≠ .tbl ps) → F b = some o := fun b o e n => by
    show (match H b with | some (.tbl _) => none | o => o) = _
    rw [e]
    cases o <;> first | rfl | exact absurd rfl (n _)
  refine ⟨F, [], [], [.frz (ns.map .int)], ⟨fun b u z => ?_, fun b ps z => ?_, rfl, List.nodup_nil, fun b z => (by cases z), fun n b o z => (by cases z), fun p hp => ?_⟩, .cons (.frz (vs := ns.map V.int) ?_ ?_) .nil, rfl, ?_⟩
  · have z : (match H b with | some (.tbl _) => none | o => o) = some u := z
    split at z
    · cases z
    · exact z
  · have z : (match H b with | some (.tbl _) => none | o => o) = some (.tbl ps) := z
    split at z
    · cases z
    · rename_i q
      exact q _ z
  · exact ⟨#[], hT p hp, by trivial, fun pos cv hc => by cases hc⟩
  · refine hS.imp (fun q => q.imp (fun e => hF _ _ e fun ps z => by cases z) fun ⟨o, e⟩ => ⟨o, hF _ _ e fun ps z => by cases z⟩) id
  · clear hS e
    induction ns with
    | nil => exact .nil
    | cons n r ih => exact .cons (.int n) ih
  · rw [e]
    intro F' μ' H' _ _ v rv
    cases rv
    rfl
/-- a def's table of code objects, from what is written of it -/
theorem tabz {p : Program} {loose : List Str} {mean : ExcName → Option Value} {mg mb : Str → Option Value} {h : Heap} {K : PySem.W.Frag} {x : Str} {f c P : Addr} {oc ccl : Value} {od cod : Option Addr} {fd : FuncData} {osl csl : Array (Option Value)} {vs : Array Value}
    (T : Top p loose mean mg mb h) (X : K.In h) (a : PySem.W.nsIn K mainGlobals x = some (some (.ref f))) (l : K.lookup f = some ⟨oc, od, .func fd, osl⟩) (hc : fd.code = .ref c) (lc : K.lookup c = some ⟨ccl, cod, .fields vs, csl⟩)
    (h11 : vs[11]? = some (.ref P)) (hr : (recsOf p).any (fun e => e.name == x) = true) : PySem.W.CodeHd h c P ∧ h.get? P = some { cls := .none, data := .fields #[] } := by
  obtain ⟨d, hd, hx⟩ := List.any_eq_true.mp hr
  cases hf : (recsOf p).find? (fun e => e.name == x) with
  | none => exact absurd hx (List.find?_eq_none.mp hf d hd)
  | some d' => exact PySem.W.tab_of (x := x) T X hf (by unfold PySem.W.tabIn; rw [a]; simp only [l, hc, lc, h11])
theorem lawAt {l : PySem.W.OpenLaw} {w : World} {K : PySem.W.Frag} {k n : Nat} {mg : Str → Option Value} {fa f : Addr} {h : Heap} {T : List (Addr × Str)} {cs : List (Addr × Addr)} {ec : Nat → Value} {st : Stmt} {fn : Fn} {x : Str}
    {oc : Value} {od : Option Addr} {kV doc pm : Value} {an : Option Addr} {cdv ct : Value} {osl : Array (Option Value)} (hb : n ≤ sizeLine)
    (hcs : ∀ p ∈ cs, PySem.W.CodeHd h p.1 p.2 ∧ h.get? p.2 = some { cls := .none, data := .fields #[] }) (hK : ∀ p ∈ cs, K.lookup p.2 = none) (hT : ∀ p ∈ T, p.1 ∈ cs.map (·.2)) (hmg : mg "law" = some (.ref fa)) (hm : mg "law" = some (.ref f))
    (lk : K.lookup f = some ⟨oc, od, .func (PySem.W.fnOf "law" "law" (defArgs st) (defBody st) (defScope st) .none kV doc pm an cdv ct), osl⟩)
    (hbind : ∀ (s : Shared) (u : Value), BindsTo s (PySem.W.fnOf "law" "law" (defArgs st) (defBody st) (defScope st) .none kV doc pm an cdv ct) ⟨[u], []⟩ [(x, u)])
    (hF : ∀ base : Heap, K.In base → base.Ns mainGlobals mg → (∀ p ∈ cs, LamX.TabB base mg p.1 p.2) → HasL ⟨T, ec⟩ l.prog w K mg base k "law" st [x] fn)
    (hlaw : ∀ ns : List Int, ns.length ≤ n → (∀ z ∈ ns, Builtin.Int.intBits z ≤ 1048576) → ∃ st, fn [.frz (ns.map .int)] [] = .ok (.bl true) st) :
    LamX.LawAtS l w K (L2.CX l.prog w) k n x mg fa h := by
  have e : f = fa := by
    rw [hm] at hmg
    cases hmg
    rfl
  subst e
  refine ⟨_, cs, spD K ⟨T, ec⟩ 1 fn, fun p hp => (hcs p hp).2, hK, fun p hp => (hcs p hp).1, hbind, fun H a ns h1 h2 h3 h4 => ?_, fun base b1 b2 b3 => ?_⟩
  · refine spD_law (fun p hp => ?_) h4 (hlaw ns h1 h2)
    obtain ⟨q, hq, eq⟩ := List.mem_map.mp (hT p hp)
    rw [← eq]
    exact h3 q hq
  · obtain ⟨fa', hm', hf⟩ := hF base b1 b2 b3
    have e2 : fa' = f := by
      rw [hm] at hm'
      cases hm'
      rfl
    subst e2
    exact hf _ _ _ _ _ _ _ _ _ lk
theorem uniq_of {T : List (Addr × Str)} {t : Addr} {q : Str} (u : (T.map (·.1)).Nodup) (h : (t, q) ∈ T) : ∀ p ∈ T, p.1 = t → p.2 = q := by
  intro p hp e
  induction T with
  | nil => cases h
  | cons x r ih =>
    simp only [List.map_cons, List.nodup_cons] at u
    rcases List.mem_cons.mp hp with rfl | hp
    · rcases List.mem_cons.mp h with h | h
      · rw [← h]
      · exact absurd (List.mem_map_of_mem (f := (·.1)) h) (by rw [← e]; exact u.1)
    · rcases List.mem_cons.mp h with h | h
      · rw [← h] at u
        exact absurd (List.mem_map_of_mem (f := (·.1)) hp) (by rw [e]; exact u.1)
      · exact ih u.2 h hp
end DV

set_option Elab.async false
set_option linter.all false
set_option maxRecDepth 100000
set_option maxHeartbeats 4000000
namespace K01
open PySem PySem.Spec PyProof.Rows L2 DV
def tp (i : Nat) : Stmt := PySem.Challenge.pw_flatstack_k01_points_and_their_sides.main.body.getD i (.Pass ⟨0, 0, 0, 0⟩)
structure Txt (g : Gp) (K : PySem.W.Frag) (mg : Str → Option Value) (base : Heap) : Prop where
  d_check_point : ∃ f c, FunZ K mg "check_point" (tp 5) f c
  d_cross_of : ∃ f c, FunZ K mg "cross_of" (tp 6) f c
  d_side_of : ∃ f c, FunZ K mg "side_of" (tp 7) f c
  d_dot_of : ∃ f c, FunZ K mg "dot_of" (tp 8) f c
  d_square_far : ∃ f c, FunZ K mg "square_far" (tp 9) f c
  d_block_far : ∃ f c, FunZ K mg "block_far" (tp 10) f c
  d_king_far : ∃ f c, FunZ K mg "king_far" (tp 11) f c
  d_whole_common : ∃ f c, FunZ K mg "whole_common" (tp 12) f c
  d_broken : ∃ f c, FunZ K mg "broken" (tp 13) f c
  d_half_of : ∃ f c, FunZ K mg "half_of" (tp 14) f c
  d_turns_ahead : ∃ f c, FunZ K mg "turns_ahead" (tp 15) f c
  d_in_round : ∃ f c, FunZ K mg "in_round" (tp 16) f c
  d_is_between : ∃ f c, FunZ K mg "is_between" (tp 17) f c
  d_box_of : ∃ f c, FunZ K mg "box_of" (tp 18) f c
  d_boxes_meet : ∃ f c, FunZ K mg "boxes_meet" (tp 19) f c
  d_middle_of : ∃ f c t, FunZ K mg "middle_of" (tp 20) f c ∧ LamX.TabB base mg c t ∧ (t, ("middle_of" : Str) ++ ".<locals>.<genexpr>") ∈ g.T ∧ ∀ p ∈ g.T, p.1 = t → p.2 = ("middle_of" : Str) ++ ".<locals>.<genexpr>"
  d_steps_between : ∃ f c t, FunZ K mg "steps_between" (tp 21) f c ∧ LamX.TabB base mg c t ∧ (t, ("steps_between" : Str) ++ ".<locals>.<genexpr>") ∈ g.T ∧ ∀ p ∈ g.T, p.1 = t → p.2 = ("steps_between" : Str) ++ ".<locals>.<genexpr>"
  d_right_angles : ∃ f c, FunZ K mg "right_angles" (tp 22) f c
  d_most_in_line : ∃ f c t, FunZ K mg "most_in_line" (tp 23) f c ∧ LamX.TabB base mg c t ∧ (t, ("most_in_line" : Str) ++ ".<locals>.<genexpr>") ∈ g.T ∧ ∀ p ∈ g.T, p.1 = t → p.2 = ("most_in_line" : Str) ++ ".<locals>.<genexpr>"
  d__law_dice : ∃ f c, FunZ K mg "_law_dice" (tp 25) f c
  d__law_roll : ∃ f c, FunZ K mg "_law_roll" (tp 26) f c
  d__law_rounds : ∃ f c, FunZ K mg "_law_rounds" (tp 27) f c
  d__law_told : ∃ f c, FunZ K mg "_law_told" (tp 28) f c
  d__law_low : ∃ f c, FunZ K mg "_law_low" (tp 29) f c
  d__law_turn : ∃ f c, FunZ K mg "_law_turn" (tp 30) f c
  d__law_point : ∃ f c, FunZ K mg "_law_point" (tp 31) f c
  d__law_quarter : ∃ f c, FunZ K mg "_law_quarter" (tp 32) f c
  d__law_ahead : ∃ f c, FunZ K mg "_law_ahead" (tp 33) f c
  d__law_board : ∃ f c, FunZ K mg "_law_board" (tp 34) f c
  d__law_shared : ∃ f c, FunZ K mg "_law_shared" (tp 35) f c
  d__law_plain : ∃ f c t, FunZ K mg "_law_plain" (tp 36) f c ∧ LamX.TabB base mg c t ∧ (t, ("_law_plain" : Str) ++ ".<locals>.<lambda>") ∈ g.T ∧ ∀ p ∈ g.T, p.1 = t → p.2 = ("_law_plain" : Str) ++ ".<locals>.<lambda>"
  d_law : ∃ f c t, FunZ K mg "law" (tp 37) f c ∧ LamX.TabB base mg c t ∧ (t, ("law" : Str) ++ ".<locals>.<lambda>") ∈ g.T ∧ ∀ p ∈ g.T, p.1 = t → p.2 = ("law" : Str) ++ ".<locals>.<lambda>"
  z_abs : mg "abs" = none
  z_enumerate : mg "enumerate" = none
  z_int : mg "int" = none
  z_len : mg "len" = none
  z_list : mg "list" = none
  z_max : mg "max" = none
  z_min : mg "min" = none
  z_range : mg "range" = none
  z_sorted : mg "sorted" = none
  z_sum : mg "sum" = none
  z_tuple : mg "tuple" = none
  z_zip : mg "zip" = none
  c_FAR : ∃ t, mg "FAR" = some (.int 1000000 t)
  e0 : ∃ (C : Addr) (bmB : List Value) (Bt newId initId : String), g.ec 0 = .ref C ∧ ExcBaseFacts Bt newId initId bmB ∧ PySem.W.excIn K C bmB newId = true ∧ mg "PointError" = some (.ref C) ∧ PySem.W.keepIn K (.ref C) = true ∧ PySem.W.subIn K (.ref C) (.type "BaseException") = some true ∧ PySem.W.typeIn K (.ref C) = some (.type "type") ∧ PySem.W.exmOne K (.ref C) (.ref C) = some true
section
variable {g : Gp} {K : PySem.W.Frag} {mg : Str → Option Value} {base : Heap} {P : Program} {w : World}
abbrev d_FAR : D := .int 1000000
theorem k_FAR (T : Txt g K mg base) {X : Cx} {B : Bs} {Z : ZZ} {pos : Pos} (hm : X.mg = mg := by rfl) (hg : Gl X "FAR" := by rfl) : DE g X B Z (.Name "FAR" pos) (eC d_FAR) := by
  obtain ⟨t, e⟩ := T.c_FAR
  exact de_glob (v := .int 1000000) hg (by rw [hm]; exact e) ⟨t, rfl⟩ fun _ _ => .int _
theorem r_raise (T : Txt g K mg base) {X : Cx} {B : Bs} {Z : ZZ} (l : Lets g X B Z) {m : Str} {j} {p p2 pos apos : Pos} (hc : X.calm = true := by rfl) (hK : X.K = K := by rfl) (hm : X.mg = mg := by rfl) (hg : Gl X "PointError" := by rfl) :
    DS g X B Z (.Raise (some (.Call (.Name "PointError" p) [.Constant (.str m) j p2] [] pos)) none apos) (sRaise 0) := by
  obtain ⟨C, bmB, Bt, newId, initId, h1, h2, h3, h4, h5, h6, h7, _⟩ := T.e0
  subst hK hm
  exact ds_raise hc l h1 h2 h3 h4 h5 h6 h7 hg
theorem td (T : Txt g K mg base) (X : Cx) (hK : X.K = K) (hm : X.mg = mg) : ToldF g X 0 "PointError" "_law_told" := by
  obtain ⟨C, bmB, Bt, newId, initId, h1, h2, h3, h4, h5, h6, h7, h8⟩ := T.e0
  obtain ⟨fa, c, Fu⟩ := T.d__law_told
  obtain ⟨oc, od, kV, doc, pm, an, ct, osl, lk⟩ := Fu.ex
  subst hK hm
  exact ⟨fa, c, _, tp 28, "what", "PointError", ["what"], C, _, _, _, _, _, _, _, _, _, ⟨⟨oc, od, .none, kV, doc, pm, an, ct, osl, rfl, lk⟩, Fu.code, Fu.kp⟩, Fu.at_, .all (fun us hl => match us, hl with | [_], _ => rfl), ⟨rfl, rfl, rfl, by decide +kernel, rfl, by decide +kernel, by decide +kernel⟩, rfl, vis_of rfl, rfl, rfl, h4, by decide, by decide, by decide, by rw [h1]; exact h8⟩
abbrev N_check_point : List Str := ["point"]
def b_check_point : SF := sIf (tOr2 (tCmpD (hNe) (eN hLen (aCons (eVar 0) (aNil))) (eC (.int 2))) (tNot1 (tChN (eOp hSub (eC (.int 0)) (eC (d_FAR))) (cLink (hLe) (eN hMin (aCons (eVar 0) (aNil))) (cLink (hLe) (eN hMax (aCons (eVar 0) (aNil))) (cLast (hLe) (eC (d_FAR)))))))) (sRaise 0) (sNx)
def f_check_point : Fn := runF 1 1 b_check_point
theorem nd_check_point : (N_check_point).Nodup := by decide +kernel
theorem sc_check_point : FnScope N_check_point ["point"] (defScope (tp 5)) := ⟨rfl, rfl, rfl, by decide +kernel, rfl, by decide +kernel, by decide +kernel⟩
theorem h_check_point (T : Txt g K mg base) : Has g P w K mg base 1 "check_point" 1 [] f_check_point := by
  obtain ⟨fa, c, Fu⟩ := T.d_check_point
  exact has_z (N := N_check_point) (ps := ["point"]) (k := 0) Fu sc_check_point (fun _ _ _ _ _ _ us hl => match us, hl with | [_], _ => rfl) fun A outer s H E B Z hr hl => dss_one (ds_if (dt_w (dw_or (dt_cmp (op_Ne (room65 hr)) (de_callB c_len rfl T.z_len rfl (da_cons (de_var (i := 0) rfl (vis_of rfl)) (da_nil))) (de_int) rfl) (dw_or1 (dt_not (dt_chN (de_op op_Sub (de_int) (k_FAR T)) (dch_link (op_Le (room65 hr)) (de_callB (c_min rfl (room65 hr)) rfl T.z_min rfl (da_cons (de_var (i := 0) rfl (vis_of rfl)) (da_nil))) (dch_link (op_Le (room65 hr)) (de_callB (c_max rfl (room65 hr)) rfl T.z_max rfl (da_cons (de_var (i := 0) rfl (vis_of rfl)) (da_nil))) (dch_last (op_Le (room65 hr)) (k_FAR T))))))))) (dss_one (r_raise T hl)) (dss_nil))
abbrev N_cross_of : List Str := ["start", "one", "other"]
def b_cross_of : SF := sRet (eOp hSub (eOp hMul (eOp hSub (eOp hIx (eVar 1) (eC (.int 0))) (eOp hIx (eVar 0) (eC (.int 0)))) (eOp hSub (eOp hIx (eVar 2) (eC (.int 1))) (eOp hIx (eVar 0) (eC (.int 1))))) (eOp hMul (eOp hSub (eOp hIx (eVar 1) (eC (.int 1))) (eOp hIx (eVar 0) (eC (.int 1)))) (eOp hSub (eOp hIx (eVar 2) (eC (.int 0))) (eOp hIx (eVar 0) (eC (.int 0))))))
def f_cross_of : Fn := runF 3 3 b_cross_of
theorem nd_cross_of : (N_cross_of).Nodup := by decide +kernel
theorem sc_cross_of : FnScope N_cross_of ["start", "one", "other"] (defScope (tp 6)) := ⟨rfl, rfl, rfl, by decide +kernel, rfl, by decide +kernel, by decide +kernel⟩
theorem h_cross_of (T : Txt g K mg base) : Has g P w K mg base 1 "cross_of" 3 [] f_cross_of := by
  obtain ⟨fa, c, Fu⟩ := T.d_cross_of
  exact has_z (N := N_cross_of) (ps := ["start", "one", "other"]) (k := 0) Fu sc_cross_of (fun _ _ _ _ _ _ us hl => match us, hl with | [_, _, _], _ => rfl) fun A outer s H E B Z hr hl => dss_one (ds_ret (de_op op_Sub (de_op op_Mul (de_op op_Sub (de_ix (de_var (i := 1) rfl (vis_of rfl)) (de_int) (fun _ _ => rfl)) (de_ix (de_var (i := 0) rfl (vis_of rfl)) (de_int) (fun _ _ => rfl))) (de_op op_Sub (de_ix (de_var (i := 2) rfl (vis_of rfl)) (de_int) (fun _ _ => rfl)) (de_ix (de_var (i := 0) rfl (vis_of rfl)) (de_int) (fun _ _ => rfl)))) (de_op op_Mul (de_op op_Sub (de_ix (de_var (i := 1) rfl (vis_of rfl)) (de_int) (fun _ _ => rfl)) (de_ix (de_var (i := 0) rfl (vis_of rfl)) (de_int) (fun _ _ => rfl))) (de_op op_Sub (de_ix (de_var (i := 2) rfl (vis_of rfl)) (de_int) (fun _ _ => rfl)) (de_ix (de_var (i := 0) rfl (vis_of rfl)) (de_int) (fun _ _ => rfl))))))
abbrev N_side_of : List Str := ["start", "end", "point", "found"]
def b_side_of : SF := sSeq (sSet 3 (eCallD f_cross_of [] (aCons (eVar 0) (aCons (eVar 1) (aCons (eVar 2) (aNil)))))) (sRet (eIf (tCmpD (hGt) (eVar 3) (eC (.int 0))) (eC (.int 1)) (eIf (tCmpD (hLt) (eVar 3) (eC (.int 0))) (eOp hSub (eC (.int 0)) (eC (.int 1))) (eC (.int 0)))))
def f_side_of : Fn := runF 3 4 b_side_of
theorem nd_side_of : (N_side_of).Nodup := by decide +kernel
theorem sc_side_of : FnScope N_side_of ["start", "end", "point"] (defScope (tp 7)) := ⟨rfl, rfl, rfl, by decide +kernel, rfl, by decide +kernel, by decide +kernel⟩
theorem h_side_of (T : Txt g K mg base) : Has g P w K mg base 2 "side_of" 3 [] f_side_of := by
  obtain ⟨fa, c, Fu⟩ := T.d_side_of
  exact has_z (N := N_side_of) (ps := ["start", "end", "point"]) (k := 1) Fu sc_side_of (fun _ _ _ _ _ _ us hl => match us, hl with | [_, _, _], _ => rfl) fun A outer s H E B Z hr hl => dss_cons (ds_set (i := 3) nd_side_of rfl (loc_of rfl) (de_fn ((h_cross_of T).mono (by decide)) hr rfl hl (da_cons (de_var (i := 0) rfl (vis_of rfl)) (da_cons (de_var (i := 1) rfl (vis_of rfl)) (da_cons (de_var (i := 2) rfl (vis_of rfl)) (da_nil)))))) (dss_one (ds_ret (de_if (dt_cmp (op_Gt (room65 hr)) (de_var (i := 3) rfl (vis_of rfl)) (de_int) rfl) (de_int) (de_if (dt_cmp (op_Lt (room65 hr)) (de_var (i := 3) rfl (vis_of rfl)) (de_int) rfl) (de_op op_Sub (de_int) (de_int)) (de_int)))))
abbrev N_dot_of : List Str := ["start", "one", "other"]
def b_dot_of : SF := sRet (eOp hAdd (eOp hMul (eOp hSub (eOp hIx (eVar 1) (eC (.int 0))) (eOp hIx (eVar 0) (eC (.int 0)))) (eOp hSub (eOp hIx (eVar 2) (eC (.int 0))) (eOp hIx (eVar 0) (eC (.int 0))))) (eOp hMul (eOp hSub (eOp hIx (eVar 1) (eC (.int 1))) (eOp hIx (eVar 0) (eC (.int 1)))) (eOp hSub (eOp hIx (eVar 2) (eC (.int 1))) (eOp hIx (eVar 0) (eC (.int 1))))))
def f_dot_of : Fn := runF 3 3 b_dot_of
theorem nd_dot_of : (N_dot_of).Nodup := by decide +kernel
theorem sc_dot_of : FnScope N_dot_of ["start", "one", "other"] (defScope (tp 8)) := ⟨rfl, rfl, rfl, by decide +kernel, rfl, by decide +kernel, by decide +kernel⟩
theorem h_dot_of (T : Txt g K mg base) : Has g P w K mg base 1 "dot_of" 3 [] f_dot_of := by
  obtain ⟨fa, c, Fu⟩ := T.d_dot_of
  exact has_z (N := N_dot_of) (ps := ["start", "one", "other"]) (k := 0) Fu sc_dot_of (fun _ _ _ _ _ _ us hl => match us, hl with | [_, _, _], _ => rfl) fun A outer s H E B Z hr hl => dss_one (ds_ret (de_op op_Add (de_op op_Mul (de_op op_Sub (de_ix (de_var (i := 1) rfl (vis_of rfl)) (de_int) (fun _ _ => rfl)) (de_ix (de_var (i := 0) rfl (vis_of rfl)) (de_int) (fun _ _ => rfl))) (de_op op_Sub (de_ix (de_var (i := 2) rfl (vis_of rfl)) (de_int) (fun _ _ => rfl)) (de_ix (de_var (i := 0) rfl (vis_of rfl)) (de_int) (fun _ _ => rfl)))) (de_op op_Mul (de_op op_Sub (de_ix (de_var (i := 1) rfl (vis_of rfl)) (de_int) (fun _ _ => rfl)) (de_ix (de_var (i := 0) rfl (vis_of rfl)) (de_int) (fun _ _ => rfl))) (de_op op_Sub (de_ix (de_var (i := 2) rfl (vis_of rfl)) (de_int) (fun _ _ => rfl)) (de_ix (de_var (i := 0) rfl (vis_of rfl)) (de_int) (fun _ _ => rfl))))))
abbrev N_square_far : List Str := ["one", "other"]
def b_square_far : SF := sRet (eOp hAdd (eOp hPow (eOp hSub (eOp hIx (eVar 0) (eC (.int 0))) (eOp hIx (eVar 1) (eC (.int 0)))) (eC (.int 2))) (eOp hPow (eOp hSub (eOp hIx (eVar 0) (eC (.int 1))) (eOp hIx (eVar 1) (eC (.int 1)))) (eC (.int 2))))
def f_square_far : Fn := runF 2 2 b_square_far
theorem nd_square_far : (N_square_far).Nodup := by decide +kernel
theorem sc_square_far : FnScope N_square_far ["one", "other"] (defScope (tp 9)) := ⟨rfl, rfl, rfl, by decide +kernel, rfl, by decide +kernel, by decide +kernel⟩
theorem h_square_far (T : Txt g K mg base) : Has g P w K mg base 1 "square_far" 2 [] f_square_far := by
  obtain ⟨fa, c, Fu⟩ := T.d_square_far
  exact has_z (N := N_square_far) (ps := ["one", "other"]) (k := 0) Fu sc_square_far (fun _ _ _ _ _ _ us hl => match us, hl with | [_, _], _ => rfl) fun A outer s H E B Z hr hl => dss_one (ds_ret (de_op op_Add (de_op op_Pow (de_op op_Sub (de_ix (de_var (i := 0) rfl (vis_of rfl)) (de_int) (fun _ _ => rfl)) (de_ix (de_var (i := 1) rfl (vis_of rfl)) (de_int) (fun _ _ => rfl))) (de_int)) (de_op op_Pow (de_op op_Sub (de_ix (de_var (i := 0) rfl (vis_of rfl)) (de_int) (fun _ _ => rfl)) (de_ix (de_var (i := 1) rfl (vis_of rfl)) (de_int) (fun _ _ => rfl))) (de_int))))
abbrev N_block_far : List Str := ["one", "other"]
def b_block_far : SF := sRet (eOp hAdd (eN hAbs (aCons (eOp hSub (eOp hIx (eVar 0) (eC (.int 0))) (eOp hIx (eVar 1) (eC (.int 0)))) (aNil))) (eN hAbs (aCons (eOp hSub (eOp hIx (eVar 0) (eC (.int 1))) (eOp hIx (eVar 1) (eC (.int 1)))) (aNil))))
def f_block_far : Fn := runF 2 2 b_block_far
theorem nd_block_far : (N_block_far).Nodup := by decide +kernel
theorem sc_block_far : FnScope N_block_far ["one", "other"] (defScope (tp 10)) := ⟨rfl, rfl, rfl, by decide +kernel, rfl, by decide +kernel, by decide +kernel⟩
theorem h_block_far (T : Txt g K mg base) : Has g P w K mg base 1 "block_far" 2 [] f_block_far := by
  obtain ⟨fa, c, Fu⟩ := T.d_block_far
  exact has_z (N := N_block_far) (ps := ["one", "other"]) (k := 0) Fu sc_block_far (fun _ _ _ _ _ _ us hl => match us, hl with | [_, _], _ => rfl) fun A outer s H E B Z hr hl => dss_one (ds_ret (de_op op_Add (de_callB c_abs rfl T.z_abs rfl (da_cons (de_op op_Sub (de_ix (de_var (i := 0) rfl (vis_of rfl)) (de_int) (fun _ _ => rfl)) (de_ix (de_var (i := 1) rfl (vis_of rfl)) (de_int) (fun _ _ => rfl))) (da_nil))) (de_callB c_abs rfl T.z_abs rfl (da_cons (de_op op_Sub (de_ix (de_var (i := 0) rfl (vis_of rfl)) (de_int) (fun _ _ => rfl)) (de_ix (de_var (i := 1) rfl (vis_of rfl)) (de_int) (fun _ _ => rfl))) (da_nil)))))
abbrev N_king_far : List Str := ["one", "other"]
def b_king_far : SF := sRet (eN hMax (aCons (eN hAbs (aCons (eOp hSub (eOp hIx (eVar 0) (eC (.int 0))) (eOp hIx (eVar 1) (eC (.int 0)))) (aNil))) (aCons (eN hAbs (aCons (eOp hSub (eOp hIx (eVar 0) (eC (.int 1))) (eOp hIx (eVar 1) (eC (.int 1)))) (aNil))) (aNil))))
def f_king_far : Fn := runF 2 2 b_king_far
theorem nd_king_far : (N_king_far).Nodup := by decide +kernel
theorem sc_king_far : FnScope N_king_far ["one", "other"] (defScope (tp 11)) := ⟨rfl, rfl, rfl, by decide +kernel, rfl, by decide +kernel, by decide +kernel⟩
theorem h_king_far (T : Txt g K mg base) : Has g P w K mg base 1 "king_far" 2 [] f_king_far := by
  obtain ⟨fa, c, Fu⟩ := T.d_king_far
  exact has_z (N := N_king_far) (ps := ["one", "other"]) (k := 0) Fu sc_king_far (fun _ _ _ _ _ _ us hl => match us, hl with | [_, _], _ => rfl) fun A outer s H E B Z hr hl => dss_one (ds_ret (de_callB (c_max rfl (room65 hr)) rfl T.z_max rfl (da_cons (de_callB c_abs rfl T.z_abs rfl (da_cons (de_op op_Sub (de_ix (de_var (i := 0) rfl (vis_of rfl)) (de_int) (fun _ _ => rfl)) (de_ix (de_var (i := 1) rfl (vis_of rfl)) (de_int) (fun _ _ => rfl))) (da_nil))) (da_cons (de_callB c_abs rfl T.z_abs rfl (da_cons (de_op op_Sub (de_ix (de_var (i := 0) rfl (vis_of rfl)) (de_int) (fun _ _ => rfl)) (de_ix (de_var (i := 1) rfl (vis_of rfl)) (de_int) (fun _ _ => rfl))) (da_nil))) (da_nil)))))
abbrev N_whole_common : List Str := ["one", "other"]
def b_whole_common : SF := sSeq (sPar 0 1 (aCons (eN hAbs (aCons (eVar 0) (aNil))) (aCons (eN hAbs (aCons (eVar 1) (aNil))) (aNil)))) (sSeq (sWhile (fuelAbs 1) (tCmpD (hNe) (eVar 1) (eC (.int 0))) (sPar 0 1 (aCons (eVar 1) (aCons (eOp hMod (eVar 0) (eVar 1)) (aNil))))) (sRet (eN hMax (aCons (eC (.int 1)) (aCons (eVar 0) (aNil))))))
def f_whole_common : Fn := runF 2 2 b_whole_common
theorem nd_whole_common : (N_whole_common).Nodup := by decide +kernel
theorem sc_whole_common : FnScope N_whole_common ["one", "other"] (defScope (tp 12)) := ⟨rfl, rfl, rfl, by decide +kernel, rfl, by decide +kernel, by decide +kernel⟩
theorem h_whole_common (T : Txt g K mg base) : Has g P w K mg base 1 "whole_common" 2 [] f_whole_common := by
  obtain ⟨fa, c, Fu⟩ := T.d_whole_common
  exact has_z (N := N_whole_common) (ps := ["one", "other"]) (k := 0) Fu sc_whole_common (fun _ _ _ _ _ _ us hl => match us, hl with | [_, _], _ => rfl) fun A outer s H E B Z hr hl => dss_cons (ds_par (i := 0) (j := 1) rfl nd_whole_common rfl rfl (by decide) rfl rfl (da_cons (de_callB c_abs rfl T.z_abs rfl (da_cons (de_var (i := 0) rfl (vis_of rfl)) (da_nil))) (da_cons (de_callB c_abs rfl T.z_abs rfl (da_cons (de_var (i := 1) rfl (vis_of rfl)) (da_nil))) (da_nil))) rfl) (dss_cons (ds_while (fu := fuelAbs 1) (L2.passes_of rfl) (dt_cmp (op_Ne (room65 hr)) (de_var (i := 1) rfl (vis_of rfl)) (de_int) rfl) (dss_one (ds_par (i := 0) (j := 1) rfl nd_whole_common rfl rfl (by decide) rfl rfl (da_cons (de_var (i := 1) rfl (vis_of rfl)) (da_cons (de_op op_Mod (de_var (i := 0) rfl (vis_of rfl)) (de_var (i := 1) rfl (vis_of rfl))) (da_nil))) rfl))) (dss_one (ds_ret (de_callB (c_max rfl (room65 hr)) rfl T.z_max rfl (da_cons (de_int) (da_cons (de_var (i := 0) rfl (vis_of rfl)) (da_nil)))))))
abbrev N_broken : List Str := ["top", "bottom", "sign", "both"]
def b_broken : SF := sSeq (sIf (tCmpD (hEq) (eVar 1) (eC (.int 0))) (sRaise 0) (sNx)) (sSeq (sSet 2 (eIf (tCmpD (hLt) (eVar 1) (eC (.int 0))) (eOp hSub (eC (.int 0)) (eC (.int 1))) (eC (.int 1)))) (sSeq (sSet 3 (eCallD f_whole_common [] (aCons (eVar 0) (aCons (eVar 1) (aNil))))) (sRet (eTup (aCons (eOp hDiv (eOp hMul (eVar 2) (eVar 0)) (eVar 3)) (aCons (eOp hDiv (eOp hMul (eVar 2) (eVar 1)) (eVar 3)) (aNil)))))))
def f_broken : Fn := runF 2 4 b_broken
theorem nd_broken : (N_broken).Nodup := by decide +kernel
theorem sc_broken : FnScope N_broken ["top", "bottom"] (defScope (tp 13)) := ⟨rfl, rfl, rfl, by decide +kernel, rfl, by decide +kernel, by decide +kernel⟩
theorem h_broken (T : Txt g K mg base) : Has g P w K mg base 2 "broken" 2 [] f_broken := by
  obtain ⟨fa, c, Fu⟩ := T.d_broken
  exact has_z (N := N_broken) (ps := ["top", "bottom"]) (k := 1) Fu sc_broken (fun _ _ _ _ _ _ us hl => match us, hl with | [_, _], _ => rfl) fun A outer s H E B Z hr hl => dss_cons (ds_if (dt_cmp (op_Eq (room65 hr)) (de_var (i := 1) rfl (vis_of rfl)) (de_int) rfl) (dss_one (r_raise T hl)) (dss_nil)) (dss_cons (ds_set (i := 2) nd_broken rfl (loc_of rfl) (de_if (dt_cmp (op_Lt (room65 hr)) (de_var (i := 1) rfl (vis_of rfl)) (de_int) rfl) (de_op op_Sub (de_int) (de_int)) (de_int))) (dss_cons (ds_set (i := 3) nd_broken rfl (loc_of rfl) (de_fn ((h_whole_common T).mono (by decide)) hr rfl hl (da_cons (de_var (i := 0) rfl (vis_of rfl)) (da_cons (de_var (i := 1) rfl (vis_of rfl)) (da_nil))))) (dss_one (ds_ret (de_tup (da_cons (de_op op_Div (de_op op_Mul (de_var (i := 2) rfl (vis_of rfl)) (de_var (i := 0) rfl (vis_of rfl))) (de_var (i := 3) rfl (vis_of rfl))) (da_cons (de_op op_Div (de_op op_Mul (de_var (i := 2) rfl (vis_of rfl)) (de_var (i := 1) rfl (vis_of rfl))) (de_var (i := 3) rfl (vis_of rfl))) (da_nil))))))))
abbrev N_half_of : List Str := ["point", "start", "x", "y"]
def b_half_of : SF := sSeq (sPar 2 3 (aCons (eOp hSub (eOp hIx (eVar 0) (eC (.int 0))) (eOp hIx (eVar 1) (eC (.int 0)))) (aCons (eOp hSub (eOp hIx (eVar 0) (eC (.int 1))) (eOp hIx (eVar 1) (eC (.int 1)))) (aNil)))) (sSeq (sIf (tAnd2 (tCmpD (hEq) (eVar 2) (eC (.int 0))) (tCmpD (hEq) (eVar 3) (eC (.int 0)))) (sRaise 0) (sNx)) (sRet (eIf (tOr2 (tCmpD (hGt) (eVar 3) (eC (.int 0))) (tAnd2 (tCmpD (hEq) (eVar 3) (eC (.int 0))) (tCmpD (hGt) (eVar 2) (eC (.int 0))))) (eC (.int 0)) (eC (.int 1)))))
def f_half_of : Fn := runF 2 4 b_half_of
theorem nd_half_of : (N_half_of).Nodup := by decide +kernel
theorem sc_half_of : FnScope N_half_of ["point", "start"] (defScope (tp 14)) := ⟨rfl, rfl, rfl, by decide +kernel, rfl, by decide +kernel, by decide +kernel⟩
theorem h_half_of (T : Txt g K mg base) : Has g P w K mg base 1 "half_of" 2 [] f_half_of := by
  obtain ⟨fa, c, Fu⟩ := T.d_half_of
  exact has_z (N := N_half_of) (ps := ["point", "start"]) (k := 0) Fu sc_half_of (fun _ _ _ _ _ _ us hl => match us, hl with | [_, _], _ => rfl) fun A outer s H E B Z hr hl => dss_cons (ds_par (i := 2) (j := 3) rfl nd_half_of rfl rfl (by decide) rfl rfl (da_cons (de_op op_Sub (de_ix (de_var (i := 0) rfl (vis_of rfl)) (de_int) (fun _ _ => rfl)) (de_ix (de_var (i := 1) rfl (vis_of rfl)) (de_int) (fun _ _ => rfl))) (da_cons (de_op op_Sub (de_ix (de_var (i := 0) rfl (vis_of rfl)) (de_int) (fun _ _ => rfl)) (de_ix (de_var (i := 1) rfl (vis_of rfl)) (de_int) (fun _ _ => rfl))) (da_nil))) rfl) (dss_cons (ds_if (dt_w (dw_and (dt_cmp (op_Eq (room65 hr)) (de_var (i := 2) rfl (vis_of rfl)) (de_int) rfl) (dw_and1 (dt_cmp (op_Eq (room65 hr)) (de_var (i := 3) rfl (vis_of rfl)) (de_int) rfl)))) (dss_one (r_raise T hl)) (dss_nil)) (dss_one (ds_ret (de_if (dt_w (dw_or (dt_cmp (op_Gt (room65 hr)) (de_var (i := 3) rfl (vis_of rfl)) (de_int) rfl) (dw_or1 (dt_w (dw_and (dt_cmp (op_Eq (room65 hr)) (de_var (i := 3) rfl (vis_of rfl)) (de_int) rfl) (dw_and1 (dt_cmp (op_Gt (room65 hr)) (de_var (i := 2) rfl (vis_of rfl)) (de_int) rfl))))))) (de_int) (de_int)))))
abbrev N_turns_ahead : List Str := ["start", "one", "other", "half", "mate", "side"]
def b_turns_ahead : SF := sSeq (sPar 3 4 (aCons (eCallD f_half_of [] (aCons (eVar 1) (aCons (eVar 0) (aNil)))) (aCons (eCallD f_half_of [] (aCons (eVar 2) (aCons (eVar 0) (aNil)))) (aNil)))) (sSeq (sIf (tCmpD (hNe) (eVar 3) (eVar 4)) (sRet (eOp (hLt) (eVar 3) (eVar 4))) (sNx)) (sSeq (sSet 5 (eCallD f_side_of [] (aCons (eVar 0) (aCons (eVar 1) (aCons (eVar 2) (aNil)))))) (sRet (eOr (eOp (hGt) (eVar 5) (eC (.int 0))) (eAnd (eOp (hEq) (eVar 5) (eC (.int 0))) (eOp (hLt) (eCallD f_square_far [] (aCons (eVar 0) (aCons (eVar 1) (aNil)))) (eCallD f_square_far [] (aCons (eVar 0) (aCons (eVar 2) (aNil))))))))))
def f_turns_ahead : Fn := runF 3 6 b_turns_ahead
theorem nd_turns_ahead : (N_turns_ahead).Nodup := by decide +kernel
theorem sc_turns_ahead : FnScope N_turns_ahead ["start", "one", "other"] (defScope (tp 15)) := ⟨rfl, rfl, rfl, by decide +kernel, rfl, by decide +kernel, by decide +kernel⟩
theorem h_turns_ahead (T : Txt g K mg base) : Has g P w K mg base 3 "turns_ahead" 3 [] f_turns_ahead := by
  obtain ⟨fa, c, Fu⟩ := T.d_turns_ahead
  exact has_z (N := N_turns_ahead) (ps := ["start", "one", "other"]) (k := 2) Fu sc_turns_ahead (fun _ _ _ _ _ _ us hl => match us, hl with | [_, _, _], _ => rfl) fun A outer s H E B Z hr hl => dss_cons (ds_par (i := 3) (j := 4) rfl nd_turns_ahead rfl rfl (by decide) rfl rfl (da_cons (de_fn ((h_half_of T).mono (by decide)) hr rfl hl (da_cons (de_var (i := 1) rfl (vis_of rfl)) (da_cons (de_var (i := 0) rfl (vis_of rfl)) (da_nil)))) (da_cons (de_fn ((h_half_of T).mono (by decide)) hr rfl hl (da_cons (de_var (i := 2) rfl (vis_of rfl)) (da_cons (de_var (i := 0) rfl (vis_of rfl)) (da_nil)))) (da_nil))) rfl) (dss_cons (ds_if (dt_cmp (op_Ne (room65 hr)) (de_var (i := 3) rfl (vis_of rfl)) (de_var (i := 4) rfl (vis_of rfl)) rfl) (dss_one (ds_ret (de_cmp (op_Lt (room65 hr)) (de_var (i := 3) rfl (vis_of rfl)) (de_var (i := 4) rfl (vis_of rfl)) rfl))) (dss_nil)) (dss_cons (ds_set (i := 5) nd_turns_ahead rfl (loc_of rfl) (de_fn ((h_side_of T).mono (by decide)) hr rfl hl (da_cons (de_var (i := 0) rfl (vis_of rfl)) (da_cons (de_var (i := 1) rfl (vis_of rfl)) (da_cons (de_var (i := 2) rfl (vis_of rfl)) (da_nil)))))) (dss_one (ds_ret (de_or (de_cmp (op_Gt (room65 hr)) (de_var (i := 5) rfl (vis_of rfl)) (de_int) rfl) (de_one (de_and (de_cmp (op_Eq (room65 hr)) (de_var (i := 5) rfl (vis_of rfl)) (de_int) rfl) (de_one (de_cmp (op_Lt (room65 hr)) (de_fn ((h_square_far T).mono (by decide)) hr rfl hl (da_cons (de_var (i := 0) rfl (vis_of rfl)) (da_cons (de_var (i := 1) rfl (vis_of rfl)) (da_nil)))) (de_fn ((h_square_far T).mono (by decide)) hr rfl hl (da_cons (de_var (i := 0) rfl (vis_of rfl)) (da_cons (de_var (i := 2) rfl (vis_of rfl)) (da_nil)))) rfl)))))))))
abbrev N_in_round : List Str := ["start", "points", "found", "point", "place"]
def b_in_round : SF := sSeq (sLinD 2 (aNil)) (sSeq (sFor (aIt (eVar 1)) (gN 3) (sSeq (sSet 4 (eC (.int 0))) (sSeq (sWhile (fuelLen 4 2) (tAnd2 (tCmpD (hLt) (eVar 4) (eLenL 2)) (tNot1 (tVal (eCallD f_turns_ahead [] (aCons (eVar 0) (aCons (eVar 3) (aCons (eIxL 2 (eVar 4)) (aNil)))))))) (sAug 4 hAddI (eC (.int 1)))) (sSeq (sDrop (eCallD f_half_of [] (aCons (eVar 3) (aCons (eVar 0) (aNil))))) (sLinM 2 hInsL (aCons (eVar 4) (aCons (eVar 3) (aNil)))))))) (sSeq (sFrz 2) (sRet (eN hTuple (aCons (eVar 2) (aNil))))))
def f_in_round : Fn := runF 2 5 b_in_round
theorem nd_in_round : (N_in_round).Nodup := by decide +kernel
theorem sc_in_round : FnScope N_in_round ["start", "points"] (defScope (tp 16)) := ⟨rfl, rfl, rfl, by decide +kernel, rfl, by decide +kernel, by decide +kernel⟩
theorem h_in_round (T : Txt g K mg base) : Has g P w K mg base 4 "in_round" 2 [] f_in_round := by
  obtain ⟨fa, c, Fu⟩ := T.d_in_round
  exact has_z (N := N_in_round) (ps := ["start", "points"]) (k := 3) Fu sc_in_round (fun _ _ _ _ _ _ us hl => match us, hl with | [_, _], _ => rfl) fun A outer s H E B Z hr hl => dss_cons (ds_linD (i := 2) nd_in_round rfl (loc_of rfl) (da_nil)) (dss_cons (ds_for (ws := [3]) (L2.passes_of rfl) rfl (di_seq (de_var (i := 1) rfl (vis_of rfl))) (dg_name (i := 3) nd_in_round rfl (loc_of rfl)) (dss_cons (ds_set (i := 4) nd_in_round rfl (loc_of rfl) (de_int)) (dss_cons (ds_while (fu := fuelLen 4 2) (L2.passes_of rfl) (dt_w (dw_and (dt_cmp (op_Lt (room65 hr)) (de_var (i := 4) rfl (vis_of rfl)) (de_lenL (i := 2) rfl (vis_of rfl) rfl T.z_len rfl) rfl) (dw_and1 (dt_not (dt_val (de_fn ((h_turns_ahead T).mono (by decide)) hr rfl hl (da_cons (de_var (i := 0) rfl (vis_of rfl)) (da_cons (de_var (i := 3) rfl (vis_of rfl)) (da_cons (de_ixL (i := 2) rfl (vis_of rfl) (de_var (i := 4) rfl (vis_of rfl)) (fun _ _ => rfl)) (da_nil)))))))))) (dss_one (ds_aug (i := 4) nd_in_round rfl (loc_of rfl) (de_int) iop_Add))) (dss_cons (ds_expr (de_fn ((h_half_of T).mono (by decide)) hr rfl hl (da_cons (de_var (i := 3) rfl (vis_of rfl)) (da_cons (de_var (i := 0) rfl (vis_of rfl)) (da_nil))))) (dss_one (ds_insert (i := 2) rfl (vis_of rfl) (da_cons (de_var (i := 4) rfl (vis_of rfl)) (da_cons (de_var (i := 3) rfl (vis_of rfl)) (da_nil))))))))) (dss_frz (i := 2) (dss_one (ds_ret (de_callT c_tuple rfl T.z_tuple rfl (da_cons (de_var (i := 2) rfl (vis_of rfl)) (da_nil)))))))
abbrev N_is_between : List Str := ["start", "end", "point", "is_wide"]
def b_is_between : SF := sSeq (sIf (tCmpD (hNe) (eCallD f_side_of [] (aCons (eVar 0) (aCons (eVar 1) (aCons (eVar 2) (aNil))))) (eC (.int 0))) (sRet (eC (.bl false))) (sNx)) (sSeq (sSet 3 (eChain (hLe) (hLe) (eN hMin (aCons (eOp hIx (eVar 0) (eC (.int 0))) (aCons (eOp hIx (eVar 1) (eC (.int 0))) (aNil)))) (eOp hIx (eVar 2) (eC (.int 0))) (eN hMax (aCons (eOp hIx (eVar 0) (eC (.int 0))) (aCons (eOp hIx (eVar 1) (eC (.int 0))) (aNil)))))) (sRet (eAnd (eVar 3) (eChain (hLe) (hLe) (eN hMin (aCons (eOp hIx (eVar 0) (eC (.int 1))) (aCons (eOp hIx (eVar 1) (eC (.int 1))) (aNil)))) (eOp hIx (eVar 2) (eC (.int 1))) (eN hMax (aCons (eOp hIx (eVar 0) (eC (.int 1))) (aCons (eOp hIx (eVar 1) (eC (.int 1))) (aNil))))))))
def f_is_between : Fn := runF 3 4 b_is_between
theorem nd_is_between : (N_is_between).Nodup := by decide +kernel
theorem sc_is_between : FnScope N_is_between ["start", "end", "point"] (defScope (tp 17)) := ⟨rfl, rfl, rfl, by decide +kernel, rfl, by decide +kernel, by decide +kernel⟩
theorem h_is_between (T : Txt g K mg base) : Has g P w K mg base 3 "is_between" 3 [] f_is_between := by
  obtain ⟨fa, c, Fu⟩ := T.d_is_between
  exact has_z (N := N_is_between) (ps := ["start", "end", "point"]) (k := 2) Fu sc_is_between (fun _ _ _ _ _ _ us hl => match us, hl with | [_, _, _], _ => rfl) fun A outer s H E B Z hr hl => dss_cons (ds_if (dt_cmp (op_Ne (room65 hr)) (de_fn ((h_side_of T).mono (by decide)) hr rfl hl (da_cons (de_var (i := 0) rfl (vis_of rfl)) (da_cons (de_var (i := 1) rfl (vis_of rfl)) (da_cons (de_var (i := 2) rfl (vis_of rfl)) (da_nil))))) (de_int) rfl) (dss_one (ds_ret (de_bl))) (dss_nil)) (dss_cons (ds_set (i := 3) nd_is_between rfl (loc_of rfl) (de_chain (op_Le (room65 hr)) (op_Le (room65 hr)) (de_callB (c_min rfl (room65 hr)) rfl T.z_min rfl (da_cons (de_ix (de_var (i := 0) rfl (vis_of rfl)) (de_int) (fun _ _ => rfl)) (da_cons (de_ix (de_var (i := 1) rfl (vis_of rfl)) (de_int) (fun _ _ => rfl)) (da_nil)))) (de_ix (de_var (i := 2) rfl (vis_of rfl)) (de_int) (fun _ _ => rfl)) (de_callB (c_max rfl (room65 hr)) rfl T.z_max rfl (da_cons (de_ix (de_var (i := 0) rfl (vis_of rfl)) (de_int) (fun _ _ => rfl)) (da_cons (de_ix (de_var (i := 1) rfl (vis_of rfl)) (de_int) (fun _ _ => rfl)) (da_nil)))))) (dss_one (ds_ret (de_and (de_var (i := 3) rfl (vis_of rfl)) (de_one (de_chain (op_Le (room65 hr)) (op_Le (room65 hr)) (de_callB (c_min rfl (room65 hr)) rfl T.z_min rfl (da_cons (de_ix (de_var (i := 0) rfl (vis_of rfl)) (de_int) (fun _ _ => rfl)) (da_cons (de_ix (de_var (i := 1) rfl (vis_of rfl)) (de_int) (fun _ _ => rfl)) (da_nil)))) (de_ix (de_var (i := 2) rfl (vis_of rfl)) (de_int) (fun _ _ => rfl)) (de_callB (c_max rfl (room65 hr)) rfl T.z_max rfl (da_cons (de_ix (de_var (i := 0) rfl (vis_of rfl)) (de_int) (fun _ _ => rfl)) (da_cons (de_ix (de_var (i := 1) rfl (vis_of rfl)) (de_int) (fun _ _ => rfl)) (da_nil))))))))))
abbrev N_box_of : List Str := ["points", "xs", "ys", "point"]
def b_box_of : SF := sSeq (sIf (tCmpD (hEq) (eN hLen (aCons (eVar 0) (aNil))) (eC (.int 0))) (sRaise 0) (sNx)) (sSeq (sPar 1 2 (aCons (eLc (aIt (eVar 0)) (gN 3) (tYes1) (eOp hIx (eVar 3) (eC (.int 0))) [3]) (aCons (eLc (aIt (eVar 0)) (gN 3) (tYes1) (eOp hIx (eVar 3) (eC (.int 1))) [3]) (aNil)))) (sRet (eTup (aCons (eN hMin (aCons (eVar 1) (aNil))) (aCons (eN hMin (aCons (eVar 2) (aNil))) (aCons (eN hMax (aCons (eVar 1) (aNil))) (aCons (eN hMax (aCons (eVar 2) (aNil))) (aNil))))))))
def f_box_of : Fn := runF 1 4 b_box_of
theorem nd_box_of : (N_box_of).Nodup := by decide +kernel
theorem sc_box_of : FnScope N_box_of ["points"] (defScope (tp 18)) := ⟨rfl, rfl, rfl, by decide +kernel, rfl, by decide +kernel, by decide +kernel⟩
theorem h_box_of (T : Txt g K mg base) : Has g P w K mg base 1 "box_of" 1 [] f_box_of := by
  obtain ⟨fa, c, Fu⟩ := T.d_box_of
  exact has_z (N := N_box_of) (ps := ["points"]) (k := 0) Fu sc_box_of (fun _ _ _ _ _ _ us hl => match us, hl with | [_], _ => rfl) fun A outer s H E B Z hr hl => dss_cons (ds_if (dt_cmp (op_Eq (room65 hr)) (de_callB c_len rfl T.z_len rfl (da_cons (de_var (i := 0) rfl (vis_of rfl)) (da_nil))) (de_int) rfl) (dss_one (r_raise T hl)) (dss_nil)) (dss_cons (ds_par (i := 1) (j := 2) rfl nd_box_of rfl rfl (by decide) rfl rfl (da_cons (de_lc (own := [("point", 3)]) rfl nd_box_of (di_seq (de_var (i := 0) rfl (vis_of rfl))) (bk_by rfl) (fun _ _ _ _ _ => dg_name (i := 3) nd_box_of rfl (loc_of rfl)) (fun _ _ _ _ _ => dts_nil) (fun _ _ _ _ _ => de_ix (de_var (i := 3) rfl (vis_of rfl)) (de_int) (fun _ _ => rfl))) (da_cons (de_lc (own := [("point", 3)]) rfl nd_box_of (di_seq (de_var (i := 0) rfl (vis_of rfl))) (bk_by rfl) (fun _ _ _ _ _ => dg_name (i := 3) nd_box_of rfl (loc_of rfl)) (fun _ _ _ _ _ => dts_nil) (fun _ _ _ _ _ => de_ix (de_var (i := 3) rfl (vis_of rfl)) (de_int) (fun _ _ => rfl))) (da_nil))) rfl) (dss_one (ds_ret (de_tup (da_cons (de_callB (c_min rfl (room65 hr)) rfl T.z_min rfl (da_cons (de_var (i := 1) rfl (vis_of rfl)) (da_nil))) (da_cons (de_callB (c_min rfl (room65 hr)) rfl T.z_min rfl (da_cons (de_var (i := 2) rfl (vis_of rfl)) (da_nil))) (da_cons (de_callB (c_max rfl (room65 hr)) rfl T.z_max rfl (da_cons (de_var (i := 1) rfl (vis_of rfl)) (da_nil))) (da_cons (de_callB (c_max rfl (room65 hr)) rfl T.z_max rfl (da_cons (de_var (i := 2) rfl (vis_of rfl)) (da_nil))) (da_nil)))))))))
abbrev N_boxes_meet : List Str := ["one", "other"]
def b_boxes_meet : SF := sRet (eAnd (eOp (hLe) (eOp hIx (eVar 0) (eC (.int 0))) (eOp hIx (eVar 1) (eC (.int 2)))) (eAnd (eOp (hLe) (eOp hIx (eVar 1) (eC (.int 0))) (eOp hIx (eVar 0) (eC (.int 2)))) (eAnd (eOp (hLe) (eOp hIx (eVar 0) (eC (.int 1))) (eOp hIx (eVar 1) (eC (.int 3)))) (eOp (hLe) (eOp hIx (eVar 1) (eC (.int 1))) (eOp hIx (eVar 0) (eC (.int 3)))))))
def f_boxes_meet : Fn := runF 2 2 b_boxes_meet
theorem nd_boxes_meet : (N_boxes_meet).Nodup := by decide +kernel
theorem sc_boxes_meet : FnScope N_boxes_meet ["one", "other"] (defScope (tp 19)) := ⟨rfl, rfl, rfl, by decide +kernel, rfl, by decide +kernel, by decide +kernel⟩
theorem h_boxes_meet (T : Txt g K mg base) : Has g P w K mg base 1 "boxes_meet" 2 [] f_boxes_meet := by
  obtain ⟨fa, c, Fu⟩ := T.d_boxes_meet
  exact has_z (N := N_boxes_meet) (ps := ["one", "other"]) (k := 0) Fu sc_boxes_meet (fun _ _ _ _ _ _ us hl => match us, hl with | [_, _], _ => rfl) fun A outer s H E B Z hr hl => dss_one (ds_ret (de_and (de_cmp (op_Le (room65 hr)) (de_ix (de_var (i := 0) rfl (vis_of rfl)) (de_int) (fun _ _ => rfl)) (de_ix (de_var (i := 1) rfl (vis_of rfl)) (de_int) (fun _ _ => rfl)) rfl) (de_and (de_cmp (op_Le (room65 hr)) (de_ix (de_var (i := 1) rfl (vis_of rfl)) (de_int) (fun _ _ => rfl)) (de_ix (de_var (i := 0) rfl (vis_of rfl)) (de_int) (fun _ _ => rfl)) rfl) (de_and (de_cmp (op_Le (room65 hr)) (de_ix (de_var (i := 0) rfl (vis_of rfl)) (de_int) (fun _ _ => rfl)) (de_ix (de_var (i := 1) rfl (vis_of rfl)) (de_int) (fun _ _ => rfl)) rfl) (de_one (de_cmp (op_Le (room65 hr)) (de_ix (de_var (i := 1) rfl (vis_of rfl)) (de_int) (fun _ _ => rfl)) (de_ix (de_var (i := 0) rfl (vis_of rfl)) (de_int) (fun _ _ => rfl)) rfl))))))
abbrev N_middle_of : List Str := ["points", "x", "y", "point"]
def b_middle_of : SF := sSeq (sIf (tCmpD (hEq) (eN hLen (aCons (eVar 0) (aNil))) (eC (.int 0))) (sRaise 0) (sNx)) (sSeq (sPar 1 2 (aCons (eGen (sumD 0) (aIt (eVar 0)) (gN 3) (tYes1) (eOp hIx (eVar 3) (eC (.int 0))) [3]) (aCons (eGen (sumD 0) (aIt (eVar 0)) (gN 3) (tYes1) (eOp hIx (eVar 3) (eC (.int 1))) [3]) (aNil)))) (sRet (eTup (aCons (eCallD f_broken [] (aCons (eVar 1) (aCons (eN hLen (aCons (eVar 0) (aNil))) (aNil)))) (aCons (eCallD f_broken [] (aCons (eVar 2) (aCons (eN hLen (aCons (eVar 0) (aNil))) (aNil)))) (aNil))))))
def f_middle_of : Fn := runF 1 4 b_middle_of
theorem nd_middle_of : (N_middle_of).Nodup := by decide +kernel
theorem sc_middle_of : FnScope N_middle_of ["points"] (defScope (tp 20)) := ⟨rfl, rfl, rfl, by decide +kernel, rfl, by decide +kernel, by decide +kernel⟩
theorem h_middle_of (T : Txt g K mg base) : Has g P w K mg base 4 "middle_of" 1 [] f_middle_of := by
  obtain ⟨fa, c, tt, Fu, tb, tm, tu⟩ := T.d_middle_of
  exact has_z (N := N_middle_of) (ps := ["points"]) (k := 3) Fu sc_middle_of (fun _ _ _ _ _ _ us hl => match us, hl with | [_], _ => rfl) fun A outer s H E B Z hr hl => by
    have hcode : (envOfC "middle_of" (defScope (tp 20)) s.heap.objs.size fa (.ref c)).code = .ref c := rfl
    exact dss_cons (ds_if (dt_cmp (op_Eq (room65 hr)) (de_callB c_len rfl T.z_len rfl (da_cons (de_var (i := 0) rfl (vis_of rfl)) (da_nil))) (de_int) rfl) (dss_one (r_raise T hl)) (dss_nil)) (dss_cons (ds_par (i := 1) (j := 2) rfl nd_middle_of rfl rfl (by decide) rfl rfl (da_cons (de_genB (own := [("point", 3)]) rfl T.z_sum rfl hr tb hcode tm tu (gnS_by rfl) (di_seq (de_var (i := 0) rfl (vis_of rfl))) (sum_nx 0) (c_gsum (k := 0) (hr.mono (by decide)) (gnS_by rfl) nd_middle_of (fun A s0 H0 C code fp pn hr => dg_name (i := 3) nd_middle_of rfl (loc_of rfl)) (fun A s0 H0 C code fp pn hr => dts_nil) (fun A s0 H0 C code fp pn hr => de_ix (de_var (i := 3) rfl (vis_of rfl)) (de_int) (fun _ _ => rfl)))) (da_cons (de_genB (own := [("point", 3)]) rfl T.z_sum rfl hr tb hcode tm tu (gnS_by rfl) (di_seq (de_var (i := 0) rfl (vis_of rfl))) (sum_nx 0) (c_gsum (k := 0) (hr.mono (by decide)) (gnS_by rfl) nd_middle_of (fun A s0 H0 C code fp pn hr => dg_name (i := 3) nd_middle_of rfl (loc_of rfl)) (fun A s0 H0 C code fp pn hr => dts_nil) (fun A s0 H0 C code fp pn hr => de_ix (de_var (i := 3) rfl (vis_of rfl)) (de_int) (fun _ _ => rfl)))) (da_nil))) rfl) (dss_one (ds_ret (de_tup (da_cons (de_fn ((h_broken T).mono (by decide)) hr rfl hl (da_cons (de_var (i := 1) rfl (vis_of rfl)) (da_cons (de_callB c_len rfl T.z_len rfl (da_cons (de_var (i := 0) rfl (vis_of rfl)) (da_nil))) (da_nil)))) (da_cons (de_fn ((h_broken T).mono (by decide)) hr rfl hl (da_cons (de_var (i := 2) rfl (vis_of rfl)) (da_cons (de_callB c_len rfl T.z_len rfl (da_cons (de_var (i := 0) rfl (vis_of rfl)) (da_nil))) (da_nil)))) (da_nil)))))))
abbrev N_steps_between : List Str := ["start", "end", "x", "y", "many", "step"]
def b_steps_between : SF := sSeq (sAsg (eTup (aCons (eOp hSub (eOp hIx (eVar 1) (eC (.int 0))) (eOp hIx (eVar 0) (eC (.int 0)))) (aCons (eOp hSub (eOp hIx (eVar 1) (eC (.int 1))) (eOp hIx (eVar 0) (eC (.int 1)))) (aNil)))) (gT [gN 2, gN 3])) (sSeq (sSet 4 (eIf (tCmpD (hNe) (eTup (aCons (eVar 2) (aCons (eVar 3) (aNil)))) (eTup (aCons (eC (.int 0)) (aCons (eC (.int 0)) (aNil))))) (eCallD f_whole_common [] (aCons (eVar 2) (aCons (eVar 3) (aNil)))) (eC (.int 0)))) (sSeq (sIf (tCmpD (hEq) (eVar 4) (eC (.int 0))) (sRet (eTup (aCons (eN hTuple (aCons (eVar 0) (aNil))) (aNil)))) (sNx)) (sRet (eGen (tupD) (aRg1 (aCons (eOp hAdd (eVar 4) (eC (.int 1))) (aNil))) (gN 5) (tYes1) (eTup (aCons (eOp hAdd (eOp hIx (eVar 0) (eC (.int 0))) (eOp hMul (eOp hDiv (eVar 2) (eVar 4)) (eVar 5))) (aCons (eOp hAdd (eOp hIx (eVar 0) (eC (.int 1))) (eOp hMul (eOp hDiv (eVar 3) (eVar 4)) (eVar 5))) (aNil)))) [5]))))
def f_steps_between : Fn := runF 2 6 b_steps_between
theorem nd_steps_between : (N_steps_between).Nodup := by decide +kernel
theorem sc_steps_between : FnScope N_steps_between ["start", "end"] (defScope (tp 21)) := ⟨rfl, rfl, rfl, by decide +kernel, rfl, by decide +kernel, by decide +kernel⟩
theorem h_steps_between (T : Txt g K mg base) : Has g P w K mg base 7 "steps_between" 2 [] f_steps_between := by
  obtain ⟨fa, c, tt, Fu, tb, tm, tu⟩ := T.d_steps_between
  exact has_z (N := N_steps_between) (ps := ["start", "end"]) (k := 6) Fu sc_steps_between (fun _ _ _ _ _ _ us hl => match us, hl with | [_, _], _ => rfl) fun A outer s H E B Z hr hl => by
    have hcode : (envOfC "steps_between" (defScope (tp 21)) s.heap.objs.size fa (.ref c)).code = .ref c := rfl
    exact dss_cons (ds_asg (ws := [2, 3]) (de_tup (da_cons (de_op op_Sub (de_ix (de_var (i := 1) rfl (vis_of rfl)) (de_int) (fun _ _ => rfl)) (de_ix (de_var (i := 0) rfl (vis_of rfl)) (de_int) (fun _ _ => rfl))) (da_cons (de_op op_Sub (de_ix (de_var (i := 1) rfl (vis_of rfl)) (de_int) (fun _ _ => rfl)) (de_ix (de_var (i := 0) rfl (vis_of rfl)) (de_int) (fun _ _ => rfl))) (da_nil)))) (dg_tup rfl (dgs_cons (dg_name (i := 2) nd_steps_between rfl (loc_of rfl)) (dgs_cons (dg_name (i := 3) nd_steps_between rfl (loc_of rfl)) (dgs_nil))))) (dss_cons (ds_set (i := 4) nd_steps_between rfl (loc_of rfl) (de_if (dt_cmp (op_Ne (room65 hr)) (de_tup (da_cons (de_var (i := 2) rfl (vis_of rfl)) (da_cons (de_var (i := 3) rfl (vis_of rfl)) (da_nil)))) (de_tup (da_cons (de_int) (da_cons (de_int) (da_nil)))) rfl) (de_fn ((h_whole_common T).mono (by decide)) hr rfl hl (da_cons (de_var (i := 2) rfl (vis_of rfl)) (da_cons (de_var (i := 3) rfl (vis_of rfl)) (da_nil)))) (de_int))) (dss_cons (ds_if (dt_cmp (op_Eq (room65 hr)) (de_var (i := 4) rfl (vis_of rfl)) (de_int) rfl) (dss_one (ds_ret (de_tup (da_cons (de_callT c_tuple rfl T.z_tuple rfl (da_cons (de_var (i := 0) rfl (vis_of rfl)) (da_nil))) (da_nil))))) (dss_nil)) (dss_one (ds_ret (de_genT (own := [("step", 5)]) rfl T.z_tuple rfl hr tb hcode tm tu (gnS_by rfl) (di_rg1 rfl T.z_range (da_cons (de_op op_Add (de_var (i := 4) rfl (vis_of rfl)) (de_int)) (da_nil))) (tup_nx) (c_gtup (k := 0) (hr.mono (by decide)) (gnS_by rfl) nd_steps_between (fun A s0 H0 C code fp pn hr => dg_name (i := 5) nd_steps_between rfl (loc_of rfl)) (fun A s0 H0 C code fp pn hr => dts_nil) (fun A s0 H0 C code fp pn hr => de_tup (da_cons (de_op op_Add (de_ix (de_var (i := 0) rfl (vis_of rfl)) (de_int) (fun _ _ => rfl)) (de_op op_Mul (de_op op_Div (de_var (i := 2) rfl (vis_of rfl)) (de_var (i := 4) rfl (vis_of rfl))) (de_var (i := 5) rfl (vis_of rfl)))) (da_cons (de_op op_Add (de_ix (de_var (i := 0) rfl (vis_of rfl)) (de_int) (fun _ _ => rfl)) (de_op op_Mul (de_op op_Div (de_var (i := 3) rfl (vis_of rfl)) (de_var (i := 4) rfl (vis_of rfl))) (de_var (i := 5) rfl (vis_of rfl)))) (da_nil))))))))))
abbrev N_right_angles : List Str := ["points", "found", "one", "middle", "other"]
def b_right_angles : SF := sSeq (sIf (tCmpD (hGt) (eN hLen (aCons (eVar 0) (aNil))) (eC (.int 12))) (sRaise 0) (sNx)) (sSeq (sLinD 1 (aNil)) (sSeq (sFor (aRg1 (aCons (eN hLen (aCons (eVar 0) (aNil))) (aNil))) (gN 2) (sFor (aRg1 (aCons (eN hLen (aCons (eVar 0) (aNil))) (aNil))) (gN 3) (sFor (aRg2 (aCons (eOp hAdd (eVar 2) (eC (.int 1))) (aCons (eN hLen (aCons (eVar 0) (aNil))) (aNil)))) (gN 4) (sIf (tAnd2 (tCmpD (hIn true) (eVar 3) (eTup (aCons (eVar 2) (aCons (eVar 4) (aNil))))) (tAnd2 (tCmpD (hNe) (eOp hIx (eVar 0) (eVar 2)) (eOp hIx (eVar 0) (eVar 3))) (tCmpD (hNe) (eOp hIx (eVar 0) (eVar 4)) (eOp hIx (eVar 0) (eVar 3))))) (sIf (tCmpD (hEq) (eCallD f_dot_of [] (aCons (eOp hIx (eVar 0) (eVar 3)) (aCons (eOp hIx (eVar 0) (eVar 2)) (aCons (eOp hIx (eVar 0) (eVar 4)) (aNil))))) (eC (.int 0))) (sLinM 1 hAppL (aCons (eTup (aCons (eVar 2) (aCons (eVar 3) (aCons (eVar 4) (aNil))))) (aNil))) (sNx)) (sNx))))) (sSeq (sFrz 1) (sRet (eN hTuple (aCons (eVar 1) (aNil)))))))
def f_right_angles : Fn := runF 1 5 b_right_angles
theorem nd_right_angles : (N_right_angles).Nodup := by decide +kernel
theorem sc_right_angles : FnScope N_right_angles ["points"] (defScope (tp 22)) := ⟨rfl, rfl, rfl, by decide +kernel, rfl, by decide +kernel, by decide +kernel⟩
theorem h_right_angles (T : Txt g K mg base) : Has g P w K mg base 2 "right_angles" 1 [] f_right_angles := by
  obtain ⟨fa, c, Fu⟩ := T.d_right_angles
  exact has_z (N := N_right_angles) (ps := ["points"]) (k := 1) Fu sc_right_angles (fun _ _ _ _ _ _ us hl => match us, hl with | [_], _ => rfl) fun A outer s H E B Z hr hl => dss_cons (ds_if (dt_cmp (op_Gt (room65 hr)) (de_callB c_len rfl T.z_len rfl (da_cons (de_var (i := 0) rfl (vis_of rfl)) (da_nil))) (de_int) rfl) (dss_one (r_raise T hl)) (dss_nil)) (dss_cons (ds_linD (i := 1) nd_right_angles rfl (loc_of rfl) (da_nil)) (dss_cons (ds_for (ws := [2]) (L2.passes_of rfl) rfl (di_rg1 rfl T.z_range (da_cons (de_callB c_len rfl T.z_len rfl (da_cons (de_var (i := 0) rfl (vis_of rfl)) (da_nil))) (da_nil))) (dg_name (i := 2) nd_right_angles rfl (loc_of rfl)) (dss_one (ds_for (ws := [3]) (L2.passes_of rfl) rfl (di_rg1 rfl T.z_range (da_cons (de_callB c_len rfl T.z_len rfl (da_cons (de_var (i := 0) rfl (vis_of rfl)) (da_nil))) (da_nil))) (dg_name (i := 3) nd_right_angles rfl (loc_of rfl)) (dss_one (ds_for (ws := [4]) (L2.passes_of rfl) rfl (di_rg2 rfl T.z_range (da_cons (de_op op_Add (de_var (i := 2) rfl (vis_of rfl)) (de_int)) (da_cons (de_callB c_len rfl T.z_len rfl (da_cons (de_var (i := 0) rfl (vis_of rfl)) (da_nil))) (da_nil)))) (dg_name (i := 4) nd_right_angles rfl (loc_of rfl)) (dss_one (ds_if (dt_w (dw_and (dt_cmp (op_NotIn (room65 hr)) (de_var (i := 3) rfl (vis_of rfl)) (de_tup (da_cons (de_var (i := 2) rfl (vis_of rfl)) (da_cons (de_var (i := 4) rfl (vis_of rfl)) (da_nil)))) rfl) (dw_and (dt_cmp (op_Ne (room65 hr)) (de_ix (de_var (i := 0) rfl (vis_of rfl)) (de_var (i := 2) rfl (vis_of rfl)) (fun _ _ => rfl)) (de_ix (de_var (i := 0) rfl (vis_of rfl)) (de_var (i := 3) rfl (vis_of rfl)) (fun _ _ => rfl)) rfl) (dw_and1 (dt_cmp (op_Ne (room65 hr)) (de_ix (de_var (i := 0) rfl (vis_of rfl)) (de_var (i := 4) rfl (vis_of rfl)) (fun _ _ => rfl)) (de_ix (de_var (i := 0) rfl (vis_of rfl)) (de_var (i := 3) rfl (vis_of rfl)) (fun _ _ => rfl)) rfl))))) (dss_one (ds_if (dt_cmp (op_Eq (room65 hr)) (de_fn ((h_dot_of T).mono (by decide)) hr rfl hl (da_cons (de_ix (de_var (i := 0) rfl (vis_of rfl)) (de_var (i := 3) rfl (vis_of rfl)) (fun _ _ => rfl)) (da_cons (de_ix (de_var (i := 0) rfl (vis_of rfl)) (de_var (i := 2) rfl (vis_of rfl)) (fun _ _ => rfl)) (da_cons (de_ix (de_var (i := 0) rfl (vis_of rfl)) (de_var (i := 4) rfl (vis_of rfl)) (fun _ _ => rfl)) (da_nil))))) (de_int) rfl) (dss_one (ds_append (i := 1) rfl (vis_of rfl) (da_cons (de_tup (da_cons (de_var (i := 2) rfl (vis_of rfl)) (da_cons (de_var (i := 3) rfl (vis_of rfl)) (da_cons (de_var (i := 4) rfl (vis_of rfl)) (da_nil))))) (da_nil)))) (dss_nil))) (dss_nil)))))))) (dss_frz (i := 1) (dss_one (ds_ret (de_callT c_tuple rfl T.z_tuple rfl (da_cons (de_var (i := 1) rfl (vis_of rfl)) (da_nil))))))))
abbrev N_most_in_line : List Str := ["points", "best", "place", "one", "other", "point"]
def b_most_in_line : SF := sSeq (sIf (tNot1 (tOfE (eChain (hLe) (hLe) (eC (.int 1)) (eN hLen (aCons (eVar 0) (aNil))) (eC (.int 20))))) (sRaise 0) (sNx)) (sSeq (sSet 1 (eGen (gmax) (aIt (eVar 0)) (gN 5) (tYes1) (eM "list" hCount (eN hList (aCons (eVar 0) (aNil))) (aCons (eVar 5) (aNil))) [5])) (sSeq (sFor (aEnum (aCons (eVar 0) (aNil))) (gT [gN 2, gN 3]) (sFor (aIt (eSl (eVar 0) (oNone) (oSome (eVar 2)))) (gN 4) (sIf (tCmpD (hNe) (eVar 3) (eVar 4)) (sSet 1 (eN hMax (aCons (eVar 1) (aCons (eN hLen (aCons (eLc (aIt (eVar 0)) (gN 5) (tCmpD (hEq) (eCallD f_side_of [] (aCons (eVar 3) (aCons (eVar 4) (aCons (eVar 5) (aNil))))) (eC (.int 0))) (eC (.int 1)) [5]) (aNil))) (aNil))))) (sNx)))) (sRet (eVar 1))))
def f_most_in_line : Fn := runF 1 6 b_most_in_line
theorem nd_most_in_line : (N_most_in_line).Nodup := by decide +kernel
theorem sc_most_in_line : FnScope N_most_in_line ["points"] (defScope (tp 23)) := ⟨rfl, rfl, rfl, by decide +kernel, rfl, by decide +kernel, by decide +kernel⟩
theorem h_most_in_line (T : Txt g K mg base) : Has g P w K mg base 4 "most_in_line" 1 [] f_most_in_line := by
  obtain ⟨fa, c, tt, Fu, tb, tm, tu⟩ := T.d_most_in_line
  exact has_z (N := N_most_in_line) (ps := ["points"]) (k := 3) Fu sc_most_in_line (fun _ _ _ _ _ _ us hl => match us, hl with | [_], _ => rfl) fun A outer s H E B Z hr hl => by
    have hcode : (envOfC "most_in_line" (defScope (tp 23)) s.heap.objs.size fa (.ref c)).code = .ref c := rfl
    exact dss_cons (ds_if (dt_not (dt_chain (op_Le (room65 hr)) (op_Le (room65 hr)) (de_int) (de_callB c_len rfl T.z_len rfl (da_cons (de_var (i := 0) rfl (vis_of rfl)) (da_nil))) (de_int))) (dss_one (r_raise T hl)) (dss_nil)) (dss_cons (ds_set (i := 1) nd_most_in_line rfl (loc_of rfl) (de_genB (own := [("point", 5)]) rfl T.z_max rfl hr tb hcode tm tu (gnS_by rfl) (di_seq (de_var (i := 0) rfl (vis_of rfl))) (gmax_nx) (c_gmax (k := 0) (hr.mono (by decide)) (gnS_by rfl) nd_most_in_line (fun A s0 H0 C code fp pn hr => dg_name (i := 5) nd_most_in_line rfl (loc_of rfl)) (fun A s0 H0 C code fp pn hr => dts_nil) (fun A s0 H0 C code fp pn hr => de_m F.plainAttrs_list F.slot_list_count F.type_list_count (m_count (room65 hr)) (de_callT c_list rfl T.z_list rfl (da_cons (de_var (i := 0) rfl (vis_of rfl)) (da_nil))) (da_cons (de_var (i := 5) rfl (vis_of rfl)) (da_nil)))))) (dss_cons (ds_for (ws := [2, 3]) (L2.passes_of rfl) rfl (di_enum rfl T.z_enumerate (da_cons (de_var (i := 0) rfl (vis_of rfl)) (da_nil))) (dg_tup rfl (dgs_cons (dg_name (i := 2) nd_most_in_line rfl (loc_of rfl)) (dgs_cons (dg_name (i := 3) nd_most_in_line rfl (loc_of rfl)) (dgs_nil)))) (dss_one (ds_for (ws := [4]) (L2.passes_of rfl) rfl (di_seq (de_sl (de_var (i := 0) rfl (vis_of rfl)) (do_none) (do_some (de_var (i := 2) rfl (vis_of rfl))))) (dg_name (i := 4) nd_most_in_line rfl (loc_of rfl)) (dss_one (ds_if (dt_cmp (op_Ne (room65 hr)) (de_var (i := 3) rfl (vis_of rfl)) (de_var (i := 4) rfl (vis_of rfl)) rfl) (dss_one (ds_set (i := 1) nd_most_in_line rfl (loc_of rfl) (de_callB (c_max rfl (room65 hr)) rfl T.z_max rfl (da_cons (de_var (i := 1) rfl (vis_of rfl)) (da_cons (de_callB c_len rfl T.z_len rfl (da_cons (de_lc (own := [("point", 5)]) rfl nd_most_in_line (di_seq (de_var (i := 0) rfl (vis_of rfl))) (bk_by rfl) (fun _ _ _ _ _ => dg_name (i := 5) nd_most_in_line rfl (loc_of rfl)) (fun _ _ _ _ _ => dts_one (dt_cmp (op_Eq (room65 hr)) (de_fn ((h_side_of T).mono (by decide)) hr rfl lets0 (da_cons (de_var (i := 3) rfl (vis_of rfl)) (da_cons (de_var (i := 4) rfl (vis_of rfl)) (da_cons (de_var (i := 5) rfl (vis_of rfl)) (da_nil))))) (de_int) rfl)) (fun _ _ _ _ _ => de_int)) (da_nil))) (da_nil)))))) (dss_nil)))))) (dss_one (ds_ret (de_var (i := 1) rfl (vis_of rfl))))))
abbrev N__law_dice : List Str := ["cell"]
def b__law_dice : SF := sSeq (sIf (tOfE (eChain (hLt) (hLt) (eOp hSub (eC (.int 0)) (eC (.int 10))) (eVar 0) (eC (.int 10)))) (sRet (eLstO (aCons (eN hAbs (aCons (eVar 0) (aNil))) (aCons (eC (.int 0)) (aCons (eC (.int 2)) (aNil)))))) (sNx)) (sRet (eLstO (aCons (eVar 0) (aCons (eOp hAdd (eC (.int 1)) (eOp hMod (eN hInt (aCons (eVar 0) (aNil))) (eC (.int 1009)))) (aCons (eN hInt (aCons (eOp (hGe) (eVar 0) (eOp hPow (eC (.int 10)) (eC (.int 18)))) (aNil))) (aNil))))))
def f__law_dice : Fn := runF 1 1 b__law_dice
theorem nd__law_dice : (N__law_dice).Nodup := by decide +kernel
theorem sc__law_dice : FnScope N__law_dice ["cell"] (defScope (tp 25)) := ⟨rfl, rfl, rfl, by decide +kernel, rfl, by decide +kernel, by decide +kernel⟩
theorem h__law_dice (T : Txt g K mg base) : Has g P w K mg base 1 "_law_dice" 1 [] f__law_dice := by
  obtain ⟨fa, c, Fu⟩ := T.d__law_dice
  exact has_z (N := N__law_dice) (ps := ["cell"]) (k := 0) Fu sc__law_dice (fun _ _ _ _ _ _ us hl => match us, hl with | [_], _ => rfl) fun A outer s H E B Z hr hl => dss_cons (ds_if (dt_chain (op_Lt (room65 hr)) (op_Lt (room65 hr)) (de_op op_Sub (de_int) (de_int)) (de_var (i := 0) rfl (vis_of rfl)) (de_int)) (dss_one (ds_ret (de_lstO (da_cons (de_callB c_abs rfl T.z_abs rfl (da_cons (de_var (i := 0) rfl (vis_of rfl)) (da_nil))) (da_cons (de_int) (da_cons (de_int) (da_nil))))))) (dss_nil)) (dss_one (ds_ret (de_lstO (da_cons (de_var (i := 0) rfl (vis_of rfl)) (da_cons (de_op op_Add (de_int) (de_op op_Mod (de_callT c_int rfl T.z_int rfl (da_cons (de_var (i := 0) rfl (vis_of rfl)) (da_nil))) (de_int))) (da_cons (de_callT c_int rfl T.z_int rfl (da_cons (de_cmp (op_Ge (room65 hr)) (de_var (i := 0) rfl (vis_of rfl)) (de_op op_Pow (de_int) (de_int)) rfl) (da_nil))) (da_nil)))))))
abbrev N__law_roll : List Str := ["dice", "many", "found"]
def b__law_roll : SF := sSeq (sIf (tOr2 (tCmpD (hEq) (eOp hIx (eVar 0) (eC (.int 2))) (eC (.int 2))) (tAnd2 (tCmpD (hEq) (eOp hIx (eVar 0) (eC (.int 2))) (eC (.int 1))) (tCmpD (hGt) (eOp hIx (eVar 0) (eC (.int 0))) (eC (.int 0))))) (sSeq (sSet 2 (eOp hMod (eN hInt (aCons (eOp hIx (eVar 0) (eC (.int 0))) (aNil))) (eVar 1))) (sSeq (sSetIx (eOp hDiv (eOp hIx (eVar 0) (eC (.int 0))) (eVar 1)) (eVar 0) (eC (.int 0))) (sRet (eVar 2)))) (sNx)) (sSeq (sSetIx (eC (.int 0)) (eVar 0) (eC (.int 2))) (sSeq (sIf (tCmpD (hGt) (eVar 1) (eC (.int 100000000))) (sBad) (sNx)) (sSeq (sSetIx (eOp hMod (eN hInt (aCons (eOp hAdd (eOp hAdd (eOp hMul (eOp hIx (eVar 0) (eC (.int 0))) (eC (.int 48271))) (eOp hMul (eOp hIx (eVar 0) (eC (.int 1))) (eC (.int 69621)))) (eC (.int 11))) (aNil))) (eC (.int 2147483647))) (eVar 0) (eC (.int 0))) (sSeq (sSetIx (eOp hAdd (eOp hIx (eVar 0) (eC (.int 1))) (eC (.int 1))) (eVar 0) (eC (.int 1))) (sRet (eOp hMod (eN hInt (aCons (eOp hDiv (eOp hIx (eVar 0) (eC (.int 0))) (eC (.int 7))) (aNil))) (eVar 1)))))))
def f__law_roll : Fn := runF 2 3 b__law_roll
theorem nd__law_roll : (N__law_roll).Nodup := by decide +kernel
theorem sc__law_roll : FnScope N__law_roll ["dice", "many"] (defScope (tp 26)) := ⟨rfl, rfl, rfl, by decide +kernel, rfl, by decide +kernel, by decide +kernel⟩
theorem h__law_roll (T : Txt g K mg base) : Has g P w K mg base 1 "_law_roll" 2 [] f__law_roll := by
  obtain ⟨fa, c, Fu⟩ := T.d__law_roll
  exact has_z (N := N__law_roll) (ps := ["dice", "many"]) (k := 0) Fu sc__law_roll (fun _ _ _ _ _ _ us hl => match us, hl with | [_, _], _ => rfl) fun A outer s H E B Z hr hl => dss_cons (ds_if (dt_w (dw_or (dt_cmp (op_Eq (room65 hr)) (de_ix (de_var (i := 0) rfl (vis_of rfl)) (de_int) (fun _ _ => rfl)) (de_int) rfl) (dw_or1 (dt_w (dw_and (dt_cmp (op_Eq (room65 hr)) (de_ix (de_var (i := 0) rfl (vis_of rfl)) (de_int) (fun _ _ => rfl)) (de_int) rfl) (dw_and1 (dt_cmp (op_Gt (room65 hr)) (de_ix (de_var (i := 0) rfl (vis_of rfl)) (de_int) (fun _ _ => rfl)) (de_int) rfl))))))) (dss_cons (ds_set (i := 2) nd__law_roll rfl (loc_of rfl) (de_op op_Mod (de_callT c_int rfl T.z_int rfl (da_cons (de_ix (de_var (i := 0) rfl (vis_of rfl)) (de_int) (fun _ _ => rfl)) (da_nil))) (de_var (i := 1) rfl (vis_of rfl)))) (dss_cons (ds_setix (de_op op_Div (de_ix (de_var (i := 0) rfl (vis_of rfl)) (de_int) (fun _ _ => rfl)) (de_var (i := 1) rfl (vis_of rfl))) (de_var (i := 0) rfl (vis_of rfl)) (de_int)) (dss_one (ds_ret (de_var (i := 2) rfl (vis_of rfl)))))) (dss_nil)) (dss_cons (ds_setix (de_int) (de_var (i := 0) rfl (vis_of rfl)) (de_int)) (dss_cons (ds_if (dt_cmp (op_Gt (room65 hr)) (de_var (i := 1) rfl (vis_of rfl)) (de_int) rfl) (dss_never) (dss_nil)) (dss_cons (ds_setix (de_op op_Mod (de_callT c_int rfl T.z_int rfl (da_cons (de_op op_Add (de_op op_Add (de_op op_Mul (de_ix (de_var (i := 0) rfl (vis_of rfl)) (de_int) (fun _ _ => rfl)) (de_int)) (de_op op_Mul (de_ix (de_var (i := 0) rfl (vis_of rfl)) (de_int) (fun _ _ => rfl)) (de_int))) (de_int)) (da_nil))) (de_int)) (de_var (i := 0) rfl (vis_of rfl)) (de_int)) (dss_cons (ds_setix (de_op op_Add (de_ix (de_var (i := 0) rfl (vis_of rfl)) (de_int) (fun _ _ => rfl)) (de_int)) (de_var (i := 0) rfl (vis_of rfl)) (de_int)) (dss_one (ds_ret (de_op op_Mod (de_callT c_int rfl T.z_int rfl (da_cons (de_op op_Div (de_ix (de_var (i := 0) rfl (vis_of rfl)) (de_int) (fun _ _ => rfl)) (de_int)) (da_nil))) (de_var (i := 1) rfl (vis_of rfl)))))))))
abbrev N__law_rounds : List Str := ["script", "most", "cells", "cell"]
def b__law_rounds : SF := sSeq (sSet 2 (eSl (eVar 0) (oNone) (oSome (eVar 1)))) (sSeq (sIf (tCmpD (hEq) (eVar 2) (eLst (aNil))) (sSet 2 (eLst (aCons (eC (.int 0)) (aNil)))) (sNx)) (sRet (eLc (aIt (eVar 2)) (gN 3) (tYes1) (eCallD f__law_dice [] (aCons (eVar 3) (aNil))) [3])))
def f__law_rounds : Fn := runF 2 4 b__law_rounds
theorem nd__law_rounds : (N__law_rounds).Nodup := by decide +kernel
theorem sc__law_rounds : FnScope N__law_rounds ["script", "most"] (defScope (tp 27)) := ⟨rfl, rfl, rfl, by decide +kernel, rfl, by decide +kernel, by decide +kernel⟩
theorem h__law_rounds (T : Txt g K mg base) : Has g P w K mg base 2 "_law_rounds" 2 [] f__law_rounds := by
  obtain ⟨fa, c, Fu⟩ := T.d__law_rounds
  exact has_z (N := N__law_rounds) (ps := ["script", "most"]) (k := 1) Fu sc__law_rounds (fun _ _ _ _ _ _ us hl => match us, hl with | [_, _], _ => rfl) fun A outer s H E B Z hr hl => dss_cons (ds_set (i := 2) nd__law_rounds rfl (loc_of rfl) (de_sl (de_var (i := 0) rfl (vis_of rfl)) (do_none) (do_some (de_var (i := 1) rfl (vis_of rfl))))) (dss_cons (ds_if (dt_cmp (op_Eq (room65 hr)) (de_var (i := 2) rfl (vis_of rfl)) (de_lst (da_nil)) rfl) (dss_one (ds_set (i := 2) nd__law_rounds rfl (loc_of rfl) (de_lst (da_cons (de_int) (da_nil))))) (dss_nil)) (dss_one (ds_ret (de_lc (own := [("cell", 3)]) rfl nd__law_rounds (di_seq (de_var (i := 2) rfl (vis_of rfl))) (bk_by rfl) (fun _ _ _ _ _ => dg_name (i := 3) nd__law_rounds rfl (loc_of rfl)) (fun _ _ _ _ _ => dts_nil) (fun _ _ _ _ _ => de_fn ((h__law_dice T).mono (by decide)) hr rfl lets0 (da_cons (de_var (i := 3) rfl (vis_of rfl)) (da_nil)))))))
abbrev N__law_low : List Str := ["top", "bottom", "a", "b"]
def b__law_low : SF := sSeq (sAsg (eIf (tCmpD (hLt) (eVar 1) (eC (.int 0))) (eTup (aCons (eUn hNeg (eVar 0)) (aCons (eUn hNeg (eVar 1)) (aNil)))) (eTup (aCons (eVar 0) (aCons (eVar 1) (aNil))))) (gT [gN 0, gN 1])) (sSeq (sPar 2 3 (aCons (eN hMax (aCons (eVar 0) (aCons (eUn hNeg (eVar 0)) (aNil)))) (aCons (eVar 1) (aNil)))) (sSeq (sWhile (fuelAbs 3) (tCmpD (hNe) (eVar 3) (eC (.int 0))) (sPar 2 3 (aCons (eVar 3) (aCons (eOp hMod (eVar 2) (eVar 3)) (aNil))))) (sRet (eTup (aCons (eOp hDiv (eVar 0) (eVar 2)) (aCons (eOp hDiv (eVar 1) (eVar 2)) (aNil)))))))
def f__law_low : Fn := runF 2 4 b__law_low
theorem nd__law_low : (N__law_low).Nodup := by decide +kernel
theorem sc__law_low : FnScope N__law_low ["top", "bottom"] (defScope (tp 29)) := ⟨rfl, rfl, rfl, by decide +kernel, rfl, by decide +kernel, by decide +kernel⟩
theorem h__law_low (T : Txt g K mg base) : Has g P w K mg base 1 "_law_low" 2 [] f__law_low := by
  obtain ⟨fa, c, Fu⟩ := T.d__law_low
  exact has_z (N := N__law_low) (ps := ["top", "bottom"]) (k := 0) Fu sc__law_low (fun _ _ _ _ _ _ us hl => match us, hl with | [_, _], _ => rfl) fun A outer s H E B Z hr hl => dss_cons (ds_asg (ws := [0, 1]) (de_if (dt_cmp (op_Lt (room65 hr)) (de_var (i := 1) rfl (vis_of rfl)) (de_int) rfl) (de_tup (da_cons (de_un op_Neg (de_var (i := 0) rfl (vis_of rfl))) (da_cons (de_un op_Neg (de_var (i := 1) rfl (vis_of rfl))) (da_nil)))) (de_tup (da_cons (de_var (i := 0) rfl (vis_of rfl)) (da_cons (de_var (i := 1) rfl (vis_of rfl)) (da_nil))))) (dg_tup rfl (dgs_cons (dg_name (i := 0) nd__law_low rfl (loc_of rfl)) (dgs_cons (dg_name (i := 1) nd__law_low rfl (loc_of rfl)) (dgs_nil))))) (dss_cons (ds_par (i := 2) (j := 3) rfl nd__law_low rfl rfl (by decide) rfl rfl (da_cons (de_callB (c_max rfl (room65 hr)) rfl T.z_max rfl (da_cons (de_var (i := 0) rfl (vis_of rfl)) (da_cons (de_un op_Neg (de_var (i := 0) rfl (vis_of rfl))) (da_nil)))) (da_cons (de_var (i := 1) rfl (vis_of rfl)) (da_nil))) rfl) (dss_cons (ds_while (fu := fuelAbs 3) (L2.passes_of rfl) (dt_cmp (op_Ne (room65 hr)) (de_var (i := 3) rfl (vis_of rfl)) (de_int) rfl) (dss_one (ds_par (i := 2) (j := 3) rfl nd__law_low rfl rfl (by decide) rfl rfl (da_cons (de_var (i := 3) rfl (vis_of rfl)) (da_cons (de_op op_Mod (de_var (i := 2) rfl (vis_of rfl)) (de_var (i := 3) rfl (vis_of rfl))) (da_nil))) rfl))) (dss_one (ds_ret (de_tup (da_cons (de_op op_Div (de_var (i := 0) rfl (vis_of rfl)) (de_var (i := 2) rfl (vis_of rfl))) (da_cons (de_op op_Div (de_var (i := 1) rfl (vis_of rfl)) (de_var (i := 2) rfl (vis_of rfl))) (da_nil))))))))
abbrev N__law_turn : List Str := ["start", "one", "other"]
def b__law_turn : SF := sRet (eOp hSub (eOp hMul (eOp hSub (eOp hIx (eVar 1) (eC (.int 0))) (eOp hIx (eVar 0) (eC (.int 0)))) (eOp hSub (eOp hIx (eVar 2) (eC (.int 1))) (eOp hIx (eVar 0) (eC (.int 1))))) (eOp hMul (eOp hSub (eOp hIx (eVar 1) (eC (.int 1))) (eOp hIx (eVar 0) (eC (.int 1)))) (eOp hSub (eOp hIx (eVar 2) (eC (.int 0))) (eOp hIx (eVar 0) (eC (.int 0))))))
def f__law_turn : Fn := runF 3 3 b__law_turn
theorem nd__law_turn : (N__law_turn).Nodup := by decide +kernel
theorem sc__law_turn : FnScope N__law_turn ["start", "one", "other"] (defScope (tp 30)) := ⟨rfl, rfl, rfl, by decide +kernel, rfl, by decide +kernel, by decide +kernel⟩
theorem h__law_turn (T : Txt g K mg base) : Has g P w K mg base 1 "_law_turn" 3 [] f__law_turn := by
  obtain ⟨fa, c, Fu⟩ := T.d__law_turn
  exact has_z (N := N__law_turn) (ps := ["start", "one", "other"]) (k := 0) Fu sc__law_turn (fun _ _ _ _ _ _ us hl => match us, hl with | [_, _, _], _ => rfl) fun A outer s H E B Z hr hl => dss_one (ds_ret (de_op op_Sub (de_op op_Mul (de_op op_Sub (de_ix (de_var (i := 1) rfl (vis_of rfl)) (de_int) (fun _ _ => rfl)) (de_ix (de_var (i := 0) rfl (vis_of rfl)) (de_int) (fun _ _ => rfl))) (de_op op_Sub (de_ix (de_var (i := 2) rfl (vis_of rfl)) (de_int) (fun _ _ => rfl)) (de_ix (de_var (i := 0) rfl (vis_of rfl)) (de_int) (fun _ _ => rfl)))) (de_op op_Mul (de_op op_Sub (de_ix (de_var (i := 1) rfl (vis_of rfl)) (de_int) (fun _ _ => rfl)) (de_ix (de_var (i := 0) rfl (vis_of rfl)) (de_int) (fun _ _ => rfl))) (de_op op_Sub (de_ix (de_var (i := 2) rfl (vis_of rfl)) (de_int) (fun _ _ => rfl)) (de_ix (de_var (i := 0) rfl (vis_of rfl)) (de_int) (fun _ _ => rfl))))))
abbrev N__law_point : List Str := ["dice"]
def b__law_point : SF := sRet (eTup (aCons (eOp hSub (eCallD f__law_roll [] (aCons (eVar 0) (aCons (eC (.int 9)) (aNil)))) (eC (.int 3))) (aCons (eOp hSub (eCallD f__law_roll [] (aCons (eVar 0) (aCons (eC (.int 9)) (aNil)))) (eC (.int 3))) (aNil))))
def f__law_point : Fn := runF 1 1 b__law_point
theorem nd__law_point : (N__law_point).Nodup := by decide +kernel
theorem sc__law_point : FnScope N__law_point ["dice"] (defScope (tp 31)) := ⟨rfl, rfl, rfl, by decide +kernel, rfl, by decide +kernel, by decide +kernel⟩
theorem h__law_point (T : Txt g K mg base) : Has g P w K mg base 2 "_law_point" 1 [] f__law_point := by
  obtain ⟨fa, c, Fu⟩ := T.d__law_point
  exact has_z (N := N__law_point) (ps := ["dice"]) (k := 1) Fu sc__law_point (fun _ _ _ _ _ _ us hl => match us, hl with | [_], _ => rfl) fun A outer s H E B Z hr hl => dss_one (ds_ret (de_tup (da_cons (de_op op_Sub (de_fn ((h__law_roll T).mono (by decide)) hr rfl hl (da_cons (de_var (i := 0) rfl (vis_of rfl)) (da_cons (de_int) (da_nil)))) (de_int)) (da_cons (de_op op_Sub (de_fn ((h__law_roll T).mono (by decide)) hr rfl hl (da_cons (de_var (i := 0) rfl (vis_of rfl)) (da_cons (de_int) (da_nil)))) (de_int)) (da_nil)))))
abbrev N__law_quarter : List Str := ["start", "point", "x", "y"]
def b__law_quarter : SF := sSeq (sPar 2 3 (aCons (eOp hSub (eOp hIx (eVar 1) (eC (.int 0))) (eOp hIx (eVar 0) (eC (.int 0)))) (aCons (eOp hSub (eOp hIx (eVar 1) (eC (.int 1))) (eOp hIx (eVar 0) (eC (.int 1)))) (aNil)))) (sSeq (sIf (tCmpD (hEq) (eVar 3) (eC (.int 0))) (sRet (eIf (tCmpD (hGt) (eVar 2) (eC (.int 0))) (eC (.int 0)) (eC (.int 4)))) (sNx)) (sSeq (sIf (tCmpD (hEq) (eVar 2) (eC (.int 0))) (sRet (eIf (tCmpD (hGt) (eVar 3) (eC (.int 0))) (eC (.int 2)) (eC (.int 6)))) (sNx)) (sRet (eQuar (eTup (aCons (eOp (hGt) (eVar 2) (eC (.int 0))) (aCons (eOp (hGt) (eVar 3) (eC (.int 0))) (aNil))))))))
def f__law_quarter : Fn := runF 2 4 b__law_quarter
theorem nd__law_quarter : (N__law_quarter).Nodup := by decide +kernel
theorem sc__law_quarter : FnScope N__law_quarter ["start", "point"] (defScope (tp 32)) := ⟨rfl, rfl, rfl, by decide +kernel, rfl, by decide +kernel, by decide +kernel⟩
theorem h__law_quarter (T : Txt g K mg base) : Has g P w K mg base 1 "_law_quarter" 2 [] f__law_quarter := by
  obtain ⟨fa, c, Fu⟩ := T.d__law_quarter
  exact has_z (N := N__law_quarter) (ps := ["start", "point"]) (k := 0) Fu sc__law_quarter (fun _ _ _ _ _ _ us hl => match us, hl with | [_, _], _ => rfl) fun A outer s H E B Z hr hl => dss_cons (ds_par (i := 2) (j := 3) rfl nd__law_quarter rfl rfl (by decide) rfl rfl (da_cons (de_op op_Sub (de_ix (de_var (i := 1) rfl (vis_of rfl)) (de_int) (fun _ _ => rfl)) (de_ix (de_var (i := 0) rfl (vis_of rfl)) (de_int) (fun _ _ => rfl))) (da_cons (de_op op_Sub (de_ix (de_var (i := 1) rfl (vis_of rfl)) (de_int) (fun _ _ => rfl)) (de_ix (de_var (i := 0) rfl (vis_of rfl)) (de_int) (fun _ _ => rfl))) (da_nil))) rfl) (dss_cons (ds_if (dt_cmp (op_Eq (room65 hr)) (de_var (i := 3) rfl (vis_of rfl)) (de_int) rfl) (dss_one (ds_ret (de_if (dt_cmp (op_Gt (room65 hr)) (de_var (i := 2) rfl (vis_of rfl)) (de_int) rfl) (de_int) (de_int)))) (dss_nil)) (dss_cons (ds_if (dt_cmp (op_Eq (room65 hr)) (de_var (i := 2) rfl (vis_of rfl)) (de_int) rfl) (dss_one (ds_ret (de_if (dt_cmp (op_Gt (room65 hr)) (de_var (i := 3) rfl (vis_of rfl)) (de_int) rfl) (de_int) (de_int)))) (dss_nil)) (dss_one (ds_ret (de_quar (room65 hr) (de_tup (da_cons (de_cmp (op_Gt (room65 hr)) (de_var (i := 2) rfl (vis_of rfl)) (de_int) rfl) (da_cons (de_cmp (op_Gt (room65 hr)) (de_var (i := 3) rfl (vis_of rfl)) (de_int) rfl) (da_nil)))) (fun _ _ => rfl))))))
abbrev N__law_ahead : List Str := ["start", "one", "other", "a", "b", "turn"]
def b__law_ahead : SF := sSeq (sPar 3 4 (aCons (eCallD f__law_quarter [] (aCons (eVar 0) (aCons (eVar 1) (aNil)))) (aCons (eCallD f__law_quarter [] (aCons (eVar 0) (aCons (eVar 2) (aNil)))) (aNil)))) (sSeq (sSet 5 (eCallD f__law_turn [] (aCons (eVar 0) (aCons (eVar 1) (aCons (eVar 2) (aNil)))))) (sSeq (sIf (tOr2 (tCmpD (hNe) (eVar 3) (eVar 4)) (tCmpD (hNe) (eVar 5) (eC (.int 0)))) (sRet (eIf (tCmpD (hNe) (eVar 3) (eVar 4)) (eOp (hLt) (eVar 3) (eVar 4)) (eOp (hGt) (eVar 5) (eC (.int 0))))) (sNx)) (sRet (eOp (hLt) (eOp hAdd (eN hMax (aCons (eOp hSub (eOp hIx (eVar 1) (eC (.int 0))) (eOp hIx (eVar 0) (eC (.int 0)))) (aCons (eOp hSub (eOp hIx (eVar 0) (eC (.int 0))) (eOp hIx (eVar 1) (eC (.int 0)))) (aNil)))) (eN hMax (aCons (eOp hSub (eOp hIx (eVar 1) (eC (.int 1))) (eOp hIx (eVar 0) (eC (.int 1)))) (aCons (eOp hSub (eOp hIx (eVar 0) (eC (.int 1))) (eOp hIx (eVar 1) (eC (.int 1)))) (aNil))))) (eOp hAdd (eN hMax (aCons (eOp hSub (eOp hIx (eVar 2) (eC (.int 0))) (eOp hIx (eVar 0) (eC (.int 0)))) (aCons (eOp hSub (eOp hIx (eVar 0) (eC (.int 0))) (eOp hIx (eVar 2) (eC (.int 0)))) (aNil)))) (eN hMax (aCons (eOp hSub (eOp hIx (eVar 2) (eC (.int 1))) (eOp hIx (eVar 0) (eC (.int 1)))) (aCons (eOp hSub (eOp hIx (eVar 0) (eC (.int 1))) (eOp hIx (eVar 2) (eC (.int 1)))) (aNil)))))))))
def f__law_ahead : Fn := runF 3 6 b__law_ahead
theorem nd__law_ahead : (N__law_ahead).Nodup := by decide +kernel
theorem sc__law_ahead : FnScope N__law_ahead ["start", "one", "other"] (defScope (tp 33)) := ⟨rfl, rfl, rfl, by decide +kernel, rfl, by decide +kernel, by decide +kernel⟩
theorem h__law_ahead (T : Txt g K mg base) : Has g P w K mg base 2 "_law_ahead" 3 [] f__law_ahead := by
  obtain ⟨fa, c, Fu⟩ := T.d__law_ahead
  exact has_z (N := N__law_ahead) (ps := ["start", "one", "other"]) (k := 1) Fu sc__law_ahead (fun _ _ _ _ _ _ us hl => match us, hl with | [_, _, _], _ => rfl) fun A outer s H E B Z hr hl => dss_cons (ds_par (i := 3) (j := 4) rfl nd__law_ahead rfl rfl (by decide) rfl rfl (da_cons (de_fn ((h__law_quarter T).mono (by decide)) hr rfl hl (da_cons (de_var (i := 0) rfl (vis_of rfl)) (da_cons (de_var (i := 1) rfl (vis_of rfl)) (da_nil)))) (da_cons (de_fn ((h__law_quarter T).mono (by decide)) hr rfl hl (da_cons (de_var (i := 0) rfl (vis_of rfl)) (da_cons (de_var (i := 2) rfl (vis_of rfl)) (da_nil)))) (da_nil))) rfl) (dss_cons (ds_set (i := 5) nd__law_ahead rfl (loc_of rfl) (de_fn ((h__law_turn T).mono (by decide)) hr rfl hl (da_cons (de_var (i := 0) rfl (vis_of rfl)) (da_cons (de_var (i := 1) rfl (vis_of rfl)) (da_cons (de_var (i := 2) rfl (vis_of rfl)) (da_nil)))))) (dss_cons (ds_if (dt_w (dw_or (dt_cmp (op_Ne (room65 hr)) (de_var (i := 3) rfl (vis_of rfl)) (de_var (i := 4) rfl (vis_of rfl)) rfl) (dw_or1 (dt_cmp (op_Ne (room65 hr)) (de_var (i := 5) rfl (vis_of rfl)) (de_int) rfl)))) (dss_one (ds_ret (de_if (dt_cmp (op_Ne (room65 hr)) (de_var (i := 3) rfl (vis_of rfl)) (de_var (i := 4) rfl (vis_of rfl)) rfl) (de_cmp (op_Lt (room65 hr)) (de_var (i := 3) rfl (vis_of rfl)) (de_var (i := 4) rfl (vis_of rfl)) rfl) (de_cmp (op_Gt (room65 hr)) (de_var (i := 5) rfl (vis_of rfl)) (de_int) rfl)))) (dss_nil)) (dss_one (ds_ret (de_cmp (op_Lt (room65 hr)) (de_op op_Add (de_callB (c_max rfl (room65 hr)) rfl T.z_max rfl (da_cons (de_op op_Sub (de_ix (de_var (i := 1) rfl (vis_of rfl)) (de_int) (fun _ _ => rfl)) (de_ix (de_var (i := 0) rfl (vis_of rfl)) (de_int) (fun _ _ => rfl))) (da_cons (de_op op_Sub (de_ix (de_var (i := 0) rfl (vis_of rfl)) (de_int) (fun _ _ => rfl)) (de_ix (de_var (i := 1) rfl (vis_of rfl)) (de_int) (fun _ _ => rfl))) (da_nil)))) (de_callB (c_max rfl (room65 hr)) rfl T.z_max rfl (da_cons (de_op op_Sub (de_ix (de_var (i := 1) rfl (vis_of rfl)) (de_int) (fun _ _ => rfl)) (de_ix (de_var (i := 0) rfl (vis_of rfl)) (de_int) (fun _ _ => rfl))) (da_cons (de_op op_Sub (de_ix (de_var (i := 0) rfl (vis_of rfl)) (de_int) (fun _ _ => rfl)) (de_ix (de_var (i := 1) rfl (vis_of rfl)) (de_int) (fun _ _ => rfl))) (da_nil))))) (de_op op_Add (de_callB (c_max rfl (room65 hr)) rfl T.z_max rfl (da_cons (de_op op_Sub (de_ix (de_var (i := 2) rfl (vis_of rfl)) (de_int) (fun _ _ => rfl)) (de_ix (de_var (i := 0) rfl (vis_of rfl)) (de_int) (fun _ _ => rfl))) (da_cons (de_op op_Sub (de_ix (de_var (i := 0) rfl (vis_of rfl)) (de_int) (fun _ _ => rfl)) (de_ix (de_var (i := 2) rfl (vis_of rfl)) (de_int) (fun _ _ => rfl))) (da_nil)))) (de_callB (c_max rfl (room65 hr)) rfl T.z_max rfl (da_cons (de_op op_Sub (de_ix (de_var (i := 2) rfl (vis_of rfl)) (de_int) (fun _ _ => rfl)) (de_ix (de_var (i := 0) rfl (vis_of rfl)) (de_int) (fun _ _ => rfl))) (da_cons (de_op op_Sub (de_ix (de_var (i := 0) rfl (vis_of rfl)) (de_int) (fun _ _ => rfl)) (de_ix (de_var (i := 2) rfl (vis_of rfl)) (de_int) (fun _ _ => rfl))) (da_nil))))) rfl)))))
abbrev N__law_board : List Str := ["found", "x", "y"]
def b__law_board : SF := sSeq (sSet 0 (eLst (aNil))) (sSeq (sFor (aRg2 (aCons (eUn hNeg (eC (.int 3))) (aCons (eC (.int 6)) (aNil)))) (gN 1) (sSet 0 (eOp hAdd (eVar 0) (eLc (aRg2 (aCons (eUn hNeg (eC (.int 3))) (aCons (eC (.int 6)) (aNil)))) (gN 2) (tYes1) (eTup (aCons (eVar 1) (aCons (eVar 2) (aNil)))) [2])))) (sRet (eVar 0)))
def f__law_board : Fn := runF 0 3 b__law_board
theorem nd__law_board : (N__law_board).Nodup := by decide +kernel
theorem sc__law_board : FnScope N__law_board [] (defScope (tp 34)) := ⟨rfl, rfl, rfl, by decide +kernel, rfl, by decide +kernel, by decide +kernel⟩
theorem h__law_board (T : Txt g K mg base) : Has g P w K mg base 1 "_law_board" 0 [] f__law_board := by
  obtain ⟨fa, c, Fu⟩ := T.d__law_board
  exact has_z (N := N__law_board) (ps := []) (k := 0) Fu sc__law_board (fun _ _ _ _ _ _ us hl => match us, hl with | [], _ => rfl) fun A outer s H E B Z hr hl => dss_cons (ds_set (i := 0) nd__law_board rfl (loc_of rfl) (de_lst (da_nil))) (dss_cons (ds_for (ws := [1]) (L2.passes_of rfl) rfl (di_rg2 rfl T.z_range (da_cons (de_un op_Neg (de_int)) (da_cons (de_int) (da_nil)))) (dg_name (i := 1) nd__law_board rfl (loc_of rfl)) (dss_one (ds_set (i := 0) nd__law_board rfl (loc_of rfl) (de_op op_Add (de_var (i := 0) rfl (vis_of rfl)) (de_lc (own := [("y", 2)]) rfl nd__law_board (di_rg2 rfl T.z_range (da_cons (de_un op_Neg (de_int)) (da_cons (de_int) (da_nil)))) (bk_by rfl) (fun _ _ _ _ _ => dg_name (i := 2) nd__law_board rfl (loc_of rfl)) (fun _ _ _ _ _ => dts_nil) (fun _ _ _ _ _ => de_tup (da_cons (de_var (i := 1) rfl (vis_of rfl)) (da_cons (de_var (i := 2) rfl (vis_of rfl)) (da_nil))))))))) (dss_one (ds_ret (de_var (i := 0) rfl (vis_of rfl)))))
abbrev N__law_shared : List Str := ["one", "other", "x", "y"]
def b__law_shared : SF := sRet (eLc (aIt (eCallD f__law_board [] aNil)) (gT [gN 2, gN 3]) (tAnd2 (tOfE (eChain (hLe) (hLe) (eOp hIx (eVar 0) (eC (.int 0))) (eVar 2) (eOp hIx (eVar 0) (eC (.int 2))))) (tAnd2 (tOfE (eChain (hLe) (hLe) (eOp hIx (eVar 0) (eC (.int 1))) (eVar 3) (eOp hIx (eVar 0) (eC (.int 3))))) (tAnd2 (tOfE (eChain (hLe) (hLe) (eOp hIx (eVar 1) (eC (.int 0))) (eVar 2) (eOp hIx (eVar 1) (eC (.int 2))))) (tOfE (eChain (hLe) (hLe) (eOp hIx (eVar 1) (eC (.int 1))) (eVar 3) (eOp hIx (eVar 1) (eC (.int 3)))))))) (eTup (aCons (eVar 2) (aCons (eVar 3) (aNil)))) [2, 3])
def f__law_shared : Fn := runF 2 4 b__law_shared
theorem nd__law_shared : (N__law_shared).Nodup := by decide +kernel
theorem sc__law_shared : FnScope N__law_shared ["one", "other"] (defScope (tp 35)) := ⟨rfl, rfl, rfl, by decide +kernel, rfl, by decide +kernel, by decide +kernel⟩
theorem h__law_shared (T : Txt g K mg base) : Has g P w K mg base 2 "_law_shared" 2 [] f__law_shared := by
  obtain ⟨fa, c, Fu⟩ := T.d__law_shared
  exact has_z (N := N__law_shared) (ps := ["one", "other"]) (k := 1) Fu sc__law_shared (fun _ _ _ _ _ _ us hl => match us, hl with | [_, _], _ => rfl) fun A outer s H E B Z hr hl => dss_one (ds_ret (de_lc (own := [("x", 2), ("y", 3)]) rfl nd__law_shared (di_seq (de_fn0 ((h__law_board T).mono (by decide)) hr rfl hl)) (bk_by rfl) (fun _ _ _ _ _ => dg_tup rfl (dgs_cons (dg_name (i := 2) nd__law_shared rfl (loc_of rfl)) (dgs_cons (dg_name (i := 3) nd__law_shared rfl (loc_of rfl)) (dgs_nil)))) (fun _ _ _ _ _ => dts_one (dt_w (dw_and (dt_chain (op_Le (room65 hr)) (op_Le (room65 hr)) (de_ix (de_var (i := 0) rfl (vis_of rfl)) (de_int) (fun _ _ => rfl)) (de_var (i := 2) rfl (vis_of rfl)) (de_ix (de_var (i := 0) rfl (vis_of rfl)) (de_int) (fun _ _ => rfl))) (dw_and (dt_chain (op_Le (room65 hr)) (op_Le (room65 hr)) (de_ix (de_var (i := 0) rfl (vis_of rfl)) (de_int) (fun _ _ => rfl)) (de_var (i := 3) rfl (vis_of rfl)) (de_ix (de_var (i := 0) rfl (vis_of rfl)) (de_int) (fun _ _ => rfl))) (dw_and (dt_chain (op_Le (room65 hr)) (op_Le (room65 hr)) (de_ix (de_var (i := 1) rfl (vis_of rfl)) (de_int) (fun _ _ => rfl)) (de_var (i := 2) rfl (vis_of rfl)) (de_ix (de_var (i := 1) rfl (vis_of rfl)) (de_int) (fun _ _ => rfl))) (dw_and1 (dt_chain (op_Le (room65 hr)) (op_Le (room65 hr)) (de_ix (de_var (i := 1) rfl (vis_of rfl)) (de_int) (fun _ _ => rfl)) (de_var (i := 3) rfl (vis_of rfl)) (de_ix (de_var (i := 1) rfl (vis_of rfl)) (de_int) (fun _ _ => rfl))))))))) (fun _ _ _ _ _ => de_tup (da_cons (de_var (i := 2) rfl (vis_of rfl)) (da_cons (de_var (i := 3) rfl (vis_of rfl)) (da_nil))))))
abbrev N__law_plain : List Str := ["bad", "f"]
def b__law_plain : SF := sBads 0 0 [eCallD f_check_point [] (aCons (eTup (aCons (eC (.int 1)) (aCons (eC (.int 2)) (aCons (eC (.int 3)) (aNil))))) (aNil)),
  eCallD f_check_point [] (aCons (eTup (aCons (eC (.int 1000001)) (aCons (eC (.int 0)) (aNil)))) (aNil)),
  eCallD f_check_point [] (aCons (eTup (aCons (eC (.int 0)) (aCons (eUn hNeg (eC (.int 1000001))) (aNil)))) (aNil)),
  eCallD f_broken [] (aCons (eC (.int 1)) (aCons (eC (.int 0)) (aNil))),
  eCallD f_half_of [] (aCons (eTup (aCons (eC (.int 1)) (aCons (eC (.int 1)) (aNil)))) (aCons (eTup (aCons (eC (.int 1)) (aCons (eC (.int 1)) (aNil)))) (aNil))),
  eCallD f_turns_ahead [] (aCons (eTup (aCons (eC (.int 0)) (aCons (eC (.int 0)) (aNil)))) (aCons (eTup (aCons (eC (.int 0)) (aCons (eC (.int 0)) (aNil)))) (aCons (eTup (aCons (eC (.int 1)) (aCons (eC (.int 1)) (aNil)))) (aNil)))),
  eCallD f_in_round [] (aCons (eTup (aCons (eC (.int 0)) (aCons (eC (.int 0)) (aNil)))) (aCons (eTup (aCons (eTup (aCons (eC (.int 0)) (aCons (eC (.int 0)) (aNil)))) (aNil))) (aNil))),
  eCallD f_box_of [] (aCons (eTup (aNil)) (aNil)),
  eCallD f_middle_of [] (aCons (eTup (aNil)) (aNil)),
  eCallD f_right_angles [] (aCons (eOp hMul (eTup (aCons (eTup (aCons (eC (.int 0)) (aCons (eC (.int 0)) (aNil)))) (aNil))) (eC (.int 13))) (aNil)),
  eCallD f_most_in_line [] (aCons (eTup (aNil)) (aNil)),
  eCallD f_most_in_line [] (aCons (eOp hMul (eTup (aCons (eTup (aCons (eC (.int 0)) (aCons (eC (.int 0)) (aNil)))) (aNil))) (eC (.int 21))) (aNil))] (tCmpD (hNe) (eC (d_FAR)) (eC (.int 1000000))) (sRet (eC (.bl false))) (sSeq (sIf (tOr2 (tCmpD (hNe) (eCallD f_cross_of [] (aCons (eTup (aCons (eC (.int 0)) (aCons (eC (.int 0)) (aNil)))) (aCons (eTup (aCons (eC (.int 1)) (aCons (eC (.int 0)) (aNil)))) (aCons (eTup (aCons (eC (.int 0)) (aCons (eC (.int 1)) (aNil)))) (aNil))))) (eC (.int 1))) (tCmpD (hNe) (eCallD f_broken [] (aCons (eC (.int 6)) (aCons (eUn hNeg (eC (.int 4))) (aNil)))) (eTup (aCons (eUn hNeg (eC (.int 3))) (aCons (eC (.int 2)) (aNil)))))) (sRet (eC (.bl false))) (sNx)) (sSeq (sIf (tCmpD (hNe) (eCallD f_in_round [] (aCons (eTup (aCons (eC (.int 0)) (aCons (eC (.int 0)) (aNil)))) (aCons (eTup (aCons (eTup (aCons (eC (.int 1)) (aCons (eC (.int 0)) (aNil)))) (aCons (eTup (aCons (eC (.int 0)) (aCons (eUn hNeg (eC (.int 1))) (aNil)))) (aCons (eTup (aCons (eUn hNeg (eC (.int 1))) (aCons (eC (.int 0)) (aNil)))) (aCons (eTup (aCons (eC (.int 0)) (aCons (eC (.int 1)) (aNil)))) (aCons (eTup (aCons (eC (.int 2)) (aCons (eC (.int 0)) (aNil)))) (aNil))))))) (aNil)))) (eTup (aCons (eTup (aCons (eC (.int 1)) (aCons (eC (.int 0)) (aNil)))) (aCons (eTup (aCons (eC (.int 2)) (aCons (eC (.int 0)) (aNil)))) (aCons (eTup (aCons (eC (.int 0)) (aCons (eC (.int 1)) (aNil)))) (aCons (eTup (aCons (eUn hNeg (eC (.int 1))) (aCons (eC (.int 0)) (aNil)))) (aCons (eTup (aCons (eC (.int 0)) (aCons (eUn hNeg (eC (.int 1))) (aNil)))) (aNil)))))))) (sRet (eC (.bl false))) (sNx)) (sSeq (sIf (tNot1 (tAnd2 (tVal (eCallD f_is_between [] (aCons (eTup (aCons (eC (.int 0)) (aCons (eC (.int 0)) (aNil)))) (aCons (eTup (aCons (eC (.int 4)) (aCons (eC (.int 2)) (aNil)))) (aCons (eTup (aCons (eC (.int 2)) (aCons (eC (.int 1)) (aNil)))) (aNil)))))) (tCmpD (hEq) (eCallD f_middle_of [] (aCons (eTup (aCons (eTup (aCons (eC (.int 0)) (aCons (eC (.int 0)) (aNil)))) (aCons (eTup (aCons (eC (.int 1)) (aCons (eC (.int 2)) (aNil)))) (aNil)))) (aNil))) (eTup (aCons (eTup (aCons (eC (.int 1)) (aCons (eC (.int 2)) (aNil)))) (aCons (eTup (aCons (eC (.int 1)) (aCons (eC (.int 1)) (aNil)))) (aNil))))))) (sRet (eC (.bl false))) (sNx)) (sSeq (sIf (tNot1 (tAnd2 (tCmpD (hEq) (eCallD f_steps_between [] (aCons (eTup (aCons (eC (.int 0)) (aCons (eC (.int 0)) (aNil)))) (aCons (eTup (aCons (eC (.int 4)) (aCons (eC (.int 2)) (aNil)))) (aNil)))) (eTup (aCons (eTup (aCons (eC (.int 0)) (aCons (eC (.int 0)) (aNil)))) (aCons (eTup (aCons (eC (.int 2)) (aCons (eC (.int 1)) (aNil)))) (aCons (eTup (aCons (eC (.int 4)) (aCons (eC (.int 2)) (aNil)))) (aNil)))))) (tCmpD (hEq) (eCallD f_steps_between [] (aCons (eTup (aCons (eC (.int 1)) (aCons (eC (.int 1)) (aNil)))) (aCons (eTup (aCons (eC (.int 1)) (aCons (eC (.int 1)) (aNil)))) (aNil)))) (eTup (aCons (eTup (aCons (eC (.int 1)) (aCons (eC (.int 1)) (aNil)))) (aNil)))))) (sRet (eC (.bl false))) (sNx)) (sSeq (sIf (tCmpD (hNe) (eCallD f_right_angles [] (aCons (eTup (aCons (eTup (aCons (eC (.int 0)) (aCons (eC (.int 0)) (aNil)))) (aCons (eTup (aCons (eC (.int 1)) (aCons (eC (.int 0)) (aNil)))) (aCons (eTup (aCons (eC (.int 0)) (aCons (eC (.int 1)) (aNil)))) (aNil))))) (aNil))) (eTup (aCons (eTup (aCons (eC (.int 1)) (aCons (eC (.int 0)) (aCons (eC (.int 2)) (aNil))))) (aNil)))) (sRet (eC (.bl false))) (sNx)) (sRet (eAnd (eOp (hEq) (eCallD f_most_in_line [] (aCons (eTup (aCons (eTup (aCons (eC (.int 0)) (aCons (eC (.int 0)) (aNil)))) (aCons (eTup (aCons (eC (.int 1)) (aCons (eC (.int 1)) (aNil)))) (aCons (eTup (aCons (eC (.int 2)) (aCons (eC (.int 2)) (aNil)))) (aCons (eTup (aCons (eC (.int 0)) (aCons (eC (.int 1)) (aNil)))) (aNil)))))) (aNil))) (eC (.int 3))) (eOp (hEq) (eCallD f_side_of [] (aCons (eTup (aCons (eC (.int 0)) (aCons (eC (.int 0)) (aNil)))) (aCons (eTup (aCons (eC (.int 2)) (aCons (eC (.int 2)) (aNil)))) (aCons (eTup (aCons (eC (.int 1)) (aCons (eC (.int 3)) (aNil)))) (aNil))))) (eC (.int 1))))))))))
def f__law_plain : Fn := runF 0 2 b__law_plain
theorem nd__law_plain : (N__law_plain).Nodup := by decide +kernel
theorem sc__law_plain : FnScope N__law_plain [] (defScope (tp 36)) := ⟨rfl, rfl, rfl, by decide +kernel, rfl, by decide +kernel, by decide +kernel⟩
theorem h__law_plain (T : Txt g K mg base) : Has g P w K mg base 8 "_law_plain" 0 [] f__law_plain := by
  obtain ⟨fa, c, tt, Fu, tb, tm, tu⟩ := T.d__law_plain
  exact has_z (N := N__law_plain) (ps := []) (k := 7) Fu sc__law_plain (fun _ _ _ _ _ _ us hl => match us, hl with | [], _ => rfl) fun A outer s H E B Z hr hl => by
    have hcode : (envOfC "_law_plain" (defScope (tp 36)) s.heap.objs.size fa (.ref c)).code = .ref c := rfl
    exact dss_badOr (k := 4) (ib := 0) (i2 := 1) (own := [("f", 1)]) (es := lamsOf (defBody (tp 36))) tb hcode tm tu ⟨rfl, rfl⟩ nd__law_plain rfl (loc_of rfl) (vis_of rfl)
      (.cons ⟨LamX.lamS_by rfl, fun A outer s H E fa c' B Z hr hl => de_fn ((h_check_point T).mono (by decide)) hr rfl hl (da_cons (de_tup (da_cons (de_int) (da_cons (de_int) (da_cons (de_int) (da_nil))))) (da_nil)), fun _ _ _ _ _ => rfl, rfl⟩
      (.cons ⟨LamX.lamS_by rfl, fun A outer s H E fa c' B Z hr hl => de_fn ((h_check_point T).mono (by decide)) hr rfl hl (da_cons (de_tup (da_cons (de_int) (da_cons (de_int) (da_nil)))) (da_nil)), fun _ _ _ _ _ => rfl, rfl⟩
      (.cons ⟨LamX.lamS_by rfl, fun A outer s H E fa c' B Z hr hl => de_fn ((h_check_point T).mono (by decide)) hr rfl hl (da_cons (de_tup (da_cons (de_int) (da_cons (de_un op_Neg (de_int)) (da_nil)))) (da_nil)), fun _ _ _ _ _ => rfl, rfl⟩
      (.cons ⟨LamX.lamS_by rfl, fun A outer s H E fa c' B Z hr hl => de_fn ((h_broken T).mono (by decide)) hr rfl hl (da_cons (de_int) (da_cons (de_int) (da_nil))), fun _ _ _ _ _ => rfl, rfl⟩
      (.cons ⟨LamX.lamS_by rfl, fun A outer s H E fa c' B Z hr hl => de_fn ((h_half_of T).mono (by decide)) hr rfl hl (da_cons (de_tup (da_cons (de_int) (da_cons (de_int) (da_nil)))) (da_cons (de_tup (da_cons (de_int) (da_cons (de_int) (da_nil)))) (da_nil))), fun _ _ _ _ _ => rfl, rfl⟩
      (.cons ⟨LamX.lamS_by rfl, fun A outer s H E fa c' B Z hr hl => de_fn ((h_turns_ahead T).mono (by decide)) hr rfl hl (da_cons (de_tup (da_cons (de_int) (da_cons (de_int) (da_nil)))) (da_cons (de_tup (da_cons (de_int) (da_cons (de_int) (da_nil)))) (da_cons (de_tup (da_cons (de_int) (da_cons (de_int) (da_nil)))) (da_nil)))), fun _ _ _ _ _ => rfl, rfl⟩
      (.cons ⟨LamX.lamS_by rfl, fun A outer s H E fa c' B Z hr hl => de_fn ((h_in_round T).mono (by decide)) hr rfl hl (da_cons (de_tup (da_cons (de_int) (da_cons (de_int) (da_nil)))) (da_cons (de_tup (da_cons (de_tup (da_cons (de_int) (da_cons (de_int) (da_nil)))) (da_nil))) (da_nil))), fun _ _ _ _ _ => rfl, rfl⟩
      (.cons ⟨LamX.lamS_by rfl, fun A outer s H E fa c' B Z hr hl => de_fn ((h_box_of T).mono (by decide)) hr rfl hl (da_cons (de_tup (da_nil)) (da_nil)), fun _ _ _ _ _ => rfl, rfl⟩
      (.cons ⟨LamX.lamS_by rfl, fun A outer s H E fa c' B Z hr hl => de_fn ((h_middle_of T).mono (by decide)) hr rfl hl (da_cons (de_tup (da_nil)) (da_nil)), fun _ _ _ _ _ => rfl, rfl⟩
      (.cons ⟨LamX.lamS_by rfl, fun A outer s H E fa c' B Z hr hl => de_fn ((h_right_angles T).mono (by decide)) hr rfl hl (da_cons (de_op op_Mul (de_tup (da_cons (de_tup (da_cons (de_int) (da_cons (de_int) (da_nil)))) (da_nil))) (de_int)) (da_nil)), fun _ _ _ _ _ => rfl, rfl⟩
      (.cons ⟨LamX.lamS_by rfl, fun A outer s H E fa c' B Z hr hl => de_fn ((h_most_in_line T).mono (by decide)) hr rfl hl (da_cons (de_tup (da_nil)) (da_nil)), fun _ _ _ _ _ => rfl, rfl⟩
      (.cons ⟨LamX.lamS_by rfl, fun A outer s H E fa c' B Z hr hl => de_fn ((h_most_in_line T).mono (by decide)) hr rfl hl (da_cons (de_op op_Mul (de_tup (da_cons (de_tup (da_cons (de_int) (da_cons (de_int) (da_nil)))) (da_nil))) (de_int)) (da_nil)), fun _ _ _ _ _ => rfl, rfl⟩
      .nil))))))))))))
      (by decide) rfl rfl (td T _ rfl rfl) (hr.mono (by decide)) rfl (fun _ _ _ _ _ => rfl) rfl (bk_by rfl) (fun _ _ => loc_of rfl) (fun _ _ _ _ _ => .inr rfl) (fun _ _ => vis_of rfl) (by decide +kernel) (by decide +kernel) (by decide) (by decide) (by decide) (by decide) (by decide) (fun pn => dw_or1 (dt_cmp (op_Ne (room65 hr)) (k_FAR T) (de_int) rfl)) (fun pn => dss_one (ds_ret (de_bl)))
      (fun pn => dss_cons (ds_if (dt_w (dw_or (dt_cmp (op_Ne (room65 hr)) (de_fn ((h_cross_of T).mono (by decide)) hr rfl lets0 (da_cons (de_tup (da_cons (de_int) (da_cons (de_int) (da_nil)))) (da_cons (de_tup (da_cons (de_int) (da_cons (de_int) (da_nil)))) (da_cons (de_tup (da_cons (de_int) (da_cons (de_int) (da_nil)))) (da_nil))))) (de_int) rfl) (dw_or1 (dt_cmp (op_Ne (room65 hr)) (de_fn ((h_broken T).mono (by decide)) hr rfl lets0 (da_cons (de_int) (da_cons (de_un op_Neg (de_int)) (da_nil)))) (de_tup (da_cons (de_un op_Neg (de_int)) (da_cons (de_int) (da_nil)))) rfl)))) (dss_one (ds_ret (de_bl))) (dss_nil)) (dss_cons (ds_if (dt_cmp (op_Ne (room65 hr)) (de_fn ((h_in_round T).mono (by decide)) hr rfl lets0 (da_cons (de_tup (da_cons (de_int) (da_cons (de_int) (da_nil)))) (da_cons (de_tup (da_cons (de_tup (da_cons (de_int) (da_cons (de_int) (da_nil)))) (da_cons (de_tup (da_cons (de_int) (da_cons (de_un op_Neg (de_int)) (da_nil)))) (da_cons (de_tup (da_cons (de_un op_Neg (de_int)) (da_cons (de_int) (da_nil)))) (da_cons (de_tup (da_cons (de_int) (da_cons (de_int) (da_nil)))) (da_cons (de_tup (da_cons (de_int) (da_cons (de_int) (da_nil)))) (da_nil))))))) (da_nil)))) (de_tup (da_cons (de_tup (da_cons (de_int) (da_cons (de_int) (da_nil)))) (da_cons (de_tup (da_cons (de_int) (da_cons (de_int) (da_nil)))) (da_cons (de_tup (da_cons (de_int) (da_cons (de_int) (da_nil)))) (da_cons (de_tup (da_cons (de_un op_Neg (de_int)) (da_cons (de_int) (da_nil)))) (da_cons (de_tup (da_cons (de_int) (da_cons (de_un op_Neg (de_int)) (da_nil)))) (da_nil))))))) rfl) (dss_one (ds_ret (de_bl))) (dss_nil)) (dss_cons (ds_if (dt_not (dt_w (dw_and (dt_val (de_fn ((h_is_between T).mono (by decide)) hr rfl lets0 (da_cons (de_tup (da_cons (de_int) (da_cons (de_int) (da_nil)))) (da_cons (de_tup (da_cons (de_int) (da_cons (de_int) (da_nil)))) (da_cons (de_tup (da_cons (de_int) (da_cons (de_int) (da_nil)))) (da_nil)))))) (dw_and1 (dt_cmp (op_Eq (room65 hr)) (de_fn ((h_middle_of T).mono (by decide)) hr rfl lets0 (da_cons (de_tup (da_cons (de_tup (da_cons (de_int) (da_cons (de_int) (da_nil)))) (da_cons (de_tup (da_cons (de_int) (da_cons (de_int) (da_nil)))) (da_nil)))) (da_nil))) (de_tup (da_cons (de_tup (da_cons (de_int) (da_cons (de_int) (da_nil)))) (da_cons (de_tup (da_cons (de_int) (da_cons (de_int) (da_nil)))) (da_nil)))) rfl))))) (dss_one (ds_ret (de_bl))) (dss_nil)) (dss_cons (ds_if (dt_not (dt_w (dw_and (dt_cmp (op_Eq (room65 hr)) (de_fn ((h_steps_between T).mono (by decide)) hr rfl lets0 (da_cons (de_tup (da_cons (de_int) (da_cons (de_int) (da_nil)))) (da_cons (de_tup (da_cons (de_int) (da_cons (de_int) (da_nil)))) (da_nil)))) (de_tup (da_cons (de_tup (da_cons (de_int) (da_cons (de_int) (da_nil)))) (da_cons (de_tup (da_cons (de_int) (da_cons (de_int) (da_nil)))) (da_cons (de_tup (da_cons (de_int) (da_cons (de_int) (da_nil)))) (da_nil))))) rfl) (dw_and1 (dt_cmp (op_Eq (room65 hr)) (de_fn ((h_steps_between T).mono (by decide)) hr rfl lets0 (da_cons (de_tup (da_cons (de_int) (da_cons (de_int) (da_nil)))) (da_cons (de_tup (da_cons (de_int) (da_cons (de_int) (da_nil)))) (da_nil)))) (de_tup (da_cons (de_tup (da_cons (de_int) (da_cons (de_int) (da_nil)))) (da_nil))) rfl))))) (dss_one (ds_ret (de_bl))) (dss_nil)) (dss_cons (ds_if (dt_cmp (op_Ne (room65 hr)) (de_fn ((h_right_angles T).mono (by decide)) hr rfl lets0 (da_cons (de_tup (da_cons (de_tup (da_cons (de_int) (da_cons (de_int) (da_nil)))) (da_cons (de_tup (da_cons (de_int) (da_cons (de_int) (da_nil)))) (da_cons (de_tup (da_cons (de_int) (da_cons (de_int) (da_nil)))) (da_nil))))) (da_nil))) (de_tup (da_cons (de_tup (da_cons (de_int) (da_cons (de_int) (da_cons (de_int) (da_nil))))) (da_nil))) rfl) (dss_one (ds_ret (de_bl))) (dss_nil)) (dss_one (ds_ret (de_and (de_cmp (op_Eq (room65 hr)) (de_fn ((h_most_in_line T).mono (by decide)) hr rfl lets0 (da_cons (de_tup (da_cons (de_tup (da_cons (de_int) (da_cons (de_int) (da_nil)))) (da_cons (de_tup (da_cons (de_int) (da_cons (de_int) (da_nil)))) (da_cons (de_tup (da_cons (de_int) (da_cons (de_int) (da_nil)))) (da_cons (de_tup (da_cons (de_int) (da_cons (de_int) (da_nil)))) (da_nil)))))) (da_nil))) (de_int) rfl) (de_one (de_cmp (op_Eq (room65 hr)) (de_fn ((h_side_of T).mono (by decide)) hr rfl lets0 (da_cons (de_tup (da_cons (de_int) (da_cons (de_int) (da_nil)))) (da_cons (de_tup (da_cons (de_int) (da_cons (de_int) (da_nil)))) (da_cons (de_tup (da_cons (de_int) (da_cons (de_int) (da_nil)))) (da_nil))))) (de_int) rfl))))))))))
abbrev N_law : List Str := ["script", "dice", "points", "one", "two", "three", "turn", "x", "y", "far", "top", "bottom", "rest", "order", "point", "on", "flat", "box", "mean", "other", "shared", "steps", "angles", "best", "a", "b", "rows", "k", "p", "c"]
def s_law_0 : SF := sAsg (eTup (aCons (eCallD f__law_turn [] (aCons (eVar 3) (aCons (eVar 4) (aCons (eVar 5) (aNil))))) (aCons (eOp hSub (eOp hIx (eVar 3) (eC (.int 0))) (eOp hIx (eVar 4) (eC (.int 0)))) (aCons (eOp hSub (eOp hIx (eVar 3) (eC (.int 1))) (eOp hIx (eVar 4) (eC (.int 1)))) (aNil))))) (gT [gN 6, gN 7, gN 8])
def s_law_1 : SF := sIf (tOr2 (tCmpD (hNe) (eCallD f_cross_of [] (aCons (eVar 3) (aCons (eVar 4) (aCons (eVar 5) (aNil))))) (eVar 6)) (tCmpD (hNe) (eCallD f_side_of [] (aCons (eVar 3) (aCons (eVar 4) (aCons (eVar 5) (aNil))))) (eOp hSubB (eOp (hGt) (eVar 6) (eC (.int 0))) (eOp (hLt) (eVar 6) (eC (.int 0)))))) (sRet (eC (.bl false))) (sNx)
def s_law_2 : SF := sIf (tCmpD (hNe) (eCallD f_dot_of [] (aCons (eVar 3) (aCons (eVar 4) (aCons (eVar 5) (aNil))))) (eOp hAdd (eOp hMul (eOp hSub (eOp hIx (eVar 4) (eC (.int 0))) (eOp hIx (eVar 3) (eC (.int 0)))) (eOp hSub (eOp hIx (eVar 5) (eC (.int 0))) (eOp hIx (eVar 3) (eC (.int 0))))) (eOp hMul (eOp hSub (eOp hIx (eVar 4) (eC (.int 1))) (eOp hIx (eVar 3) (eC (.int 1)))) (eOp hSub (eOp hIx (eVar 5) (eC (.int 1))) (eOp hIx (eVar 3) (eC (.int 1))))))) (sRet (eC (.bl false))) (sNx)
def s_law_3 : SF := sIf (tOr2 (tCmpD (hNe) (eCallD f_square_far [] (aCons (eVar 3) (aCons (eVar 4) (aNil)))) (eOp hAdd (eOp hMul (eVar 7) (eVar 7)) (eOp hMul (eVar 8) (eVar 8)))) (tOr2 (tCmpD (hNe) (eCallD f_block_far [] (aCons (eVar 3) (aCons (eVar 4) (aNil)))) (eN hSum (aCons (eVar 9) (aNil)))) (tCmpD (hNe) (eCallD f_king_far [] (aCons (eVar 3) (aCons (eVar 4) (aNil)))) (eN hMax (aCons (eVar 9) (aNil)))))) (sRet (eC (.bl false))) (sNx)
def s_law_4 : SF := sAsg (eTup (aCons (eOp hSub (eCallD f__law_roll [] (aCons (eVar 1) (aCons (eC (.int 60)) (aNil)))) (eC (.int 30))) (aCons (eOp hSub (eCallD f__law_roll [] (aCons (eVar 1) (aCons (eC (.int 21)) (aNil)))) (eC (.int 10))) (aNil)))) (gT [gN 10, gN 11])
def s_law_5 : SF := sIf (tCmpD (hNe) (eTold 0 "PointError" (eCallD f_broken [] (aCons (eVar 10) (aCons (eVar 11) (aNil))))) (eIf (tCmpD (hEq) (eVar 11) (eC (.int 0))) (eC (.str "PointError")) (eCallD f__law_low [] (aCons (eVar 10) (aCons (eVar 11) (aNil)))))) (sRet (eC (.bl false))) (sNx)
def s_law_6 : SF := sIf (tCmpD (hNe) (eCallD f_whole_common [] (aCons (eVar 10) (aCons (eVar 11) (aNil)))) (eN hMax (aCons (eIf (tCmpD (hNe) (eTup (aCons (eVar 10) (aCons (eVar 11) (aNil)))) (eTup (aCons (eC (.int 0)) (aCons (eC (.int 0)) (aNil))))) (eLc (aRg2 (aCons (eC (.int 1)) (aCons (eC (.int 31)) (aNil)))) (gN 27) (tAnd2 (tCmpD (hEq) (eOp hMod (eVar 10) (eVar 27)) (eC (.int 0))) (tCmpD (hEq) (eOp hMod (eVar 11) (eVar 27)) (eC (.int 0)))) (eVar 27) [27]) (eLst (aCons (eC (.int 1)) (aNil)))) (aNil)))) (sRet (eC (.bl false))) (sNx)
def s_law_7 : SF := sIf (tOr2 (tCmpD (hNe) (eN hSorted2 (aCons (eVar 13) (aNil))) (eN hSorted2 (aCons (eVar 12) (aNil)))) (tCmpD (hNe) (eLc (aZip (aCons (eVar 13) (aCons (eSl (eVar 13) (oSome (eC (.int 1))) (oNone)) (aNil)))) (gT [gN 24, gN 25]) (tVal (eCallD f__law_ahead [] (aCons (eVar 3) (aCons (eVar 25) (aCons (eVar 24) (aNil)))))) (eC (.int 1)) [24, 25]) (eLst (aNil)))) (sRet (eC (.bl false))) (sNx)
def s_law_8 : SF := sIf (tCmpD (hNe) (eLc (aZip (aCons (eVar 12) (aCons (eSl (eVar 12) (oSome (eC (.int 1))) (oNone)) (aNil)))) (gT [gN 24, gN 25]) (tYes1) (eCallD f_turns_ahead [] (aCons (eVar 3) (aCons (eVar 24) (aCons (eVar 25) (aNil))))) [24, 25]) (eLc (aZip (aCons (eVar 12) (aCons (eSl (eVar 12) (oSome (eC (.int 1))) (oNone)) (aNil)))) (gT [gN 24, gN 25]) (tYes1) (eCallD f__law_ahead [] (aCons (eVar 3) (aCons (eVar 24) (aCons (eVar 25) (aNil))))) [24, 25])) (sRet (eC (.bl false))) (sNx)
def s_law_9 : SF := sIf (tCmpD (hNe) (eLc (aIt (eVar 12)) (gN 14) (tYes1) (eCallD f_half_of [] (aCons (eVar 14) (aCons (eVar 3) (aNil)))) [14]) (eLc (aIt (eVar 12)) (gN 14) (tYes1) (eN hInt (aCons (eOp (hGt) (eCallD f__law_quarter [] (aCons (eVar 3) (aCons (eVar 14) (aNil)))) (eC (.int 3))) (aNil))) [14])) (sRet (eC (.bl false))) (sNx)
def s_law_10 : SF := sSet 15 (eLc (aRg2 (aCons (eC (.int 0)) (aCons (eC (.int 17)) (aNil)))) (gN 27) (tCmpD (hEq) (eTup (aCons (eOp hSub (eOp hMul (eC (.int 16)) (eOp hIx (eVar 14) (eC (.int 0)))) (eOp hMul (eC (.int 16)) (eOp hIx (eVar 3) (eC (.int 0))))) (aCons (eOp hSub (eOp hMul (eC (.int 16)) (eOp hIx (eVar 14) (eC (.int 1)))) (eOp hMul (eC (.int 16)) (eOp hIx (eVar 3) (eC (.int 1))))) (aNil)))) (eTup (aCons (eOp hMul (eOp hSub (eOp hIx (eVar 4) (eC (.int 0))) (eOp hIx (eVar 3) (eC (.int 0)))) (eVar 27)) (aCons (eOp hMul (eOp hSub (eOp hIx (eVar 4) (eC (.int 1))) (eOp hIx (eVar 3) (eC (.int 1)))) (eVar 27)) (aNil))))) (eVar 27) [27])
def s_law_11 : SF := sSet 16 (eAnd (eOp (hEq) (eCallD f__law_turn [] (aCons (eVar 3) (aCons (eVar 4) (aCons (eVar 14) (aNil))))) (eC (.int 0))) (eAnd (eChain (hLe) (hLe) (eN hMin (aCons (eOp hIx (eVar 3) (eC (.int 0))) (aCons (eOp hIx (eVar 4) (eC (.int 0))) (aNil)))) (eOp hIx (eVar 14) (eC (.int 0))) (eN hMax (aCons (eOp hIx (eVar 3) (eC (.int 0))) (aCons (eOp hIx (eVar 4) (eC (.int 0))) (aNil))))) (eChain (hLe) (hLe) (eN hMin (aCons (eOp hIx (eVar 3) (eC (.int 1))) (aCons (eOp hIx (eVar 4) (eC (.int 1))) (aNil)))) (eOp hIx (eVar 14) (eC (.int 1))) (eN hMax (aCons (eOp hIx (eVar 3) (eC (.int 1))) (aCons (eOp hIx (eVar 4) (eC (.int 1))) (aNil)))))))
def s_law_12 : SF := sIf (tOr2 (tCmpD (hNe) (eCallD f_is_between [] (aCons (eVar 3) (aCons (eVar 4) (aCons (eVar 14) (aNil))))) (eVar 16)) (tAnd2 (tCmpD (hNe) (eVar 15) (eLst (aNil))) (tNot1 (tVal (eVar 16))))) (sRet (eC (.bl false))) (sNx)
def s_law_13 : SF := sSet 17 (eTup (aCons (eN hMin (aCons (eLc (aIt (eVar 2)) (gN 28) (tYes1) (eOp hIx (eVar 28) (eC (.int 0))) [28]) (aNil))) (aCons (eN hMin (aCons (eLc (aIt (eVar 2)) (gN 28) (tYes1) (eOp hIx (eVar 28) (eC (.int 1))) [28]) (aNil))) (aCons (eN hMax (aCons (eLc (aIt (eVar 2)) (gN 28) (tYes1) (eOp hIx (eVar 28) (eC (.int 0))) [28]) (aNil))) (aCons (eN hMax (aCons (eLc (aIt (eVar 2)) (gN 28) (tYes1) (eOp hIx (eVar 28) (eC (.int 1))) [28]) (aNil))) (aNil))))))
def s_law_14 : SF := sSet 18 (eTup (aCons (eCallD f__law_low [] (aCons (eN hSum (aCons (eLc (aIt (eVar 2)) (gN 28) (tYes1) (eOp hIx (eVar 28) (eC (.int 0))) [28]) (aNil))) (aCons (eN hLen (aCons (eVar 2) (aNil))) (aNil)))) (aCons (eCallD f__law_low [] (aCons (eN hSum (aCons (eLc (aIt (eVar 2)) (gN 28) (tYes1) (eOp hIx (eVar 28) (eC (.int 1))) [28]) (aNil))) (aCons (eN hLen (aCons (eVar 2) (aNil))) (aNil)))) (aNil))))
def s_law_15 : SF := sSet 21 (eLc (aIt (eCallD f__law_board [] aNil)) (gT [gN 24, gN 25]) (tAnd2 (tCmpD (hEq) (eCallD f__law_turn [] (aCons (eVar 3) (aCons (eVar 4) (aCons (eTup (aCons (eVar 24) (aCons (eVar 25) (aNil)))) (aNil))))) (eC (.int 0))) (tAnd2 (tOfE (eChain (hLe) (hLe) (eN hMin (aCons (eOp hIx (eVar 3) (eC (.int 0))) (aCons (eOp hIx (eVar 4) (eC (.int 0))) (aNil)))) (eVar 24) (eN hMax (aCons (eOp hIx (eVar 3) (eC (.int 0))) (aCons (eOp hIx (eVar 4) (eC (.int 0))) (aNil)))))) (tOfE (eChain (hLe) (hLe) (eN hMin (aCons (eOp hIx (eVar 3) (eC (.int 1))) (aCons (eOp hIx (eVar 4) (eC (.int 1))) (aNil)))) (eVar 25) (eN hMax (aCons (eOp hIx (eVar 3) (eC (.int 1))) (aCons (eOp hIx (eVar 4) (eC (.int 1))) (aNil)))))))) (eTup (aCons (eVar 24) (aCons (eVar 25) (aNil)))) [24, 25])
def s_law_16 : SF := sIf (tOr2 (tCmpD (hNe) (eN hSorted2 (aCons (eCallD f_steps_between [] (aCons (eVar 3) (aCons (eVar 4) (aNil)))) (aNil))) (eVar 21)) (tCmpD (hNe) (eOp hIx (eCallD f_steps_between [] (aCons (eVar 3) (aCons (eVar 4) (aNil)))) (eC (.int 0))) (eVar 3))) (sRet (eC (.bl false))) (sNx)
def s_law_17 : SF := sSet 23 (eN hMax (aCons (eVar 23) (aCons (eN hLen (aCons (eLc (aIt (eVar 2)) (gN 14) (tCmpD (hEq) (eCallD f__law_turn [] (aCons (eOp hIx (eVar 2) (eVar 24)) (aCons (eOp hIx (eVar 2) (eVar 25)) (aCons (eVar 14) (aNil))))) (eC (.int 0))) (eC (.int 1)) [14]) (aNil))) (aNil))))
def s_law_18 : SF := sAsg (eTup (aCons (eOp hSub (eOp hIx (eOp hIx (eVar 2) (eVar 24)) (eC (.int 0))) (eOp hIx (eOp hIx (eVar 2) (eVar 25)) (eC (.int 0)))) (aCons (eOp hSub (eOp hIx (eOp hIx (eVar 2) (eVar 24)) (eC (.int 1))) (eOp hIx (eOp hIx (eVar 2) (eVar 25)) (eC (.int 1)))) (aNil)))) (gT [gN 7, gN 8])
def s_law_19 : SF := sSet 26 (eLc (aRg2 (aCons (eOp hAdd (eVar 24) (eC (.int 1))) (aCons (eN hLen (aCons (eVar 2) (aNil))) (aNil)))) (gN 29) (tAnd2 (tCmpD (hNe) (eVar 29) (eVar 25)) (tCmpD (hNe) (eOp hIx (eVar 2) (eVar 29)) (eOp hIx (eVar 2) (eVar 25)))) (eVar 29) [29])
def s_law_20 : SF := sSet 22 (eOp hAdd (eVar 22) (eLc (aIt (eVar 26)) (gN 29) (tCmpD (hEq) (eOp hAdd (eOp hMul (eVar 7) (eOp hSub (eOp hIx (eOp hIx (eVar 2) (eVar 29)) (eC (.int 0))) (eOp hIx (eOp hIx (eVar 2) (eVar 25)) (eC (.int 0))))) (eOp hMul (eVar 8) (eOp hSub (eOp hIx (eOp hIx (eVar 2) (eVar 29)) (eC (.int 1))) (eOp hIx (eOp hIx (eVar 2) (eVar 25)) (eC (.int 1)))))) (eC (.int 0))) (eTup (aCons (eVar 24) (aCons (eVar 25) (aCons (eVar 29) (aNil))))) [29]))
def s_law_21 : SF := sFor (aRg1 (aCons (eN hLen (aCons (eVar 2) (aNil))) (aNil))) (gN 25) (sIf (tAnd2 (tCmpD (hNe) (eVar 25) (eVar 24)) (tCmpD (hNe) (eOp hIx (eVar 2) (eVar 24)) (eOp hIx (eVar 2) (eVar 25)))) (sSeq (s_law_17) (sSeq (s_law_18) (sSeq (s_law_19) (s_law_20)))) (sNx))
def s_law_22 : SF := sIf (tOr2 (tCmpD (hNe) (eN hList (aCons (eCallD f_right_angles [] (aCons (eVar 2) (aNil))) (aNil))) (eVar 22)) (tCmpD (hNe) (eCallD f_most_in_line [] (aCons (eVar 2) (aNil))) (eVar 23))) (sRet (eC (.bl false))) (sNx)
def s_law_23 : SF := sFor (aIt (eCallD f__law_rounds [] (aCons (eVar 0) (aCons (eC (.int 1)) (aNil))))) (gN 1) (sSeq (sSet 2 (eLc (aRg1 (aCons (eOp hAdd (eC (.int 3)) (eCallD f__law_roll [] (aCons (eVar 1) (aCons (eC (.int 6)) (aNil))))) (aNil))) (gN 27) (tYes1) (eCallD f__law_point [] (aCons (eVar 1) (aNil))) [27])) (sSeq (sAsg (eSl (eVar 2) (oNone) (oSome (eC (.int 3)))) (gT [gN 3, gN 4, gN 5])) (sSeq (s_law_0) (sSeq (s_law_1) (sSeq (s_law_2) (sSeq (sSet 9 (eLst (aCons (eN hMax (aCons (eVar 7) (aCons (eUn hNeg (eVar 7)) (aNil)))) (aCons (eN hMax (aCons (eVar 8) (aCons (eUn hNeg (eVar 8)) (aNil)))) (aNil))))) (sSeq (s_law_3) (sSeq (s_law_4) (sSeq (s_law_5) (sSeq (s_law_6) (sSeq (sSet 12 (eLc (aIt (eVar 2)) (gN 14) (tCmpD (hNe) (eVar 14) (eVar 3)) (eVar 14) [14])) (sSeq (sSet 13 (eCallD f_in_round [] (aCons (eVar 3) (aCons (eVar 12) (aNil))))) (sSeq (s_law_7) (sSeq (s_law_8) (sSeq (s_law_9) (sSeq (sFor (aIt (eVar 2)) (gN 14) (sSeq (s_law_10) (sSeq (s_law_11) (s_law_12)))) (sSeq (s_law_13) (sSeq (s_law_14) (sSeq (sIf (tOr2 (tCmpD (hNe) (eCallD f_box_of [] (aCons (eVar 2) (aNil))) (eVar 17)) (tCmpD (hNe) (eCallD f_middle_of [] (aCons (eVar 2) (aNil))) (eVar 18))) (sRet (eC (.bl false))) (sNx)) (sSeq (sSet 19 (eCallD f_box_of [] (aCons (eLst (aCons (eCallD f__law_point [] (aCons (eVar 1) (aNil))) (aCons (eCallD f__law_point [] (aCons (eVar 1) (aNil))) (aNil)))) (aNil)))) (sSeq (sSet 20 (eCallD f__law_shared [] (aCons (eVar 17) (aCons (eVar 19) (aNil))))) (sSeq (sIf (tCmpD (hNe) (eCallD f_boxes_meet [] (aCons (eVar 17) (aCons (eVar 19) (aNil)))) (eOp (hNe) (eVar 20) (eLst (aNil)))) (sRet (eC (.bl false))) (sNx)) (sSeq (s_law_15) (sSeq (s_law_16) (sSeq (sIf (tCmpD (hNe) (eOp hIx (eCallD f_steps_between [] (aCons (eVar 3) (aCons (eVar 4) (aNil)))) (eUn hNeg (eC (.int 1)))) (eVar 4)) (sRet (eC (.bl false))) (sNx)) (sSeq (sPar 22 23 (aCons (eLst (aNil)) (aCons (eN hMax (aCons (eLc (aIt (eVar 2)) (gN 14) (tYes1) (eM "list" hCount (eVar 2) (aCons (eVar 14) (aNil))) [14]) (aNil))) (aNil)))) (sSeq (sFor (aRg1 (aCons (eN hLen (aCons (eVar 2) (aNil))) (aNil))) (gN 24) (s_law_21)) (s_law_22))))))))))))))))))))))))))))
def b_law : SF := sSeq (s_law_23) (sRet (eCallD f__law_plain [] aNil))
def f_law : Fn := runF 1 30 b_law
theorem nd_law : (N_law).Nodup := by decide +kernel
theorem sc_law : FnScope N_law ["script"] (defScope (tp 37)) := ⟨rfl, rfl, rfl, by decide +kernel, rfl, by decide +kernel, by decide +kernel⟩
theorem h_law (T : Txt g K mg base) : HasL g P w K mg base 9 "law" (tp 37) ["script"] f_law := by
  obtain ⟨fa, c, tt, Fu, tb, tm, tu⟩ := T.d_law
  exact hasL_z (N := N_law) (ps := ["script"]) (k := 8) Fu sc_law fun A outer s H E B Z hr hl => by
    have hcode : (envOfC "law" (defScope (tp 37)) s.heap.objs.size fa (.ref c)).code = .ref c := rfl
    exact dss_cons (ds_for (ws := [1]) (L2.passes_of rfl) rfl (di_seq (de_fn ((h__law_rounds T).mono (by decide)) hr rfl hl (da_cons (de_var (i := 0) rfl (vis_of rfl)) (da_cons (de_int) (da_nil))))) (dg_name (i := 1) nd_law rfl (loc_of rfl)) (dss_cons (ds_set (i := 2) nd_law rfl (loc_of rfl) (de_lc (own := [("k", 27)]) rfl nd_law (di_rg1 rfl T.z_range (da_cons (de_op op_Add (de_int) (de_fn ((h__law_roll T).mono (by decide)) hr rfl hl (da_cons (de_var (i := 1) rfl (vis_of rfl)) (da_cons (de_int) (da_nil))))) (da_nil))) (bk_by rfl) (fun _ _ _ _ _ => dg_name (i := 27) nd_law rfl (loc_of rfl)) (fun _ _ _ _ _ => dts_nil) (fun _ _ _ _ _ => de_fn ((h__law_point T).mono (by decide)) hr rfl lets0 (da_cons (de_var (i := 1) rfl (vis_of rfl)) (da_nil))))) (dss_cons (ds_asg (ws := [3, 4, 5]) (de_sl (de_var (i := 2) rfl (vis_of rfl)) (do_none) (do_some (de_int))) (dg_tup rfl (dgs_cons (dg_name (i := 3) nd_law rfl (loc_of rfl)) (dgs_cons (dg_name (i := 4) nd_law rfl (loc_of rfl)) (dgs_cons (dg_name (i := 5) nd_law rfl (loc_of rfl)) (dgs_nil)))))) (dss_cons (ds_asg (ws := [6, 7, 8]) (de_tup (da_cons (de_fn ((h__law_turn T).mono (by decide)) hr rfl hl (da_cons (de_var (i := 3) rfl (vis_of rfl)) (da_cons (de_var (i := 4) rfl (vis_of rfl)) (da_cons (de_var (i := 5) rfl (vis_of rfl)) (da_nil))))) (da_cons (de_op op_Sub (de_ix (de_var (i := 3) rfl (vis_of rfl)) (de_int) (fun _ _ => rfl)) (de_ix (de_var (i := 4) rfl (vis_of rfl)) (de_int) (fun _ _ => rfl))) (da_cons (de_op op_Sub (de_ix (de_var (i := 3) rfl (vis_of rfl)) (de_int) (fun _ _ => rfl)) (de_ix (de_var (i := 4) rfl (vis_of rfl)) (de_int) (fun _ _ => rfl))) (da_nil))))) (dg_tup rfl (dgs_cons (dg_name (i := 6) nd_law rfl (loc_of rfl)) (dgs_cons (dg_name (i := 7) nd_law rfl (loc_of rfl)) (dgs_cons (dg_name (i := 8) nd_law rfl (loc_of rfl)) (dgs_nil)))))) (dss_cons (ds_if (dt_w (dw_or (dt_cmp (op_Ne (room65 hr)) (de_fn ((h_cross_of T).mono (by decide)) hr rfl hl (da_cons (de_var (i := 3) rfl (vis_of rfl)) (da_cons (de_var (i := 4) rfl (vis_of rfl)) (da_cons (de_var (i := 5) rfl (vis_of rfl)) (da_nil))))) (de_var (i := 6) rfl (vis_of rfl)) rfl) (dw_or1 (dt_cmp (op_Ne (room65 hr)) (de_fn ((h_side_of T).mono (by decide)) hr rfl hl (da_cons (de_var (i := 3) rfl (vis_of rfl)) (da_cons (de_var (i := 4) rfl (vis_of rfl)) (da_cons (de_var (i := 5) rfl (vis_of rfl)) (da_nil))))) (de_op op_SubB (de_cmp (op_Gt (room65 hr)) (de_var (i := 6) rfl (vis_of rfl)) (de_int) rfl) (de_cmp (op_Lt (room65 hr)) (de_var (i := 6) rfl (vis_of rfl)) (de_int) rfl)) rfl)))) (dss_one (ds_ret (de_bl))) (dss_nil)) (dss_cons (ds_if (dt_cmp (op_Ne (room65 hr)) (de_fn ((h_dot_of T).mono (by decide)) hr rfl hl (da_cons (de_var (i := 3) rfl (vis_of rfl)) (da_cons (de_var (i := 4) rfl (vis_of rfl)) (da_cons (de_var (i := 5) rfl (vis_of rfl)) (da_nil))))) (de_op op_Add (de_op op_Mul (de_op op_Sub (de_ix (de_var (i := 4) rfl (vis_of rfl)) (de_int) (fun _ _ => rfl)) (de_ix (de_var (i := 3) rfl (vis_of rfl)) (de_int) (fun _ _ => rfl))) (de_op op_Sub (de_ix (de_var (i := 5) rfl (vis_of rfl)) (de_int) (fun _ _ => rfl)) (de_ix (de_var (i := 3) rfl (vis_of rfl)) (de_int) (fun _ _ => rfl)))) (de_op op_Mul (de_op op_Sub (de_ix (de_var (i := 4) rfl (vis_of rfl)) (de_int) (fun _ _ => rfl)) (de_ix (de_var (i := 3) rfl (vis_of rfl)) (de_int) (fun _ _ => rfl))) (de_op op_Sub (de_ix (de_var (i := 5) rfl (vis_of rfl)) (de_int) (fun _ _ => rfl)) (de_ix (de_var (i := 3) rfl (vis_of rfl)) (de_int) (fun _ _ => rfl))))) rfl) (dss_one (ds_ret (de_bl))) (dss_nil)) (dss_cons (ds_set (i := 9) nd_law rfl (loc_of rfl) (de_lst (da_cons (de_callB (c_max rfl (room65 hr)) rfl T.z_max rfl (da_cons (de_var (i := 7) rfl (vis_of rfl)) (da_cons (de_un op_Neg (de_var (i := 7) rfl (vis_of rfl))) (da_nil)))) (da_cons (de_callB (c_max rfl (room65 hr)) rfl T.z_max rfl (da_cons (de_var (i := 8) rfl (vis_of rfl)) (da_cons (de_un op_Neg (de_var (i := 8) rfl (vis_of rfl))) (da_nil)))) (da_nil))))) (dss_cons (ds_if (dt_w (dw_or (dt_cmp (op_Ne (room65 hr)) (de_fn ((h_square_far T).mono (by decide)) hr rfl hl (da_cons (de_var (i := 3) rfl (vis_of rfl)) (da_cons (de_var (i := 4) rfl (vis_of rfl)) (da_nil)))) (de_op op_Add (de_op op_Mul (de_var (i := 7) rfl (vis_of rfl)) (de_var (i := 7) rfl (vis_of rfl))) (de_op op_Mul (de_var (i := 8) rfl (vis_of rfl)) (de_var (i := 8) rfl (vis_of rfl)))) rfl) (dw_or (dt_cmp (op_Ne (room65 hr)) (de_fn ((h_block_far T).mono (by decide)) hr rfl hl (da_cons (de_var (i := 3) rfl (vis_of rfl)) (da_cons (de_var (i := 4) rfl (vis_of rfl)) (da_nil)))) (de_callB (c_sum rfl) rfl T.z_sum rfl (da_cons (de_var (i := 9) rfl (vis_of rfl)) (da_nil))) rfl) (dw_or1 (dt_cmp (op_Ne (room65 hr)) (de_fn ((h_king_far T).mono (by decide)) hr rfl hl (da_cons (de_var (i := 3) rfl (vis_of rfl)) (da_cons (de_var (i := 4) rfl (vis_of rfl)) (da_nil)))) (de_callB (c_max rfl (room65 hr)) rfl T.z_max rfl (da_cons (de_var (i := 9) rfl (vis_of rfl)) (da_nil))) rfl))))) (dss_one (ds_ret (de_bl))) (dss_nil)) (dss_cons (ds_asg (ws := [10, 11]) (de_tup (da_cons (de_op op_Sub (de_fn ((h__law_roll T).mono (by decide)) hr rfl hl (da_cons (de_var (i := 1) rfl (vis_of rfl)) (da_cons (de_int) (da_nil)))) (de_int)) (da_cons (de_op op_Sub (de_fn ((h__law_roll T).mono (by decide)) hr rfl hl (da_cons (de_var (i := 1) rfl (vis_of rfl)) (da_cons (de_int) (da_nil)))) (de_int)) (da_nil)))) (dg_tup rfl (dgs_cons (dg_name (i := 10) nd_law rfl (loc_of rfl)) (dgs_cons (dg_name (i := 11) nd_law rfl (loc_of rfl)) (dgs_nil))))) (dss_cons (ds_if (dt_cmp (op_Ne (room65 hr)) (de_told (k := 2) (td T _ rfl rfl) rfl tb hcode tm tu (hr.mono (by decide)) (LamX.lamS_by rfl) (fun A outer s H E fa c' B Z hr hl => de_fn ((h_broken T).mono (by decide)) hr rfl hl (da_cons (de_var (i := 10) rfl (vis_of rfl)) (da_cons (de_var (i := 11) rfl (vis_of rfl)) (da_nil))))) (de_if (dt_cmp (op_Eq (room65 hr)) (de_var (i := 11) rfl (vis_of rfl)) (de_int) rfl) (de_str) (de_fn ((h__law_low T).mono (by decide)) hr rfl hl (da_cons (de_var (i := 10) rfl (vis_of rfl)) (da_cons (de_var (i := 11) rfl (vis_of rfl)) (da_nil))))) rfl) (dss_one (ds_ret (de_bl))) (dss_nil)) (dss_cons (ds_if (dt_cmp (op_Ne (room65 hr)) (de_fn ((h_whole_common T).mono (by decide)) hr rfl hl (da_cons (de_var (i := 10) rfl (vis_of rfl)) (da_cons (de_var (i := 11) rfl (vis_of rfl)) (da_nil)))) (de_callB (c_max rfl (room65 hr)) rfl T.z_max rfl (da_cons (de_if (dt_cmp (op_Ne (room65 hr)) (de_tup (da_cons (de_var (i := 10) rfl (vis_of rfl)) (da_cons (de_var (i := 11) rfl (vis_of rfl)) (da_nil)))) (de_tup (da_cons (de_int) (da_cons (de_int) (da_nil)))) rfl) (de_lc (own := [("k", 27)]) rfl nd_law (di_rg2 rfl T.z_range (da_cons (de_int) (da_cons (de_int) (da_nil)))) (bk_by rfl) (fun _ _ _ _ _ => dg_name (i := 27) nd_law rfl (loc_of rfl)) (fun _ _ _ _ _ => dts_one (dt_w (dw_and (dt_cmp (op_Eq (room65 hr)) (de_op op_Mod (de_var (i := 10) rfl (vis_of rfl)) (de_var (i := 27) rfl (vis_of rfl))) (de_int) rfl) (dw_and1 (dt_cmp (op_Eq (room65 hr)) (de_op op_Mod (de_var (i := 11) rfl (vis_of rfl)) (de_var (i := 27) rfl (vis_of rfl))) (de_int) rfl))))) (fun _ _ _ _ _ => de_var (i := 27) rfl (vis_of rfl))) (de_lst (da_cons (de_int) (da_nil)))) (da_nil))) rfl) (dss_one (ds_ret (de_bl))) (dss_nil)) (dss_cons (ds_setLc (i := 12) (own := [("point", 14)]) rfl nd_law rfl rfl rfl (di_seq (de_var (i := 2) rfl (vis_of rfl))) (bk_by rfl) (fun _ _ _ _ _ => dg_name (i := 14) nd_law rfl (loc_of rfl)) (fun _ _ _ _ _ => dts_one (dt_cmp (op_Ne (room65 hr)) (de_var (i := 14) rfl (vis_of rfl)) (de_var (i := 3) rfl (vis_of rfl)) rfl)) (fun _ _ _ _ _ => de_var (i := 14) rfl (vis_of rfl))) (dss_cons (ds_set (i := 13) nd_law rfl (loc_of rfl) (de_fn ((h_in_round T).mono (by decide)) hr rfl hl (da_cons (de_var (i := 3) rfl (vis_of rfl)) (da_cons (de_var (i := 12) rfl (vis_of rfl)) (da_nil))))) (dss_cons (ds_if (dt_w (dw_or (dt_cmp (op_Ne (room65 hr)) (de_callB (c_sorted2 (room65 hr)) rfl T.z_sorted rfl (da_cons (de_var (i := 13) rfl (vis_of rfl)) (da_nil))) (de_callB (c_sorted2 (room65 hr)) rfl T.z_sorted rfl (da_cons (de_var (i := 12) rfl (vis_of rfl)) (da_nil))) rfl) (dw_or1 (dt_cmp (op_Ne (room65 hr)) (de_lc (own := [("a", 24), ("b", 25)]) rfl nd_law (di_zip rfl T.z_zip (da_cons (de_var (i := 13) rfl (vis_of rfl)) (da_cons (de_sl (de_var (i := 13) rfl (vis_of rfl)) (do_some (de_int)) (do_none)) (da_nil)))) (bk_by rfl) (fun _ _ _ _ _ => dg_tup rfl (dgs_cons (dg_name (i := 24) nd_law rfl (loc_of rfl)) (dgs_cons (dg_name (i := 25) nd_law rfl (loc_of rfl)) (dgs_nil)))) (fun _ _ _ _ _ => dts_one (dt_val (de_fn ((h__law_ahead T).mono (by decide)) hr rfl lets0 (da_cons (de_var (i := 3) rfl (vis_of rfl)) (da_cons (de_var (i := 25) rfl (vis_of rfl)) (da_cons (de_var (i := 24) rfl (vis_of rfl)) (da_nil))))))) (fun _ _ _ _ _ => de_int)) (de_lst (da_nil)) rfl)))) (dss_one (ds_ret (de_bl))) (dss_nil)) (dss_cons (ds_if (dt_cmp (op_Ne (room65 hr)) (de_lc (own := [("a", 24), ("b", 25)]) rfl nd_law (di_zip rfl T.z_zip (da_cons (de_var (i := 12) rfl (vis_of rfl)) (da_cons (de_sl (de_var (i := 12) rfl (vis_of rfl)) (do_some (de_int)) (do_none)) (da_nil)))) (bk_by rfl) (fun _ _ _ _ _ => dg_tup rfl (dgs_cons (dg_name (i := 24) nd_law rfl (loc_of rfl)) (dgs_cons (dg_name (i := 25) nd_law rfl (loc_of rfl)) (dgs_nil)))) (fun _ _ _ _ _ => dts_nil) (fun _ _ _ _ _ => de_fn ((h_turns_ahead T).mono (by decide)) hr rfl lets0 (da_cons (de_var (i := 3) rfl (vis_of rfl)) (da_cons (de_var (i := 24) rfl (vis_of rfl)) (da_cons (de_var (i := 25) rfl (vis_of rfl)) (da_nil)))))) (de_lc (own := [("a", 24), ("b", 25)]) rfl nd_law (di_zip rfl T.z_zip (da_cons (de_var (i := 12) rfl (vis_of rfl)) (da_cons (de_sl (de_var (i := 12) rfl (vis_of rfl)) (do_some (de_int)) (do_none)) (da_nil)))) (bk_by rfl) (fun _ _ _ _ _ => dg_tup rfl (dgs_cons (dg_name (i := 24) nd_law rfl (loc_of rfl)) (dgs_cons (dg_name (i := 25) nd_law rfl (loc_of rfl)) (dgs_nil)))) (fun _ _ _ _ _ => dts_nil) (fun _ _ _ _ _ => de_fn ((h__law_ahead T).mono (by decide)) hr rfl lets0 (da_cons (de_var (i := 3) rfl (vis_of rfl)) (da_cons (de_var (i := 24) rfl (vis_of rfl)) (da_cons (de_var (i := 25) rfl (vis_of rfl)) (da_nil)))))) rfl) (dss_one (ds_ret (de_bl))) (dss_nil)) (dss_cons (ds_if (dt_cmp (op_Ne (room65 hr)) (de_lc (own := [("point", 14)]) rfl nd_law (di_seq (de_var (i := 12) rfl (vis_of rfl))) (bk_by rfl) (fun _ _ _ _ _ => dg_name (i := 14) nd_law rfl (loc_of rfl)) (fun _ _ _ _ _ => dts_nil) (fun _ _ _ _ _ => de_fn ((h_half_of T).mono (by decide)) hr rfl lets0 (da_cons (de_var (i := 14) rfl (vis_of rfl)) (da_cons (de_var (i := 3) rfl (vis_of rfl)) (da_nil))))) (de_lc (own := [("point", 14)]) rfl nd_law (di_seq (de_var (i := 12) rfl (vis_of rfl))) (bk_by rfl) (fun _ _ _ _ _ => dg_name (i := 14) nd_law rfl (loc_of rfl)) (fun _ _ _ _ _ => dts_nil) (fun _ _ _ _ _ => de_callT c_int rfl T.z_int rfl (da_cons (de_cmp (op_Gt (room65 hr)) (de_fn ((h__law_quarter T).mono (by decide)) hr rfl lets0 (da_cons (de_var (i := 3) rfl (vis_of rfl)) (da_cons (de_var (i := 14) rfl (vis_of rfl)) (da_nil)))) (de_int) rfl) (da_nil)))) rfl) (dss_one (ds_ret (de_bl))) (dss_nil)) (dss_cons (ds_for (ws := [14]) (L2.passes_of rfl) rfl (di_seq (de_var (i := 2) rfl (vis_of rfl))) (dg_name (i := 14) nd_law rfl (loc_of rfl)) (dss_cons (ds_setLc (i := 15) (own := [("k", 27)]) rfl nd_law rfl rfl rfl (di_rg2 rfl T.z_range (da_cons (de_int) (da_cons (de_int) (da_nil)))) (bk_by rfl) (fun _ _ _ _ _ => dg_name (i := 27) nd_law rfl (loc_of rfl)) (fun _ _ _ _ _ => dts_one (dt_cmp (op_Eq (room65 hr)) (de_tup (da_cons (de_op op_Sub (de_op op_Mul (de_int) (de_ix (de_var (i := 14) rfl (vis_of rfl)) (de_int) (fun _ _ => rfl))) (de_op op_Mul (de_int) (de_ix (de_var (i := 3) rfl (vis_of rfl)) (de_int) (fun _ _ => rfl)))) (da_cons (de_op op_Sub (de_op op_Mul (de_int) (de_ix (de_var (i := 14) rfl (vis_of rfl)) (de_int) (fun _ _ => rfl))) (de_op op_Mul (de_int) (de_ix (de_var (i := 3) rfl (vis_of rfl)) (de_int) (fun _ _ => rfl)))) (da_nil)))) (de_tup (da_cons (de_op op_Mul (de_op op_Sub (de_ix (de_var (i := 4) rfl (vis_of rfl)) (de_int) (fun _ _ => rfl)) (de_ix (de_var (i := 3) rfl (vis_of rfl)) (de_int) (fun _ _ => rfl))) (de_var (i := 27) rfl (vis_of rfl))) (da_cons (de_op op_Mul (de_op op_Sub (de_ix (de_var (i := 4) rfl (vis_of rfl)) (de_int) (fun _ _ => rfl)) (de_ix (de_var (i := 3) rfl (vis_of rfl)) (de_int) (fun _ _ => rfl))) (de_var (i := 27) rfl (vis_of rfl))) (da_nil)))) rfl)) (fun _ _ _ _ _ => de_var (i := 27) rfl (vis_of rfl))) (dss_cons (ds_set (i := 16) nd_law rfl (loc_of rfl) (de_and (de_cmp (op_Eq (room65 hr)) (de_fn ((h__law_turn T).mono (by decide)) hr rfl hl (da_cons (de_var (i := 3) rfl (vis_of rfl)) (da_cons (de_var (i := 4) rfl (vis_of rfl)) (da_cons (de_var (i := 14) rfl (vis_of rfl)) (da_nil))))) (de_int) rfl) (de_and (de_chain (op_Le (room65 hr)) (op_Le (room65 hr)) (de_callB (c_min rfl (room65 hr)) rfl T.z_min rfl (da_cons (de_ix (de_var (i := 3) rfl (vis_of rfl)) (de_int) (fun _ _ => rfl)) (da_cons (de_ix (de_var (i := 4) rfl (vis_of rfl)) (de_int) (fun _ _ => rfl)) (da_nil)))) (de_ix (de_var (i := 14) rfl (vis_of rfl)) (de_int) (fun _ _ => rfl)) (de_callB (c_max rfl (room65 hr)) rfl T.z_max rfl (da_cons (de_ix (de_var (i := 3) rfl (vis_of rfl)) (de_int) (fun _ _ => rfl)) (da_cons (de_ix (de_var (i := 4) rfl (vis_of rfl)) (de_int) (fun _ _ => rfl)) (da_nil))))) (de_one (de_chain (op_Le (room65 hr)) (op_Le (room65 hr)) (de_callB (c_min rfl (room65 hr)) rfl T.z_min rfl (da_cons (de_ix (de_var (i := 3) rfl (vis_of rfl)) (de_int) (fun _ _ => rfl)) (da_cons (de_ix (de_var (i := 4) rfl (vis_of rfl)) (de_int) (fun _ _ => rfl)) (da_nil)))) (de_ix (de_var (i := 14) rfl (vis_of rfl)) (de_int) (fun _ _ => rfl)) (de_callB (c_max rfl (room65 hr)) rfl T.z_max rfl (da_cons (de_ix (de_var (i := 3) rfl (vis_of rfl)) (de_int) (fun _ _ => rfl)) (da_cons (de_ix (de_var (i := 4) rfl (vis_of rfl)) (de_int) (fun _ _ => rfl)) (da_nil))))))))) (dss_one (ds_if (dt_w (dw_or (dt_cmp (op_Ne (room65 hr)) (de_fn ((h_is_between T).mono (by decide)) hr rfl hl (da_cons (de_var (i := 3) rfl (vis_of rfl)) (da_cons (de_var (i := 4) rfl (vis_of rfl)) (da_cons (de_var (i := 14) rfl (vis_of rfl)) (da_nil))))) (de_var (i := 16) rfl (vis_of rfl)) rfl) (dw_or1 (dt_w (dw_and (dt_cmp (op_Ne (room65 hr)) (de_var (i := 15) rfl (vis_of rfl)) (de_lst (da_nil)) rfl) (dw_and1 (dt_not (dt_val (de_var (i := 16) rfl (vis_of rfl)))))))))) (dss_one (ds_ret (de_bl))) (dss_nil)))))) (dss_cons (ds_set (i := 17) nd_law rfl (loc_of rfl) (de_tup (da_cons (de_callB (c_min rfl (room65 hr)) rfl T.z_min rfl (da_cons (de_lc (own := [("p", 28)]) rfl nd_law (di_seq (de_var (i := 2) rfl (vis_of rfl))) (bk_by rfl) (fun _ _ _ _ _ => dg_name (i := 28) nd_law rfl (loc_of rfl)) (fun _ _ _ _ _ => dts_nil) (fun _ _ _ _ _ => de_ix (de_var (i := 28) rfl (vis_of rfl)) (de_int) (fun _ _ => rfl))) (da_nil))) (da_cons (de_callB (c_min rfl (room65 hr)) rfl T.z_min rfl (da_cons (de_lc (own := [("p", 28)]) rfl nd_law (di_seq (de_var (i := 2) rfl (vis_of rfl))) (bk_by rfl) (fun _ _ _ _ _ => dg_name (i := 28) nd_law rfl (loc_of rfl)) (fun _ _ _ _ _ => dts_nil) (fun _ _ _ _ _ => de_ix (de_var (i := 28) rfl (vis_of rfl)) (de_int) (fun _ _ => rfl))) (da_nil))) (da_cons (de_callB (c_max rfl (room65 hr)) rfl T.z_max rfl (da_cons (de_lc (own := [("p", 28)]) rfl nd_law (di_seq (de_var (i := 2) rfl (vis_of rfl))) (bk_by rfl) (fun _ _ _ _ _ => dg_name (i := 28) nd_law rfl (loc_of rfl)) (fun _ _ _ _ _ => dts_nil) (fun _ _ _ _ _ => de_ix (de_var (i := 28) rfl (vis_of rfl)) (de_int) (fun _ _ => rfl))) (da_nil))) (da_cons (de_callB (c_max rfl (room65 hr)) rfl T.z_max rfl (da_cons (de_lc (own := [("p", 28)]) rfl nd_law (di_seq (de_var (i := 2) rfl (vis_of rfl))) (bk_by rfl) (fun _ _ _ _ _ => dg_name (i := 28) nd_law rfl (loc_of rfl)) (fun _ _ _ _ _ => dts_nil) (fun _ _ _ _ _ => de_ix (de_var (i := 28) rfl (vis_of rfl)) (de_int) (fun _ _ => rfl))) (da_nil))) (da_nil))))))) (dss_cons (ds_set (i := 18) nd_law rfl (loc_of rfl) (de_tup (da_cons (de_fn ((h__law_low T).mono (by decide)) hr rfl hl (da_cons (de_callB (c_sum rfl) rfl T.z_sum rfl (da_cons (de_lc (own := [("p", 28)]) rfl nd_law (di_seq (de_var (i := 2) rfl (vis_of rfl))) (bk_by rfl) (fun _ _ _ _ _ => dg_name (i := 28) nd_law rfl (loc_of rfl)) (fun _ _ _ _ _ => dts_nil) (fun _ _ _ _ _ => de_ix (de_var (i := 28) rfl (vis_of rfl)) (de_int) (fun _ _ => rfl))) (da_nil))) (da_cons (de_callB c_len rfl T.z_len rfl (da_cons (de_var (i := 2) rfl (vis_of rfl)) (da_nil))) (da_nil)))) (da_cons (de_fn ((h__law_low T).mono (by decide)) hr rfl hl (da_cons (de_callB (c_sum rfl) rfl T.z_sum rfl (da_cons (de_lc (own := [("p", 28)]) rfl nd_law (di_seq (de_var (i := 2) rfl (vis_of rfl))) (bk_by rfl) (fun _ _ _ _ _ => dg_name (i := 28) nd_law rfl (loc_of rfl)) (fun _ _ _ _ _ => dts_nil) (fun _ _ _ _ _ => de_ix (de_var (i := 28) rfl (vis_of rfl)) (de_int) (fun _ _ => rfl))) (da_nil))) (da_cons (de_callB c_len rfl T.z_len rfl (da_cons (de_var (i := 2) rfl (vis_of rfl)) (da_nil))) (da_nil)))) (da_nil))))) (dss_cons (ds_if (dt_w (dw_or (dt_cmp (op_Ne (room65 hr)) (de_fn ((h_box_of T).mono (by decide)) hr rfl hl (da_cons (de_var (i := 2) rfl (vis_of rfl)) (da_nil))) (de_var (i := 17) rfl (vis_of rfl)) rfl) (dw_or1 (dt_cmp (op_Ne (room65 hr)) (de_fn ((h_middle_of T).mono (by decide)) hr rfl hl (da_cons (de_var (i := 2) rfl (vis_of rfl)) (da_nil))) (de_var (i := 18) rfl (vis_of rfl)) rfl)))) (dss_one (ds_ret (de_bl))) (dss_nil)) (dss_cons (ds_set (i := 19) nd_law rfl (loc_of rfl) (de_fn ((h_box_of T).mono (by decide)) hr rfl hl (da_cons (de_lst (da_cons (de_fn ((h__law_point T).mono (by decide)) hr rfl hl (da_cons (de_var (i := 1) rfl (vis_of rfl)) (da_nil))) (da_cons (de_fn ((h__law_point T).mono (by decide)) hr rfl hl (da_cons (de_var (i := 1) rfl (vis_of rfl)) (da_nil))) (da_nil)))) (da_nil)))) (dss_cons (ds_set (i := 20) nd_law rfl (loc_of rfl) (de_fn ((h__law_shared T).mono (by decide)) hr rfl hl (da_cons (de_var (i := 17) rfl (vis_of rfl)) (da_cons (de_var (i := 19) rfl (vis_of rfl)) (da_nil))))) (dss_cons (ds_if (dt_cmp (op_Ne (room65 hr)) (de_fn ((h_boxes_meet T).mono (by decide)) hr rfl hl (da_cons (de_var (i := 17) rfl (vis_of rfl)) (da_cons (de_var (i := 19) rfl (vis_of rfl)) (da_nil)))) (de_cmp (op_Ne (room65 hr)) (de_var (i := 20) rfl (vis_of rfl)) (de_lst (da_nil)) rfl) rfl) (dss_one (ds_ret (de_bl))) (dss_nil)) (dss_cons (ds_setLc (i := 21) (own := [("a", 24), ("b", 25)]) rfl nd_law rfl rfl rfl (di_seq (de_fn0 ((h__law_board T).mono (by decide)) hr rfl hl)) (bk_by rfl) (fun _ _ _ _ _ => dg_tup rfl (dgs_cons (dg_name (i := 24) nd_law rfl (loc_of rfl)) (dgs_cons (dg_name (i := 25) nd_law rfl (loc_of rfl)) (dgs_nil)))) (fun _ _ _ _ _ => dts_one (dt_w (dw_and (dt_cmp (op_Eq (room65 hr)) (de_fn ((h__law_turn T).mono (by decide)) hr rfl lets0 (da_cons (de_var (i := 3) rfl (vis_of rfl)) (da_cons (de_var (i := 4) rfl (vis_of rfl)) (da_cons (de_tup (da_cons (de_var (i := 24) rfl (vis_of rfl)) (da_cons (de_var (i := 25) rfl (vis_of rfl)) (da_nil)))) (da_nil))))) (de_int) rfl) (dw_and (dt_chain (op_Le (room65 hr)) (op_Le (room65 hr)) (de_callB (c_min rfl (room65 hr)) rfl T.z_min rfl (da_cons (de_ix (de_var (i := 3) rfl (vis_of rfl)) (de_int) (fun _ _ => rfl)) (da_cons (de_ix (de_var (i := 4) rfl (vis_of rfl)) (de_int) (fun _ _ => rfl)) (da_nil)))) (de_var (i := 24) rfl (vis_of rfl)) (de_callB (c_max rfl (room65 hr)) rfl T.z_max rfl (da_cons (de_ix (de_var (i := 3) rfl (vis_of rfl)) (de_int) (fun _ _ => rfl)) (da_cons (de_ix (de_var (i := 4) rfl (vis_of rfl)) (de_int) (fun _ _ => rfl)) (da_nil))))) (dw_and1 (dt_chain (op_Le (room65 hr)) (op_Le (room65 hr)) (de_callB (c_min rfl (room65 hr)) rfl T.z_min rfl (da_cons (de_ix (de_var (i := 3) rfl (vis_of rfl)) (de_int) (fun _ _ => rfl)) (da_cons (de_ix (de_var (i := 4) rfl (vis_of rfl)) (de_int) (fun _ _ => rfl)) (da_nil)))) (de_var (i := 25) rfl (vis_of rfl)) (de_callB (c_max rfl (room65 hr)) rfl T.z_max rfl (da_cons (de_ix (de_var (i := 3) rfl (vis_of rfl)) (de_int) (fun _ _ => rfl)) (da_cons (de_ix (de_var (i := 4) rfl (vis_of rfl)) (de_int) (fun _ _ => rfl)) (da_nil)))))))))) (fun _ _ _ _ _ => de_tup (da_cons (de_var (i := 24) rfl (vis_of rfl)) (da_cons (de_var (i := 25) rfl (vis_of rfl)) (da_nil))))) (dss_cons (ds_if (dt_w (dw_or (dt_cmp (op_Ne (room65 hr)) (de_callB (c_sorted2 (room65 hr)) rfl T.z_sorted rfl (da_cons (de_fn ((h_steps_between T).mono (by decide)) hr rfl hl (da_cons (de_var (i := 3) rfl (vis_of rfl)) (da_cons (de_var (i := 4) rfl (vis_of rfl)) (da_nil)))) (da_nil))) (de_var (i := 21) rfl (vis_of rfl)) rfl) (dw_or1 (dt_cmp (op_Ne (room65 hr)) (de_ix (de_fn ((h_steps_between T).mono (by decide)) hr rfl hl (da_cons (de_var (i := 3) rfl (vis_of rfl)) (da_cons (de_var (i := 4) rfl (vis_of rfl)) (da_nil)))) (de_int) (fun _ _ => rfl)) (de_var (i := 3) rfl (vis_of rfl)) rfl)))) (dss_one (ds_ret (de_bl))) (dss_nil)) (dss_cons (ds_if (dt_cmp (op_Ne (room65 hr)) (de_ix (de_fn ((h_steps_between T).mono (by decide)) hr rfl hl (da_cons (de_var (i := 3) rfl (vis_of rfl)) (da_cons (de_var (i := 4) rfl (vis_of rfl)) (da_nil)))) (de_un op_Neg (de_int)) (fun _ _ => rfl)) (de_var (i := 4) rfl (vis_of rfl)) rfl) (dss_one (ds_ret (de_bl))) (dss_nil)) (dss_cons (ds_par (i := 22) (j := 23) rfl nd_law rfl rfl (by decide) rfl rfl (da_cons (de_lst (da_nil)) (da_cons (de_callB (c_max rfl (room65 hr)) rfl T.z_max rfl (da_cons (de_lc (own := [("point", 14)]) rfl nd_law (di_seq (de_var (i := 2) rfl (vis_of rfl))) (bk_by rfl) (fun _ _ _ _ _ => dg_name (i := 14) nd_law rfl (loc_of rfl)) (fun _ _ _ _ _ => dts_nil) (fun _ _ _ _ _ => de_m F.plainAttrs_list F.slot_list_count F.type_list_count (m_count (room65 hr)) (de_var (i := 2) rfl (vis_of rfl)) (da_cons (de_var (i := 14) rfl (vis_of rfl)) (da_nil)))) (da_nil))) (da_nil))) rfl) (dss_cons (ds_for (ws := [24]) (L2.passes_of rfl) rfl (di_rg1 rfl T.z_range (da_cons (de_callB c_len rfl T.z_len rfl (da_cons (de_var (i := 2) rfl (vis_of rfl)) (da_nil))) (da_nil))) (dg_name (i := 24) nd_law rfl (loc_of rfl)) (dss_one (ds_for (ws := [25]) (L2.passes_of rfl) rfl (di_rg1 rfl T.z_range (da_cons (de_callB c_len rfl T.z_len rfl (da_cons (de_var (i := 2) rfl (vis_of rfl)) (da_nil))) (da_nil))) (dg_name (i := 25) nd_law rfl (loc_of rfl)) (dss_one (ds_if (dt_w (dw_and (dt_cmp (op_Ne (room65 hr)) (de_var (i := 25) rfl (vis_of rfl)) (de_var (i := 24) rfl (vis_of rfl)) rfl) (dw_and1 (dt_cmp (op_Ne (room65 hr)) (de_ix (de_var (i := 2) rfl (vis_of rfl)) (de_var (i := 24) rfl (vis_of rfl)) (fun _ _ => rfl)) (de_ix (de_var (i := 2) rfl (vis_of rfl)) (de_var (i := 25) rfl (vis_of rfl)) (fun _ _ => rfl)) rfl)))) (dss_cons (ds_set (i := 23) nd_law rfl (loc_of rfl) (de_callB (c_max rfl (room65 hr)) rfl T.z_max rfl (da_cons (de_var (i := 23) rfl (vis_of rfl)) (da_cons (de_callB c_len rfl T.z_len rfl (da_cons (de_lc (own := [("point", 14)]) rfl nd_law (di_seq (de_var (i := 2) rfl (vis_of rfl))) (bk_by rfl) (fun _ _ _ _ _ => dg_name (i := 14) nd_law rfl (loc_of rfl)) (fun _ _ _ _ _ => dts_one (dt_cmp (op_Eq (room65 hr)) (de_fn ((h__law_turn T).mono (by decide)) hr rfl lets0 (da_cons (de_ix (de_var (i := 2) rfl (vis_of rfl)) (de_var (i := 24) rfl (vis_of rfl)) (fun _ _ => rfl)) (da_cons (de_ix (de_var (i := 2) rfl (vis_of rfl)) (de_var (i := 25) rfl (vis_of rfl)) (fun _ _ => rfl)) (da_cons (de_var (i := 14) rfl (vis_of rfl)) (da_nil))))) (de_int) rfl)) (fun _ _ _ _ _ => de_int)) (da_nil))) (da_nil))))) (dss_cons (ds_asg (ws := [7, 8]) (de_tup (da_cons (de_op op_Sub (de_ix (de_ix (de_var (i := 2) rfl (vis_of rfl)) (de_var (i := 24) rfl (vis_of rfl)) (fun _ _ => rfl)) (de_int) (fun _ _ => rfl)) (de_ix (de_ix (de_var (i := 2) rfl (vis_of rfl)) (de_var (i := 25) rfl (vis_of rfl)) (fun _ _ => rfl)) (de_int) (fun _ _ => rfl))) (da_cons (de_op op_Sub (de_ix (de_ix (de_var (i := 2) rfl (vis_of rfl)) (de_var (i := 24) rfl (vis_of rfl)) (fun _ _ => rfl)) (de_int) (fun _ _ => rfl)) (de_ix (de_ix (de_var (i := 2) rfl (vis_of rfl)) (de_var (i := 25) rfl (vis_of rfl)) (fun _ _ => rfl)) (de_int) (fun _ _ => rfl))) (da_nil)))) (dg_tup rfl (dgs_cons (dg_name (i := 7) nd_law rfl (loc_of rfl)) (dgs_cons (dg_name (i := 8) nd_law rfl (loc_of rfl)) (dgs_nil))))) (dss_cons (ds_setLc (i := 26) (own := [("c", 29)]) rfl nd_law rfl rfl rfl (di_rg2 rfl T.z_range (da_cons (de_op op_Add (de_var (i := 24) rfl (vis_of rfl)) (de_int)) (da_cons (de_callB c_len rfl T.z_len rfl (da_cons (de_var (i := 2) rfl (vis_of rfl)) (da_nil))) (da_nil)))) (bk_by rfl) (fun _ _ _ _ _ => dg_name (i := 29) nd_law rfl (loc_of rfl)) (fun _ _ _ _ _ => dts_one (dt_w (dw_and (dt_cmp (op_Ne (room65 hr)) (de_var (i := 29) rfl (vis_of rfl)) (de_var (i := 25) rfl (vis_of rfl)) rfl) (dw_and1 (dt_cmp (op_Ne (room65 hr)) (de_ix (de_var (i := 2) rfl (vis_of rfl)) (de_var (i := 29) rfl (vis_of rfl)) (fun _ _ => rfl)) (de_ix (de_var (i := 2) rfl (vis_of rfl)) (de_var (i := 25) rfl (vis_of rfl)) (fun _ _ => rfl)) rfl))))) (fun _ _ _ _ _ => de_var (i := 29) rfl (vis_of rfl))) (dss_one (ds_set (i := 22) nd_law rfl (loc_of rfl) (de_op op_Add (de_var (i := 22) rfl (vis_of rfl)) (de_lc (own := [("c", 29)]) rfl nd_law (di_seq (de_var (i := 26) rfl (vis_of rfl))) (bk_by rfl) (fun _ _ _ _ _ => dg_name (i := 29) nd_law rfl (loc_of rfl)) (fun _ _ _ _ _ => dts_one (dt_cmp (op_Eq (room65 hr)) (de_op op_Add (de_op op_Mul (de_var (i := 7) rfl (vis_of rfl)) (de_op op_Sub (de_ix (de_ix (de_var (i := 2) rfl (vis_of rfl)) (de_var (i := 29) rfl (vis_of rfl)) (fun _ _ => rfl)) (de_int) (fun _ _ => rfl)) (de_ix (de_ix (de_var (i := 2) rfl (vis_of rfl)) (de_var (i := 25) rfl (vis_of rfl)) (fun _ _ => rfl)) (de_int) (fun _ _ => rfl)))) (de_op op_Mul (de_var (i := 8) rfl (vis_of rfl)) (de_op op_Sub (de_ix (de_ix (de_var (i := 2) rfl (vis_of rfl)) (de_var (i := 29) rfl (vis_of rfl)) (fun _ _ => rfl)) (de_int) (fun _ _ => rfl)) (de_ix (de_ix (de_var (i := 2) rfl (vis_of rfl)) (de_var (i := 25) rfl (vis_of rfl)) (fun _ _ => rfl)) (de_int) (fun _ _ => rfl))))) (de_int) rfl)) (fun _ _ _ _ _ => de_tup (da_cons (de_var (i := 24) rfl (vis_of rfl)) (da_cons (de_var (i := 25) rfl (vis_of rfl)) (da_cons (de_var (i := 29) rfl (vis_of rfl)) (da_nil)))))))))))) (dss_nil)))))) (dss_one (ds_if (dt_w (dw_or (dt_cmp (op_Ne (room65 hr)) (de_callT c_list rfl T.z_list rfl (da_cons (de_fn ((h_right_angles T).mono (by decide)) hr rfl hl (da_cons (de_var (i := 2) rfl (vis_of rfl)) (da_nil))) (da_nil))) (de_var (i := 22) rfl (vis_of rfl)) rfl) (dw_or1 (dt_cmp (op_Ne (room65 hr)) (de_fn ((h_most_in_line T).mono (by decide)) hr rfl hl (da_cons (de_var (i := 2) rfl (vis_of rfl)) (da_nil))) (de_var (i := 23) rfl (vis_of rfl)) rfl)))) (dss_one (ds_ret (de_bl))) (dss_nil))))))))))))))))))))))))))))))) (dss_one (ds_ret (de_fn0 ((h__law_plain T).mono (by decide)) hr rfl hl)))
end

theorem law_end {l : PySem.W.OpenLaw} {w : World} {K : PySem.W.Frag} {p : Program} {loose : List Str} {mean : ExcName → Option Value} {mg mb : Str → Option Value} {h : Heap} {fa : Addr} (X : K.In h) (T : Top p loose mean mg mb h) (hmg : mg "law" = some (.ref fa))
    {f5 c5 : Addr} {oc5 kV5 dc5 pm5 ct5 : Value} {od5 an5 : Option Addr} {sl5 : Array (Option Value)}
    (a_check_point : PySem.W.nsIn K mainGlobals "check_point" = some (some (.ref f5))) (l_check_point : K.lookup f5 = some ⟨oc5, od5, .func (PySem.W.fnOf "check_point" "check_point" (defArgs (tp 5)) (defBody (tp 5)) (defScope (tp 5)) .none kV5 dc5 pm5 an5 (.ref c5) ct5), sl5⟩) (q_check_point : PySem.W.codeIn K (.ref c5) "check_point" = true) (k_check_point : PySem.W.keepIn K (.ref f5) = true)
    {f6 c6 : Addr} {oc6 kV6 dc6 pm6 ct6 : Value} {od6 an6 : Option Addr} {sl6 : Array (Option Value)}
    (a_cross_of : PySem.W.nsIn K mainGlobals "cross_of" = some (some (.ref f6))) (l_cross_of : K.lookup f6 = some ⟨oc6, od6, .func (PySem.W.fnOf "cross_of" "cross_of" (defArgs (tp 6)) (defBody (tp 6)) (defScope (tp 6)) .none kV6 dc6 pm6 an6 (.ref c6) ct6), sl6⟩) (q_cross_of : PySem.W.codeIn K (.ref c6) "cross_of" = true) (k_cross_of : PySem.W.keepIn K (.ref f6) = true)
    {f7 c7 : Addr} {oc7 kV7 dc7 pm7 ct7 : Value} {od7 an7 : Option Addr} {sl7 : Array (Option Value)}
    (a_side_of : PySem.W.nsIn K mainGlobals "side_of" = some (some (.ref f7))) (l_side_of : K.lookup f7 = some ⟨oc7, od7, .func (PySem.W.fnOf "side_of" "side_of" (defArgs (tp 7)) (defBody (tp 7)) (defScope (tp 7)) .none kV7 dc7 pm7 an7 (.ref c7) ct7), sl7⟩) (q_side_of : PySem.W.codeIn K (.ref c7) "side_of" = true) (k_side_of : PySem.W.keepIn K (.ref f7) = true)
    {f8 c8 : Addr} {oc8 kV8 dc8 pm8 ct8 : Value} {od8 an8 : Option Addr} {sl8 : Array (Option Value)}
    (a_dot_of : PySem.W.nsIn K mainGlobals "dot_of" = some (some (.ref f8))) (l_dot_of : K.lookup f8 = some ⟨oc8, od8, .func (PySem.W.fnOf "dot_of" "dot_of" (defArgs (tp 8)) (defBody (tp 8)) (defScope (tp 8)) .none kV8 dc8 pm8 an8 (.ref c8) ct8), sl8⟩) (q_dot_of : PySem.W.codeIn K (.ref c8) "dot_of" = true) (k_dot_of : PySem.W.keepIn K (.ref f8) = true)
    {f9 c9 : Addr} {oc9 kV9 dc9 pm9 ct9 : Value} {od9 an9 : Option Addr} {sl9 : Array (Option Value)}
    (a_square_far : PySem.W.nsIn K mainGlobals "square_far" = some (some (.ref f9))) (l_square_far : K.lookup f9 = some ⟨oc9, od9, .func (PySem.W.fnOf "square_far" "square_far" (defArgs (tp 9)) (defBody (tp 9)) (defScope (tp 9)) .none kV9 dc9 pm9 an9 (.ref c9) ct9), sl9⟩) (q_square_far : PySem.W.codeIn K (.ref c9) "square_far" = true) (k_square_far : PySem.W.keepIn K (.ref f9) = true)
    {f10 c10 : Addr} {oc10 kV10 dc10 pm10 ct10 : Value} {od10 an10 : Option Addr} {sl10 : Array (Option Value)}
    (a_block_far : PySem.W.nsIn K mainGlobals "block_far" = some (some (.ref f10))) (l_block_far : K.lookup f10 = some ⟨oc10, od10, .func (PySem.W.fnOf "block_far" "block_far" (defArgs (tp 10)) (defBody (tp 10)) (defScope (tp 10)) .none kV10 dc10 pm10 an10 (.ref c10) ct10), sl10⟩) (q_block_far : PySem.W.codeIn K (.ref c10) "block_far" = true) (k_block_far : PySem.W.keepIn K (.ref f10) = true)
    {f11 c11 : Addr} {oc11 kV11 dc11 pm11 ct11 : Value} {od11 an11 : Option Addr} {sl11 : Array (Option Value)}
    (a_king_far : PySem.W.nsIn K mainGlobals "king_far" = some (some (.ref f11))) (l_king_far : K.lookup f11 = some ⟨oc11, od11, .func (PySem.W.fnOf "king_far" "king_far" (defArgs (tp 11)) (defBody (tp 11)) (defScope (tp 11)) .none kV11 dc11 pm11 an11 (.ref c11) ct11), sl11⟩) (q_king_far : PySem.W.codeIn K (.ref c11) "king_far" = true) (k_king_far : PySem.W.keepIn K (.ref f11) = true)
    {f12 c12 : Addr} {oc12 kV12 dc12 pm12 ct12 : Value} {od12 an12 : Option Addr} {sl12 : Array (Option Value)}
    (a_whole_common : PySem.W.nsIn K mainGlobals "whole_common" = some (some (.ref f12))) (l_whole_common : K.lookup f12 = some ⟨oc12, od12, .func (PySem.W.fnOf "whole_common" "whole_common" (defArgs (tp 12)) (defBody (tp 12)) (defScope (tp 12)) .none kV12 dc12 pm12 an12 (.ref c12) ct12), sl12⟩) (q_whole_common : PySem.W.codeIn K (.ref c12) "whole_common" = true) (k_whole_common : PySem.W.keepIn K (.ref f12) = true)
    {f13 c13 : Addr} {oc13 kV13 dc13 pm13 ct13 : Value} {od13 an13 : Option Addr} {sl13 : Array (Option Value)}
    (a_broken : PySem.W.nsIn K mainGlobals "broken" = some (some (.ref f13))) (l_broken : K.lookup f13 = some ⟨oc13, od13, .func (PySem.W.fnOf "broken" "broken" (defArgs (tp 13)) (defBody (tp 13)) (defScope (tp 13)) .none kV13 dc13 pm13 an13 (.ref c13) ct13), sl13⟩) (q_broken : PySem.W.codeIn K (.ref c13) "broken" = true) (k_broken : PySem.W.keepIn K (.ref f13) = true)
    {f14 c14 : Addr} {oc14 kV14 dc14 pm14 ct14 : Value} {od14 an14 : Option Addr} {sl14 : Array (Option Value)}
    (a_half_of : PySem.W.nsIn K mainGlobals "half_of" = some (some (.ref f14))) (l_half_of : K.lookup f14 = some ⟨oc14, od14, .func (PySem.W.fnOf "half_of" "half_of" (defArgs (tp 14)) (defBody (tp 14)) (defScope (tp 14)) .none kV14 dc14 pm14 an14 (.ref c14) ct14), sl14⟩) (q_half_of : PySem.W.codeIn K (.ref c14) "half_of" = true) (k_half_of : PySem.W.keepIn K (.ref f14) = true)
    {f15 c15 : Addr} {oc15 kV15 dc15 pm15 ct15 : Value} {od15 an15 : Option Addr} {sl15 : Array (Option Value)}
    (a_turns_ahead : PySem.W.nsIn K mainGlobals "turns_ahead" = some (some (.ref f15))) (l_turns_ahead : K.lookup f15 = some ⟨oc15, od15, .func (PySem.W.fnOf "turns_ahead" "turns_ahead" (defArgs (tp 15)) (defBody (tp 15)) (defScope (tp 15)) .none kV15 dc15 pm15 an15 (.ref c15) ct15), sl15⟩) (q_turns_ahead : PySem.W.codeIn K (.ref c15) "turns_ahead" = true) (k_turns_ahead : PySem.W.keepIn K (.ref f15) = true)
    {f16 c16 : Addr} {oc16 kV16 dc16 pm16 ct16 : Value} {od16 an16 : Option Addr} {sl16 : Array (Option Value)}
    (a_in_round : PySem.W.nsIn K mainGlobals "in_round" = some (some (.ref f16))) (l_in_round : K.lookup f16 = some ⟨oc16, od16, .func (PySem.W.fnOf "in_round" "in_round" (defArgs (tp 16)) (defBody (tp 16)) (defScope (tp 16)) .none kV16 dc16 pm16 an16 (.ref c16) ct16), sl16⟩) (q_in_round : PySem.W.codeIn K (.ref c16) "in_round" = true) (k_in_round : PySem.W.keepIn K (.ref f16) = true)
    {f17 c17 : Addr} {oc17 kV17 dc17 pm17 ct17 : Value} {od17 an17 : Option Addr} {sl17 : Array (Option Value)}
    (a_is_between : PySem.W.nsIn K mainGlobals "is_between" = some (some (.ref f17))) (l_is_between : K.lookup f17 = some ⟨oc17, od17, .func (PySem.W.fnOf "is_between" "is_between" (defArgs (tp 17)) (defBody (tp 17)) (defScope (tp 17)) .none kV17 dc17 pm17 an17 (.ref c17) ct17), sl17⟩) (q_is_between : PySem.W.codeIn K (.ref c17) "is_between" = true) (k_is_between : PySem.W.keepIn K (.ref f17) = true)
    {f18 c18 : Addr} {oc18 kV18 dc18 pm18 ct18 : Value} {od18 an18 : Option Addr} {sl18 : Array (Option Value)}
    (a_box_of : PySem.W.nsIn K mainGlobals "box_of" = some (some (.ref f18))) (l_box_of : K.lookup f18 = some ⟨oc18, od18, .func (PySem.W.fnOf "box_of" "box_of" (defArgs (tp 18)) (defBody (tp 18)) (defScope (tp 18)) .none kV18 dc18 pm18 an18 (.ref c18) ct18), sl18⟩) (q_box_of : PySem.W.codeIn K (.ref c18) "box_of" = true) (k_box_of : PySem.W.keepIn K (.ref f18) = true)
    {f19 c19 : Addr} {oc19 kV19 dc19 pm19 ct19 : Value} {od19 an19 : Option Addr} {sl19 : Array (Option Value)}
    (a_boxes_meet : PySem.W.nsIn K mainGlobals "boxes_meet" = some (some (.ref f19))) (l_boxes_meet : K.lookup f19 = some ⟨oc19, od19, .func (PySem.W.fnOf "boxes_meet" "boxes_meet" (defArgs (tp 19)) (defBody (tp 19)) (defScope (tp 19)) .none kV19 dc19 pm19 an19 (.ref c19) ct19), sl19⟩) (q_boxes_meet : PySem.W.codeIn K (.ref c19) "boxes_meet" = true) (k_boxes_meet : PySem.W.keepIn K (.ref f19) = true)
    {f20 c20 : Addr} {oc20 kV20 dc20 pm20 ct20 : Value} {od20 an20 : Option Addr} {sl20 : Array (Option Value)}
    (a_middle_of : PySem.W.nsIn K mainGlobals "middle_of" = some (some (.ref f20))) (l_middle_of : K.lookup f20 = some ⟨oc20, od20, .func (PySem.W.fnOf "middle_of" "middle_of" (defArgs (tp 20)) (defBody (tp 20)) (defScope (tp 20)) .none kV20 dc20 pm20 an20 (.ref c20) ct20), sl20⟩) (q_middle_of : PySem.W.codeIn K (.ref c20) "middle_of" = true) (k_middle_of : PySem.W.keepIn K (.ref f20) = true)
    {f21 c21 : Addr} {oc21 kV21 dc21 pm21 ct21 : Value} {od21 an21 : Option Addr} {sl21 : Array (Option Value)}
    (a_steps_between : PySem.W.nsIn K mainGlobals "steps_between" = some (some (.ref f21))) (l_steps_between : K.lookup f21 = some ⟨oc21, od21, .func (PySem.W.fnOf "steps_between" "steps_between" (defArgs (tp 21)) (defBody (tp 21)) (defScope (tp 21)) .none kV21 dc21 pm21 an21 (.ref c21) ct21), sl21⟩) (q_steps_between : PySem.W.codeIn K (.ref c21) "steps_between" = true) (k_steps_between : PySem.W.keepIn K (.ref f21) = true)
    {f22 c22 : Addr} {oc22 kV22 dc22 pm22 ct22 : Value} {od22 an22 : Option Addr} {sl22 : Array (Option Value)}
    (a_right_angles : PySem.W.nsIn K mainGlobals "right_angles" = some (some (.ref f22))) (l_right_angles : K.lookup f22 = some ⟨oc22, od22, .func (PySem.W.fnOf "right_angles" "right_angles" (defArgs (tp 22)) (defBody (tp 22)) (defScope (tp 22)) .none kV22 dc22 pm22 an22 (.ref c22) ct22), sl22⟩) (q_right_angles : PySem.W.codeIn K (.ref c22) "right_angles" = true) (k_right_angles : PySem.W.keepIn K (.ref f22) = true)
    {f23 c23 : Addr} {oc23 kV23 dc23 pm23 ct23 : Value} {od23 an23 : Option Addr} {sl23 : Array (Option Value)}
    (a_most_in_line : PySem.W.nsIn K mainGlobals "most_in_line" = some (some (.ref f23))) (l_most_in_line : K.lookup f23 = some ⟨oc23, od23, .func (PySem.W.fnOf "most_in_line" "most_in_line" (defArgs (tp 23)) (defBody (tp 23)) (defScope (tp 23)) .none kV23 dc23 pm23 an23 (.ref c23) ct23), sl23⟩) (q_most_in_line : PySem.W.codeIn K (.ref c23) "most_in_line" = true) (k_most_in_line : PySem.W.keepIn K (.ref f23) = true)
    {f25 c25 : Addr} {oc25 kV25 dc25 pm25 ct25 : Value} {od25 an25 : Option Addr} {sl25 : Array (Option Value)}
    (a__law_dice : PySem.W.nsIn K mainGlobals "_law_dice" = some (some (.ref f25))) (l__law_dice : K.lookup f25 = some ⟨oc25, od25, .func (PySem.W.fnOf "_law_dice" "_law_dice" (defArgs (tp 25)) (defBody (tp 25)) (defScope (tp 25)) .none kV25 dc25 pm25 an25 (.ref c25) ct25), sl25⟩) (q__law_dice : PySem.W.codeIn K (.ref c25) "_law_dice" = true) (k__law_dice : PySem.W.keepIn K (.ref f25) = true)
    {f26 c26 : Addr} {oc26 kV26 dc26 pm26 ct26 : Value} {od26 an26 : Option Addr} {sl26 : Array (Option Value)}
    (a__law_roll : PySem.W.nsIn K mainGlobals "_law_roll" = some (some (.ref f26))) (l__law_roll : K.lookup f26 = some ⟨oc26, od26, .func (PySem.W.fnOf "_law_roll" "_law_roll" (defArgs (tp 26)) (defBody (tp 26)) (defScope (tp 26)) .none kV26 dc26 pm26 an26 (.ref c26) ct26), sl26⟩) (q__law_roll : PySem.W.codeIn K (.ref c26) "_law_roll" = true) (k__law_roll : PySem.W.keepIn K (.ref f26) = true)
    {f27 c27 : Addr} {oc27 kV27 dc27 pm27 ct27 : Value} {od27 an27 : Option Addr} {sl27 : Array (Option Value)}
    (a__law_rounds : PySem.W.nsIn K mainGlobals "_law_rounds" = some (some (.ref f27))) (l__law_rounds : K.lookup f27 = some ⟨oc27, od27, .func (PySem.W.fnOf "_law_rounds" "_law_rounds" (defArgs (tp 27)) (defBody (tp 27)) (defScope (tp 27)) .none kV27 dc27 pm27 an27 (.ref c27) ct27), sl27⟩) (q__law_rounds : PySem.W.codeIn K (.ref c27) "_law_rounds" = true) (k__law_rounds : PySem.W.keepIn K (.ref f27) = true)
    {f28 c28 : Addr} {oc28 kV28 dc28 pm28 ct28 : Value} {od28 an28 : Option Addr} {sl28 : Array (Option Value)}
    (a__law_told : PySem.W.nsIn K mainGlobals "_law_told" = some (some (.ref f28))) (l__law_told : K.lookup f28 = some ⟨oc28, od28, .func (PySem.W.fnOf "_law_told" "_law_told" (defArgs (tp 28)) (defBody (tp 28)) (defScope (tp 28)) .none kV28 dc28 pm28 an28 (.ref c28) ct28), sl28⟩) (q__law_told : PySem.W.codeIn K (.ref c28) "_law_told" = true) (k__law_told : PySem.W.keepIn K (.ref f28) = true)
    {f29 c29 : Addr} {oc29 kV29 dc29 pm29 ct29 : Value} {od29 an29 : Option Addr} {sl29 : Array (Option Value)}
    (a__law_low : PySem.W.nsIn K mainGlobals "_law_low" = some (some (.ref f29))) (l__law_low : K.lookup f29 = some ⟨oc29, od29, .func (PySem.W.fnOf "_law_low" "_law_low" (defArgs (tp 29)) (defBody (tp 29)) (defScope (tp 29)) .none kV29 dc29 pm29 an29 (.ref c29) ct29), sl29⟩) (q__law_low : PySem.W.codeIn K (.ref c29) "_law_low" = true) (k__law_low : PySem.W.keepIn K (.ref f29) = true)
    {f30 c30 : Addr} {oc30 kV30 dc30 pm30 ct30 : Value} {od30 an30 : Option Addr} {sl30 : Array (Option Value)}
    (a__law_turn : PySem.W.nsIn K mainGlobals "_law_turn" = some (some (.ref f30))) (l__law_turn : K.lookup f30 = some ⟨oc30, od30, .func (PySem.W.fnOf "_law_turn" "_law_turn" (defArgs (tp 30)) (defBody (tp 30)) (defScope (tp 30)) .none kV30 dc30 pm30 an30 (.ref c30) ct30), sl30⟩) (q__law_turn : PySem.W.codeIn K (.ref c30) "_law_turn" = true) (k__law_turn : PySem.W.keepIn K (.ref f30) = true)
    {f31 c31 : Addr} {oc31 kV31 dc31 pm31 ct31 : Value} {od31 an31 : Option Addr} {sl31 : Array (Option Value)}
    (a__law_point : PySem.W.nsIn K mainGlobals "_law_point" = some (some (.ref f31))) (l__law_point : K.lookup f31 = some ⟨oc31, od31, .func (PySem.W.fnOf "_law_point" "_law_point" (defArgs (tp 31)) (defBody (tp 31)) (defScope (tp 31)) .none kV31 dc31 pm31 an31 (.ref c31) ct31), sl31⟩) (q__law_point : PySem.W.codeIn K (.ref c31) "_law_point" = true) (k__law_point : PySem.W.keepIn K (.ref f31) = true)
    {f32 c32 : Addr} {oc32 kV32 dc32 pm32 ct32 : Value} {od32 an32 : Option Addr} {sl32 : Array (Option Value)}
    (a__law_quarter : PySem.W.nsIn K mainGlobals "_law_quarter" = some (some (.ref f32))) (l__law_quarter : K.lookup f32 = some ⟨oc32, od32, .func (PySem.W.fnOf "_law_quarter" "_law_quarter" (defArgs (tp 32)) (defBody (tp 32)) (defScope (tp 32)) .none kV32 dc32 pm32 an32 (.ref c32) ct32), sl32⟩) (q__law_quarter : PySem.W.codeIn K (.ref c32) "_law_quarter" = true) (k__law_quarter : PySem.W.keepIn K (.ref f32) = true)
    {f33 c33 : Addr} {oc33 kV33 dc33 pm33 ct33 : Value} {od33 an33 : Option Addr} {sl33 : Array (Option Value)}
    (a__law_ahead : PySem.W.nsIn K mainGlobals "_law_ahead" = some (some (.ref f33))) (l__law_ahead : K.lookup f33 = some ⟨oc33, od33, .func (PySem.W.fnOf "_law_ahead" "_law_ahead" (defArgs (tp 33)) (defBody (tp 33)) (defScope (tp 33)) .none kV33 dc33 pm33 an33 (.ref c33) ct33), sl33⟩) (q__law_ahead : PySem.W.codeIn K (.ref c33) "_law_ahead" = true) (k__law_ahead : PySem.W.keepIn K (.ref f33) = true)
    {f34 c34 : Addr} {oc34 kV34 dc34 pm34 ct34 : Value} {od34 an34 : Option Addr} {sl34 : Array (Option Value)}
    (a__law_board : PySem.W.nsIn K mainGlobals "_law_board" = some (some (.ref f34))) (l__law_board : K.lookup f34 = some ⟨oc34, od34, .func (PySem.W.fnOf "_law_board" "_law_board" (defArgs (tp 34)) (defBody (tp 34)) (defScope (tp 34)) .none kV34 dc34 pm34 an34 (.ref c34) ct34), sl34⟩) (q__law_board : PySem.W.codeIn K (.ref c34) "_law_board" = true) (k__law_board : PySem.W.keepIn K (.ref f34) = true)
    {f35 c35 : Addr} {oc35 kV35 dc35 pm35 ct35 : Value} {od35 an35 : Option Addr} {sl35 : Array (Option Value)}
    (a__law_shared : PySem.W.nsIn K mainGlobals "_law_shared" = some (some (.ref f35))) (l__law_shared : K.lookup f35 = some ⟨oc35, od35, .func (PySem.W.fnOf "_law_shared" "_law_shared" (defArgs (tp 35)) (defBody (tp 35)) (defScope (tp 35)) .none kV35 dc35 pm35 an35 (.ref c35) ct35), sl35⟩) (q__law_shared : PySem.W.codeIn K (.ref c35) "_law_shared" = true) (k__law_shared : PySem.W.keepIn K (.ref f35) = true)
    {f36 c36 : Addr} {oc36 kV36 dc36 pm36 ct36 : Value} {od36 an36 : Option Addr} {sl36 : Array (Option Value)}
    (a__law_plain : PySem.W.nsIn K mainGlobals "_law_plain" = some (some (.ref f36))) (l__law_plain : K.lookup f36 = some ⟨oc36, od36, .func (PySem.W.fnOf "_law_plain" "_law_plain" (defArgs (tp 36)) (defBody (tp 36)) (defScope (tp 36)) .none kV36 dc36 pm36 an36 (.ref c36) ct36), sl36⟩) (q__law_plain : PySem.W.codeIn K (.ref c36) "_law_plain" = true) (k__law_plain : PySem.W.keepIn K (.ref f36) = true)
    {f37 c37 : Addr} {oc37 kV37 dc37 pm37 ct37 : Value} {od37 an37 : Option Addr} {sl37 : Array (Option Value)}
    (a_law : PySem.W.nsIn K mainGlobals "law" = some (some (.ref f37))) (l_law : K.lookup f37 = some ⟨oc37, od37, .func (PySem.W.fnOf "law" "law" (defArgs (tp 37)) (defBody (tp 37)) (defScope (tp 37)) .none kV37 dc37 pm37 an37 (.ref c37) ct37), sl37⟩) (q_law : PySem.W.codeIn K (.ref c37) "law" = true) (k_law : PySem.W.keepIn K (.ref f37) = true)
    {vs20 : Array Value} {ccl20 : Value} {cod20 : Option Addr} {csl20 : Array (Option Value)} {P20 : Addr} (lc_middle_of : K.lookup c20 = some ⟨ccl20, cod20, .fields vs20, csl20⟩) (p_middle_of : vs20[11]? = some (.ref P20)) (r_middle_of : (recsOf p).any (fun e => e.name == "middle_of") = true) (n_middle_of : K.lookup P20 = none)
    {vs21 : Array Value} {ccl21 : Value} {cod21 : Option Addr} {csl21 : Array (Option Value)} {P21 : Addr} (lc_steps_between : K.lookup c21 = some ⟨ccl21, cod21, .fields vs21, csl21⟩) (p_steps_between : vs21[11]? = some (.ref P21)) (r_steps_between : (recsOf p).any (fun e => e.name == "steps_between") = true) (n_steps_between : K.lookup P21 = none)
    {vs23 : Array Value} {ccl23 : Value} {cod23 : Option Addr} {csl23 : Array (Option Value)} {P23 : Addr} (lc_most_in_line : K.lookup c23 = some ⟨ccl23, cod23, .fields vs23, csl23⟩) (p_most_in_line : vs23[11]? = some (.ref P23)) (r_most_in_line : (recsOf p).any (fun e => e.name == "most_in_line") = true) (n_most_in_line : K.lookup P23 = none)
    {vs36 : Array Value} {ccl36 : Value} {cod36 : Option Addr} {csl36 : Array (Option Value)} {P36 : Addr} (lc__law_plain : K.lookup c36 = some ⟨ccl36, cod36, .fields vs36, csl36⟩) (p__law_plain : vs36[11]? = some (.ref P36)) (r__law_plain : (recsOf p).any (fun e => e.name == "_law_plain") = true) (n__law_plain : K.lookup P36 = none)
    {vs37 : Array Value} {ccl37 : Value} {cod37 : Option Addr} {csl37 : Array (Option Value)} {P37 : Addr} (lc_law : K.lookup c37 = some ⟨ccl37, cod37, .fields vs37, csl37⟩) (p_law : vs37[11]? = some (.ref P37)) (r_law : (recsOf p).any (fun e => e.name == "law") = true) (n_law : K.lookup P37 = none)
    (z_abs : PySem.W.nsIn K mainGlobals "abs" = some none)
    (z_enumerate : PySem.W.nsIn K mainGlobals "enumerate" = some none)
    (z_int : PySem.W.nsIn K mainGlobals "int" = some none)
    (z_len : PySem.W.nsIn K mainGlobals "len" = some none)
    (z_list : PySem.W.nsIn K mainGlobals "list" = some none)
    (z_max : PySem.W.nsIn K mainGlobals "max" = some none)
    (z_min : PySem.W.nsIn K mainGlobals "min" = some none)
    (z_range : PySem.W.nsIn K mainGlobals "range" = some none)
    (z_sorted : PySem.W.nsIn K mainGlobals "sorted" = some none)
    (z_sum : PySem.W.nsIn K mainGlobals "sum" = some none)
    (z_tuple : PySem.W.nsIn K mainGlobals "tuple" = some none)
    (z_zip : PySem.W.nsIn K mainGlobals "zip" = some none)
    {tFAR : _} (c_FAR : PySem.W.nsIn K mainGlobals "FAR" = some (some (.int 1000000 tFAR)))
    {C : Addr} (e1 : PySem.W.nsIn K mainGlobals "PointError" = some (some (.ref C))) (e2 : PySem.W.excIn K C [.type "ValueError", .type "Exception", .type "BaseException", .type "object"] "ValueError.__new__" = true) (e3 : PySem.W.keepIn K (.ref C) = true) (e4 : PySem.W.subIn K (.ref C) (.type "BaseException") = some true) (e5 : PySem.W.typeIn K (.ref C) = some (.type "type")) (e6 : PySem.W.exmOne K (.ref C) (.ref C) = some true)
    (u_ : [P20, P21, P23, P36, P37].Nodup)
    (hlaw : ∀ ns : List Int, ns.length ≤ 63 → (∀ z ∈ ns, Builtin.Int.intBits z ≤ 1048576) → ∃ st, f_law [.frz (ns.map .int)] [] = .ok (.bl true) st)
    : LamX.LawAtS l w K (L2.CX l.prog w) 9 63 "script" mg fa h := by
  have t_middle_of := tabz T X a_middle_of l_middle_of rfl lc_middle_of p_middle_of r_middle_of
  have t_steps_between := tabz T X a_steps_between l_steps_between rfl lc_steps_between p_steps_between r_steps_between
  have t_most_in_line := tabz T X a_most_in_line l_most_in_line rfl lc_most_in_line p_most_in_line r_most_in_line
  have t__law_plain := tabz T X a__law_plain l__law_plain rfl lc__law_plain p__law_plain r__law_plain
  have t_law := tabz T X a_law l_law rfl lc_law p_law r_law
  refine lawAt (T := [(P20, ("middle_of" : Str) ++ ".<locals>.<genexpr>"), (P21, ("steps_between" : Str) ++ ".<locals>.<genexpr>"), (P23, ("most_in_line" : Str) ++ ".<locals>.<genexpr>"), (P36, ("_law_plain" : Str) ++ ".<locals>.<lambda>"), (P37, ("law" : Str) ++ ".<locals>.<lambda>")]) (cs := [(c20, P20), (c21, P21), (c23, P23), (c36, P36), (c37, P37)]) (ec := fun _ => .ref C) (st := tp 37) (fn := f_law) (by decide)
    (List.forall_mem_cons.mpr ⟨t_middle_of, List.forall_mem_cons.mpr ⟨t_steps_between, List.forall_mem_cons.mpr ⟨t_most_in_line, List.forall_mem_cons.mpr ⟨t__law_plain, List.forall_mem_cons.mpr ⟨t_law, fun _ z => absurd z List.not_mem_nil⟩⟩⟩⟩⟩) (List.forall_mem_cons.mpr ⟨n_middle_of, List.forall_mem_cons.mpr ⟨n_steps_between, List.forall_mem_cons.mpr ⟨n_most_in_line, List.forall_mem_cons.mpr ⟨n__law_plain, List.forall_mem_cons.mpr ⟨n_law, fun _ z => absurd z List.not_mem_nil⟩⟩⟩⟩⟩) (by simp) hmg (PySem.W.mg_of X T.g a_law) l_law (fun s v => .of_eq rfl) (fun base X' G' hTB => h_law ?_) hlaw
  exact { d_check_point := ⟨_, _, funz X T.g a_check_point l_check_point q_check_point k_check_point⟩, d_cross_of := ⟨_, _, funz X T.g a_cross_of l_cross_of q_cross_of k_cross_of⟩, d_side_of := ⟨_, _, funz X T.g a_side_of l_side_of q_side_of k_side_of⟩, d_dot_of := ⟨_, _, funz X T.g a_dot_of l_dot_of q_dot_of k_dot_of⟩, d_square_far := ⟨_, _, funz X T.g a_square_far l_square_far q_square_far k_square_far⟩, d_block_far := ⟨_, _, funz X T.g a_block_far l_block_far q_block_far k_block_far⟩, d_king_far := ⟨_, _, funz X T.g a_king_far l_king_far q_king_far k_king_far⟩, d_whole_common := ⟨_, _, funz X T.g a_whole_common l_whole_common q_whole_common k_whole_common⟩, d_broken := ⟨_, _, funz X T.g a_broken l_broken q_broken k_broken⟩, d_half_of := ⟨_, _, funz X T.g a_half_of l_half_of q_half_of k_half_of⟩, d_turns_ahead := ⟨_, _, funz X T.g a_turns_ahead l_turns_ahead q_turns_ahead k_turns_ahead⟩, d_in_round := ⟨_, _, funz X T.g a_in_round l_in_round q_in_round k_in_round⟩, d_is_between := ⟨_, _, funz X T.g a_is_between l_is_between q_is_between k_is_between⟩, d_box_of := ⟨_, _, funz X T.g a_box_of l_box_of q_box_of k_box_of⟩, d_boxes_meet := ⟨_, _, funz X T.g a_boxes_meet l_boxes_meet q_boxes_meet k_boxes_meet⟩, d_middle_of := ⟨_, _, _, funz X T.g a_middle_of l_middle_of q_middle_of k_middle_of, hTB (c20, P20) (by simp), by simp, uniq_of u_ (by simp)⟩, d_steps_between := ⟨_, _, _, funz X T.g a_steps_between l_steps_between q_steps_between k_steps_between, hTB (c21, P21) (by simp), by simp, uniq_of u_ (by simp)⟩, d_right_angles := ⟨_, _, funz X T.g a_right_angles l_right_angles q_right_angles k_right_angles⟩, d_most_in_line := ⟨_, _, _, funz X T.g a_most_in_line l_most_in_line q_most_in_line k_most_in_line, hTB (c23, P23) (by simp), by simp, uniq_of u_ (by simp)⟩, d__law_dice := ⟨_, _, funz X T.g a__law_dice l__law_dice q__law_dice k__law_dice⟩, d__law_roll := ⟨_, _, funz X T.g a__law_roll l__law_roll q__law_roll k__law_roll⟩, d__law_rounds := ⟨_, _, funz X T.g a__law_rounds l__law_rounds q__law_rounds k__law_rounds⟩, d__law_told := ⟨_, _, funz X T.g a__law_told l__law_told q__law_told k__law_told⟩, d__law_low := ⟨_, _, funz X T.g a__law_low l__law_low q__law_low k__law_low⟩, d__law_turn := ⟨_, _, funz X T.g a__law_turn l__law_turn q__law_turn k__law_turn⟩, d__law_point := ⟨_, _, funz X T.g a__law_point l__law_point q__law_point k__law_point⟩, d__law_quarter := ⟨_, _, funz X T.g a__law_quarter l__law_quarter q__law_quarter k__law_quarter⟩, d__law_ahead := ⟨_, _, funz X T.g a__law_ahead l__law_ahead q__law_ahead k__law_ahead⟩, d__law_board := ⟨_, _, funz X T.g a__law_board l__law_board q__law_board k__law_board⟩, d__law_shared := ⟨_, _, funz X T.g a__law_shared l__law_shared q__law_shared k__law_shared⟩, d__law_plain := ⟨_, _, _, funz X T.g a__law_plain l__law_plain q__law_plain k__law_plain, hTB (c36, P36) (by simp), by simp, uniq_of u_ (by simp)⟩, d_law := ⟨_, _, _, funz X T.g a_law l_law q_law k_law, hTB (c37, P37) (by simp), by simp, uniq_of u_ (by simp)⟩, z_abs := PySem.W.mg_none_of X T.g z_abs, z_enumerate := PySem.W.mg_none_of X T.g z_enumerate, z_int := PySem.W.mg_none_of X T.g z_int, z_len := PySem.W.mg_none_of X T.g z_len, z_list := PySem.W.mg_none_of X T.g z_list, z_max := PySem.W.mg_none_of X T.g z_max, z_min := PySem.W.mg_none_of X T.g z_min, z_range := PySem.W.mg_none_of X T.g z_range, z_sorted := PySem.W.mg_none_of X T.g z_sorted, z_sum := PySem.W.mg_none_of X T.g z_sum, z_tuple := PySem.W.mg_none_of X T.g z_tuple, z_zip := PySem.W.mg_none_of X T.g z_zip, c_FAR := ⟨_, PySem.W.mg_of X T.g c_FAR⟩, e0 := ⟨C, _, _, _, _, rfl, PySem.F.excBase_ValueError, e2, PySem.W.mg_of X T.g e1, e3, e4, e5, e6⟩ }
end K01

set_option Elab.async false
set_option linter.all false
set_option maxRecDepth 100000
set_option maxHeartbeats 1000000
/-! DvPl: mirrors run: words for simp. -/
namespace DV
open PySem PySem.Spec PyProof.Rows L2
section
variable {α β : Type} {env env1 : List Sl} {st st1 : List O} {d e : D} {ds es : List D} {i j k : Nat} {a b x y : Int} {f fa fb fc : EF} {fr : AF} {t u : TF}
@[simp] theorem bind_ok (k : α → List O → R β) (v : α) : (R.ok v st).bind k = k v st := (rfl)
@[simp] theorem bind_exc (k : α → List O → R β) (c : Nat) : (R.exc c st : R α).bind k = .exc c st := (rfl)
@[simp] theorem bind_bad (k : α → List O → R β) : (R.bad : R α).bind k = .bad := (rfl)
@[simp] theorem of_some (v : α) : R.of (some v) st = .ok v st := (rfl)
@[simp] theorem ofB_some (b : Bool) : ofB (some b) st = .ok b st := (rfl)
@[simp] theorem ofR_ok (v : α) (k : α → List O → RS) : RS.ofR (.ok v st) k = k v st := (rfl)
@[simp] theorem ofR_exc (c : Nat) (k : α → List O → RS) : RS.ofR (.exc c st) k = .exc c st := (rfl)
@[simp] theorem nox_okv (v : α) : (R.ok v st).nox = .ok v st := (rfl)
@[simp] theorem x_var : eVar i env st = (match env[i]? with | some (.v d) => .ok d st | _ => .bad) := (rfl)
@[simp] theorem x_c : eC d env st = .ok d st := (rfl)
@[simp] theorem x_nil : aNil env st = .ok [] st := (rfl)
@[simp] theorem x_cons : aCons f fr env st = (f env st).bind fun d st1 => (fr env st1).bind fun ds st2 => .ok (d :: ds) st2 := (rfl)
@[simp] theorem x_tup : eTup fr env st = (fr env st).bind fun ds st => if ds.length ≤ 100000 then .ok (.tup ds) st else .bad := (rfl)
@[simp] theorem x_lst : eLst fr env st = (fr env st).bind fun ds st => if ds.length ≤ 100000 then .ok (.lst ds) st else .bad := (rfl)
@[simp] theorem x_op (h : F2) : eOp h fa fb env st = (fa env st).bind fun x st1 => (fb env st1).bind fun y st2 => .of (h st2 x y) st2 := (rfl)
@[simp] theorem x_un (h : F1) : eUn h fa env st = (fa env st).bind fun x st1 => .of (h st1 x) st1 := (rfl)
@[simp] theorem x_n (h : FN) : eN h fr env st = (fr env st).bind fun xs st1 => .of (h st1 xs) st1 := (rfl)
@[simp] theorem x_m (T : String) (h : FM) : eM T h f fr env st = (f env st).bind fun x st => if D.isT T x then (fr env st).bind fun ds st => .of (h st x ds) st else .bad := (rfl)
def cB {γ : Type} (d : D) (x y z : γ) : γ := match d with | .bl true => x | .bl false => y | _ => z
@[simp] theorem cB_bl {γ : Type} (b : Bool) (x y z : γ) : cB (.bl b) x y z = if b then x else y := by cases b <;> rfl
def cO {γ : Type} (d : Option D) (x y z : γ) : γ := match d with | some (.bl true) => x | some (.bl false) => y | _ => z
@[simp] theorem cO_bl {γ : Type} (b : Bool) (x y z : γ) : cO (some (.bl b)) x y z = if b then x else y := by cases b <;> rfl
@[simp] theorem x_and : eAnd fa fb env st = (fa env st).bind fun d st1 => cB d (fb env st1) (.ok (.bl false) st1) .bad := (rfl)
@[simp] theorem x_or : eOr fa fb env st = (fa env st).bind fun d st1 => cB d (.ok (.bl true) st1) (fb env st1) .bad := (rfl)
@[simp] theorem x_not : eNot fa env st = (fa env st).bind fun d st1 => match d with | .bl b => .ok (.bl (!b)) st1 | _ => .bad := (rfl)
@[simp] theorem x_if : eIf t fa fb env st = (t env st).bind fun b st1 => if b then fa env st1 else fb env st1 := (rfl)
@[simp] theorem x_call (F : Fn) (dds : List D) : eCallD F dds fr env st = (fr env st).bind fun ds st1 => F (ds ++ dds) st1 := (rfl)
@[simp] theorem x_val : tVal f env st = (f env st).bind fun d st1 => ofB (truth st1 d) st1 := (rfl)
@[simp] theorem x_cmp (h : F2) : tCmpD h fa fb env st = (eOp h fa fb env st).bind fun d st1 => match d with | .bl b => .ok b st1 | _ => .bad := (rfl)
@[simp] theorem x_chain (h h' : F2) : eChain h h' fa fb fc env st = (fa env st).bind fun x st1 => (fb env st1).bind fun y st2 => cO (h st2 x y) ((fc env st2).bind fun z st3 => .of (h' st3 y z) st3) (.ok (.bl false) st2) .bad := (rfl)
@[simp] theorem x_and2 : tAnd2 t u env st = (t env st).bind fun b st1 => if b then u env st1 else .ok false st1 := (rfl)
@[simp] theorem x_or2 : tOr2 t u env st = (t env st).bind fun b st1 => if b then .ok true st1 else u env st1 := (rfl)
@[simp] theorem x_not1 : tNot1 t env st = (t env st).bind fun b st1 => .ok (!b) st1 := (rfl)
@[simp] theorem x_ofE : tOfE f env st = (f env st).bind fun d st1 => match d with | .bl b => .ok b st1 | _ => .bad := (rfl)
@[simp] theorem x_yes : tYes1 env st = .ok true st := (rfl)
@[simp] theorem x_chN (c : CF) : tChN f c env st = (f env st).bind fun x st => c x env st := (rfl)
@[simp] theorem x_last (h : F2) : cLast h f d env st = (f env st).bind fun y st => match h st d y with | some (.bl b) => .ok b st | _ => .bad := (rfl)
@[simp] theorem x_link (h : F2) (r : CF) : cLink h f r d env st = (f env st).bind fun y st => match h st d y with | some (.bl b) => if b then r y env st else .ok false st | _ => .bad := (rfl)
@[simp] theorem x_nx : sNx env st = .nx env st := (rfl)
def RS.thn (r : RS) (h : SF) : RS := match r with | .nx env st => h env st | r => r
@[simp] theorem x_seq (f h : SF) : sSeq f h env st = (f env st).thn h := (rfl)
@[simp] theorem thn_nx (h : SF) : (RS.nx env st).thn h = h env st := (rfl)
@[simp] theorem thn_rt (h : SF) : (RS.rt d st).thn h = .rt d st := (rfl)
@[simp] theorem thn_ct (h : SF) : (RS.ct env st).thn h = .ct env st := (rfl)
@[simp] theorem thn_bk (h : SF) : (RS.bk env st).thn h = .bk env st := (rfl)
@[simp] theorem thn_exc (h : SF) (c : Nat) : (RS.exc c st).thn h = .exc c st := (rfl)
@[simp] theorem thn_ite (h : SF) (c : Prop) [Decidable c] (r s : RS) : (if c then r else s).thn h = if c then r.thn h else s.thn h := by split <;> rfl
@[simp] theorem bind_ite (k : α → List O → R β) (c : Prop) [Decidable c] (r s : R α) : (if c then r else s).bind k = if c then r.bind k else s.bind k := by split <;> rfl
@[simp] theorem ofR_ite (k : α → List O → RS) (c : Prop) [Decidable c] (r s : R α) : RS.ofR (if c then r else s) k = if c then RS.ofR r k else RS.ofR s k := by split <;> rfl
@[simp] theorem of_ite (c : Prop) [Decidable c] (r s : Option α) : R.of (if c then r else s) st = if c then R.of r st else R.of s st := by split <;> rfl
def fin (r : RS) : R D := match r with
  | .nx _ s => .ok .non s
  | .rt d s => .ok d s
  | .exc c s => .exc c s
  | _ => .bad
@[simp] theorem fin_nx : fin (.nx env st) = .ok .non st := (rfl)
@[simp] theorem fin_rt : fin (.rt d st) = .ok d st := (rfl)
@[simp] theorem fin_exc (c : Nat) : fin (.exc c st) = .exc c st := (rfl)
@[simp] theorem fin_ite (c : Prop) [Decidable c] (r s : RS) : fin (if c then r else s) = if c then fin r else fin s := by split <;> rfl
theorem x_run {n m : Nat} {b : SF} : runF n m b ds st = if ds.length = n then fin (b (startE m ds) st) else .bad := (rfl)
theorem seq_nx {f h : SF} (q : f env st = .nx env1 st1) : sSeq f h env st = h env1 st1 := by rw [x_seq, q]; rfl
@[simp] theorem x_drop : sDrop f env st = RS.ofR (f env st) fun _ st => .nx env st := (rfl)
@[simp] theorem x_ret : sRet f env st = RS.ofR (f env st) fun d st => .rt d st := (rfl)
@[simp] theorem x_retN : sRetN env st = .rt .non st := (rfl)
@[simp] theorem x_brk : sBrk env st = .bk env st := (rfl)
@[simp] theorem x_cont : sCont env st = .ct env st := (rfl)
@[simp] theorem x_sif (f h : SF) : sIf t f h env st = RS.ofR (t env st) fun b st => if b then f env st else h env st := (rfl)
@[simp] theorem x_set : sSet i f env st = RS.ofR (f env st) fun v st => .nx (env.set i (.v v)) st := (rfl)
@[simp] theorem x_raise (c : Nat) : sRaise c env st = .exc c st := (rfl)
@[simp] theorem x_gN : gN i d env = some (env.set i (.v d)) := (rfl)
@[simp] theorem x_gAll0 : gAll [] [] env = some env := (rfl)
@[simp] theorem x_gAll (t : GF) (ts : List GF) : gAll (t :: ts) (d :: ds) env = (t d env).bind (gAll ts ds) := (rfl)
@[simp] theorem x_gT (ts : List GF) : gT ts (.tup ds) env = gAll ts ds env := (rfl)
@[simp] theorem x_gTl (ts : List GF) : gT ts (.lst ds) env = gAll ts ds env := (rfl)
@[simp] theorem x_asg (t : GF) : sAsg f t env st = RS.ofR (f env st) fun d st => match t d env with | some env' => .nx env' st | none => .bad := (rfl)
@[simp] theorem x_par : sPar i j fr env st = RS.ofR (fr env st) fun ds st => match ds with | [d, e] => .nx ((env.set i (.v d)).set j (.v e)) st | _ => .bad := (rfl)
@[simp] theorem x_par3 : sPar3 i j k fr env st = RS.ofR (fr env st) fun ds st => match ds with | [d, e, f] => .nx (((env.set i (.v d)).set j (.v e)).set k (.v f)) st | _ => .bad := (rfl)
@[simp] theorem x_aug (h : F2) : sAug i h f env st = (match env[i]? with
  | some (.v x) => RS.ofR (f env st) fun d st => match h st x d with
    | some y => .nx (env.set i (.v y)) st
    | none => .bad
  | _ => .bad) := (rfl)
@[simp] theorem x_none : oNone env st = .ok none st := (rfl)
@[simp] theorem x_some : oSome f env st = (f env st).bind fun d st1 => match d with | .int i => .ok (some i) st1 | _ => .bad := (rfl)
@[simp] theorem x_sl (lo hi : OF) : eSl f lo hi env st = (f env st).bind fun d st1 => (lo env st1).bind fun l st2 => (hi env st2).bind fun h st3 => .of (hSlice d l h) st3 := (rfl)
@[simp] theorem x_it : aIt f env st = (f env st).bind fun d st => match d.items with | some ds => .ok ds st | none => .bad := (rfl)
@[simp] theorem x_itL : D.items (.lst ds) = some ds := (rfl)
@[simp] theorem x_itF : D.items (.frz ds) = some ds := (rfl)
@[simp] theorem x_itT : D.items (.tup ds) = some ds := (rfl)
@[simp] theorem x_pureL : D.pure (.lst ds) = some (.l, ds) := (rfl)
@[simp] theorem x_pureT : D.pure (.tup ds) = some (.t, ds) := (rfl)
@[simp] theorem x_rg1 : aRg1 fr env st = (fr env st).bind fun ds st => match ds with | [.int j] => if inRg j then .ok (upFrom 0 j.toNat) st else .bad | _ => .bad := (rfl)
@[simp] theorem x_rg2 : aRg2 fr env st = (fr env st).bind fun ds st => match ds with | [.int i, .int j] => if inRg i && inRg j then .ok (upFrom i (j - i).toNat) st else .bad | _ => .bad := (rfl)
theorem inRg_lo (h1 : -4611686018427387904 ≤ a) (h2 : a < 4611686018427387904) : inRg a = true := by
  unfold inRg; simp only [Bool.and_eq_true, decide_eq_true_eq]; omega
@[simp] theorem x_for (fi : AF) (t : GF) (b : SF) : sFor fi t b env st = RS.ofR (fi env st) fun ds st => forD t b ds env st := (rfl)
@[simp] theorem x_while (fu : List Sl → List O → Nat) (c : TF) (b : SF) : sWhile fu c b env st = whileN c b (fu env st) env st := (rfl)
@[simp] theorem x_lc (fi : AF) (t : GF) (c : TF) (e : EF) (ws : List Nat) : eLc fi t c e ws env st = (fi env st).bind fun ds st => (if ds.length ≤ 100000 then lcD t c e ds (wipeE env ws) st else .bad).bind fun ys st => .ok (.lst ys) st := by
  unfold eLc aLc
  cases fi env st <;> rfl
@[simp] theorem x_setLcL (fr : AF) : sLcL i fr env st = RS.ofR (fr env st) fun ys st => .nx (env.set i (.lin ys)) st := (rfl)
@[simp] theorem x_alc (fi : AF) (t : GF) (c : TF) (e : EF) (ws : List Nat) : aLc fi t c e ws env st = (fi env st).bind fun ds st => if ds.length ≤ 100000 then lcD t c e ds (wipeE env ws) st else .bad := (rfl)
@[simp] theorem x_linD : sLinD i fr env st = RS.ofR (fr env st) fun ds st => if ds.length ≤ 100000 then .nx (env.set i (.lin ds)) st else .bad := (rfl)
@[simp] theorem x_linM (h : List D → List D → Option (List D)) : sLinM i h fr env st = (match env[i]? with
  | some (.lin ds) => RS.ofR (fr env st) fun es st => match h ds es with
    | some ys => .nx (env.set i (.lin ys)) st
    | none => .bad
  | _ => .bad) := (rfl)
@[simp] theorem x_app (h : ds.length < 100000) : hAppL ds [d] = some (ds ++ [d]) := by simp [hAppL, h]
@[simp] theorem x_frz : sFrz i env st = (match env[i]? with | some (.lin ds) => .nx (env.set i (.v (.lst ds))) st | _ => .bad) := (rfl)
@[simp] theorem x_lenL : eLenL i env st = (match env[i]? with | some (.lin ds) => .ok (.int (ds.length : Nat)) st | _ => .bad) := (rfl)
@[simp] theorem x_ixL : eIxL i f env st = (match env[i]? with
  | some (.lin ds) => (f env st).bind fun d st => match d with
    | .int k => .of (L2.atI ds k) st
    | _ => .bad
  | _ => .bad) := (rfl)
@[simp] theorem x_gen (con : CnD) (fi : AF) (t : GF) (c : TF) (e : EF) (ws : List Nat) : eGen con fi t c e ws env st = (fi env st).bind fun ds st => con (traceD t c e ds (wipeE env ws) st).1 (traceD t c e ds (wipeE env ws) st).2 := (rfl)
@[simp] theorem x_wipe0 : wipeE env [] = env := (rfl)
@[simp] theorem x_wipe (vs : List Nat) : wipeE env (i :: vs) = (wipeE env vs).set i .un := (rfl)
@[simp] theorem x_enum : aEnum fr env st = (fr env st).bind fun ds st => match ds with
  | [d] => match d.pure with
    | some (_, xs) => .ok (numFrom 0 xs) st
    | none => .bad
  | _ => .bad := (rfl)
@[simp] theorem g_0 {x : α} {xs : List α} : (x :: xs)[0]? = some x := (rfl)
/-! numbers -/
@[simp] theorem h_add : hAdd st (.int a) (.int b) = some (.int (a + b)) := (rfl)
@[simp] theorem h_sub : hSub st (.int a) (.int b) = some (.int (a - b)) := (rfl)
@[simp] theorem h_neg : hNeg st (.int a) = some (.int (-a)) := (rfl)
theorem mulOk_l (h1 : -9223372036854775808 ≤ a) (h2 : a ≤ 9223372036854775808) : mulOk a b = true := by
  unfold mulOk
  have : a.natAbs < 2 ^ 64 := by omega
  simp [this]
theorem mulOk_r (h1 : -9223372036854775808 ≤ b) (h2 : b ≤ 9223372036854775808) : mulOk a b = true := by
  unfold mulOk
  have : b.natAbs < 2 ^ 64 := by omega
  simp [this]
theorem h_mul (h : mulOk a b = true) : hMul st (.int a) (.int b) = some (.int (a * b)) := by simp [hMul, h]
theorem h_mul_l (h1 : -9223372036854775808 ≤ a) (h2 : a ≤ 9223372036854775808) : hMul st (.int a) (.int b) = some (.int (a * b)) := h_mul (mulOk_l h1 h2)
theorem h_mul_r (h1 : -9223372036854775808 ≤ b) (h2 : b ≤ 9223372036854775808) : hMul st (.int a) (.int b) = some (.int (a * b)) := h_mul (mulOk_r h1 h2)
theorem h_div (h1 : 0 < b) (h2 : b < 1073741824) : hDiv st (.int a) (.int b) = some (.int (a / b)) := by
  have h : divOk b = true := by
    unfold divOk
    simp only [Bool.and_eq_true, Bool.or_eq_true, decide_eq_true_eq]
    omega
  simp only [hDiv, h, if_true]
  rw [Int.fdiv_eq_ediv_of_nonneg _ (Int.le_of_lt h1)]
theorem h_mod (h1 : 0 < b) : hMod st (.int a) (.int b) = some (.int (a % b)) := by
  have h : decide (b ≠ 0) = true := by simp; omega
  simp only [hMod, h, if_true]
  rw [Int.fmod_eq_emod_of_nonneg _ (Int.le_of_lt h1)]
theorem h_sq (h1 : -9223372036854775808 ≤ a) (h2 : a ≤ 9223372036854775808) : hPow st (.int a) (.int 2) = some (.int (a * a)) := by
  have h : a.natAbs < 2 ^ 64 := by omega
  simp only [hPow, h]
  show some (D.int (a ^ 2)) = _
  rw [Int.pow_succ, Int.pow_succ, Int.pow_zero, Int.one_mul]
@[simp] theorem h_abs : hAbs st [.int a] = some (.int (if a < 0 then -a else a)) := (rfl)
@[simp] theorem h_max2 : hMax st [.int a, .int b] = some (.int (max a b)) := by
  show some (D.int (if b > a then b else a)) = _
  rw [Int.max_def]
  congr 2
  split <;> split <;> omega
@[simp] theorem h_min2 : hMin st [.int a, .int b] = some (.int (min a b)) := by
  show some (D.int (if b < a then b else a)) = _
  rw [Int.min_def]
  congr 2
  split <;> split <;> omega
@[simp] theorem h_lt : hLt st (.int a) (.int b) = some (.bl (decide (a < b))) := (rfl)
@[simp] theorem h_gt : hGt st (.int a) (.int b) = some (.bl (decide (b < a))) := (rfl)
@[simp] theorem h_le : hLe st (.int a) (.int b) = some (.bl (decide (a ≤ b))) := (rfl)
@[simp] theorem h_ge : hGe st (.int a) (.int b) = some (.bl (decide (b ≤ a))) := (rfl)
@[simp] theorem fit_non : D.fit k .non = true := by cases k <;> rfl
@[simp] theorem fit_int : D.fit k (.int a) = true := by cases k <;> rfl
@[simp] theorem fit_bl (b : Bool) : D.fit k (.bl b) = true := by cases k <;> rfl
@[simp] theorem fit_tup : D.fit (k + 1) (.tup ds) = D.fits k ds := (rfl)
@[simp] theorem fit_lst : D.fit (k + 1) (.lst ds) = D.fits k ds := (rfl)
@[simp] theorem fits_nil : D.fits k [] = true := by cases k <;> rfl
@[simp] theorem fits_cons : D.fits k (d :: ds) = (D.fit k d && D.fits k ds) := by cases k <;> rfl
theorem fits_map (g : α → D) (h : ∀ x, D.fit k (g x) = true) : ∀ xs : List α, D.fits k (xs.map g) = true
  | [] => fits_nil
  | x :: xs => by rw [List.map_cons, fits_cons, h, fits_map g h xs]; rfl
theorem fits_of : ∀ {ds : List D}, (∀ d ∈ ds, D.fit k d = true) → D.fits k ds = true
  | [], _ => fits_nil
  | d :: ds, h => by rw [fits_cons, h d List.mem_cons_self, fits_of fun e he => h e (List.mem_cons_of_mem _ he)]; rfl
theorem h_eq (h1 : D.fit 60 d = true) (h2 : D.fit 60 e = true) : hEq st d e = some (.bl (D.eqb d e)) := by simp [hEq, h1, h2]
theorem h_ne (h1 : D.fit 60 d = true) (h2 : D.fit 60 e = true) : hNe st d e = some (.bl (!D.eqb d e)) := by simp [hNe, h1, h2]
@[simp] theorem h_eqi : hEq st (.int a) (.int b) = some (.bl (decide (a = b))) := (rfl)
@[simp] theorem h_nei : hNe st (.int a) (.int b) = some (.bl (!decide (a = b))) := (rfl)
@[simp] theorem eqb_int : D.eqb (.int a) (.int b) = decide (a = b) := (rfl)
@[simp] theorem eqb_bl (x y : Bool) : D.eqb (.bl x) (.bl y) = (x == y) := (rfl)
@[simp] theorem eqb_str (x y : Str) : D.eqb (.str x) (.str y) = (x == y) := (rfl)
@[simp] theorem eqb_tup : D.eqb (.tup ds) (.tup es) = D.eqbs ds es := (rfl)
@[simp] theorem eqb_lst : D.eqb (.lst ds) (.lst es) = D.eqbs ds es := (rfl)
@[simp] theorem eqb_lt : D.eqb (.lst ds) (.tup es) = false := (rfl)
@[simp] theorem eqb_tl : D.eqb (.tup ds) (.lst es) = false := (rfl)
@[simp] theorem eqbs_nil : D.eqbs [] [] = true := (rfl)
@[simp] theorem eqbs_cons : D.eqbs (d :: ds) (e :: es) = (D.eqb d e && D.eqbs ds es) := (rfl)
@[simp] theorem eqbs_cn : D.eqbs (d :: ds) [] = false := (rfl)
@[simp] theorem eqbs_nc : D.eqbs [] (d :: ds) = false := (rfl)
@[simp] theorem tr_bl (b : Bool) : truth st (.bl b) = some b := (rfl)
/-- the loop of a list comprehension whose parts only read -/
theorem lc_pure {t : GF} {c : TF} {e : EF} (g : α → D) (p : α → Bool) (h : α → D) : ∀ (xs : List α), (∀ x ∈ xs, ∃ env1, t (g x) env = some env1 ∧ c env1 st = .ok (p x) st ∧ (p x = true → e env1 st = .ok (h x) st)) →
    lcD t c e (xs.map g) env st = .ok ((xs.filter p).map h) st
  | [], _ => rfl
  | x :: xs, H => by
    obtain ⟨env1, h1, h2, h3⟩ := H x List.mem_cons_self
    have ih := lc_pure g p h xs fun y hy => H y (List.mem_cons_of_mem _ hy)
    rw [List.map_cons, lcD, h1]
    simp only [h2, nox_okv, bind_ok]
    cases q : p x with
    | true => simp only [h3 q, nox_okv, bind_ok, ih, List.filter_cons, q, if_true, List.map_cons]
    | false => simp only [ih, List.filter_cons, q, Bool.false_eq_true, if_false]
theorem lc_map {t : GF} {e : EF} (g : α → D) (h : α → D) (xs : List α) (H : ∀ x ∈ xs, ∃ env1, t (g x) env = some env1 ∧ e env1 st = .ok (h x) st) :
    lcD t tYes1 e (xs.map g) env st = .ok (xs.map h) st := by
  have z := lc_pure (c := tYes1) (env := env) (st := st) (t := t) (e := e) g (fun _ => true) h xs fun x hx => let ⟨env1, h1, h2⟩ := H x hx; ⟨env1, h1, rfl, fun _ => h2⟩
  rw [z, List.filter_eq_self.mpr (by simp)]
theorem tr_pure {t : GF} {c : TF} {e : EF} (g : α → D) (p : α → Bool) (h : α → D) : ∀ (xs : List α), (∀ x ∈ xs, ∃ env1, t (g x) env = some env1 ∧ c env1 st = .ok (p x) st ∧ (p x = true → e env1 st = .ok (h x) st)) →
    traceD t c e (xs.map g) env st = ((xs.filter p).map fun x => (h x, st), some st)
  | [], _ => rfl
  | x :: xs, H => by
    obtain ⟨env1, h1, h2, h3⟩ := H x List.mem_cons_self
    have ih := tr_pure g p h xs fun y hy => H y (List.mem_cons_of_mem _ hy)
    rw [List.map_cons, traceD, h1]
    simp only [h2]
    cases q : p x with
    | true => simp only [if_true, h3 q, ih, List.filter_cons, q, List.map_cons]
    | false => simp only [ih, List.filter_cons, q, Bool.false_eq_true, if_false]
theorem tr_map {t : GF} {e : EF} (g : α → D) (h : α → D) (xs : List α) (H : ∀ x ∈ xs, ∃ env1, t (g x) env = some env1 ∧ e env1 st = .ok (h x) st) :
    traceD t tYes1 e (xs.map g) env st = (xs.map fun x => (h x, st), some st) := by
  have z := tr_pure (c := tYes1) (env := env) (st := st) (t := t) (e := e) g (fun _ => true) h xs fun x hx => let ⟨env1, h1, h2⟩ := H x hx; ⟨env1, h1, rfl, fun _ => h2⟩
  rw [z, List.filter_eq_self.mpr (by simp)]
/-- a for by an invariant over what is done -/
theorem for_inv {t : GF} {b : SF} (g : α → D) (J : List α → List Sl → List O → Prop) (xs : List α) (H : ∀ pre x post env st, xs = pre ++ x :: post → J pre env st → ∃ env1 env2 st2, t (g x) env = some env1 ∧ (b env1 st = .nx env2 st2 ∨ b env1 st = .ct env2 st2) ∧ J (pre ++ [x]) env2 st2) :
    ∀ (post pre : List α) (env : List Sl) (st : List O), xs = pre ++ post → J pre env st → ∃ env' st', forD t b (post.map g) env st = .nx env' st' ∧ J xs env' st'
  | [], pre, env, st, e, h => ⟨env, st, rfl, by rw [e, List.append_nil]; exact h⟩
  | x :: post, pre, env, st, e, h => by
    obtain ⟨env1, env2, st2, h1, h2, h3⟩ := H pre x post env st e h
    obtain ⟨env', st', h4, h5⟩ := for_inv g J xs H post (pre ++ [x]) env2 st2 (by rw [e, List.append_assoc]; rfl) h3
    refine ⟨env', st', ?_, h5⟩
    rw [List.map_cons, forD, h1]
    rcases h2 with h2 | h2 <;> simp only [h2] <;> exact h4
theorem for_all {t : GF} {b : SF} (g : α → D) (J : List α → List Sl → List O → Prop) (xs : List α) (h0 : J [] env st) (H : ∀ pre x post env st, xs = pre ++ x :: post → J pre env st → ∃ env1 env2 st2, t (g x) env = some env1 ∧ (b env1 st = .nx env2 st2 ∨ b env1 st = .ct env2 st2) ∧ J (pre ++ [x]) env2 st2) :
    ∃ env' st', forD t b (xs.map g) env st = .nx env' st' ∧ J xs env' st' := for_inv g J xs H xs [] env st rfl h0
/-- a def's run -/
theorem run_rt {n m : Nat} {b : SF} (hl : ds.length = n) (h : b (startE m ds) st = .rt d st1) : runF n m b ds st = .ok d st1 := by simp [runF, hl, h]
end
/-! rows of items -/
@[simp] theorem at_0 {α : Type} (x : α) (xs : List α) : L2.atI (x :: xs) 0 = some x := by simp [L2.atI, L2.ixN]
@[simp] theorem at_1 {α : Type} (x y : α) (xs : List α) : L2.atI (x :: y :: xs) 1 = some y := by
  have : (1 : Int) < (xs.length : Int) + 1 + 1 := by omega
  simp [L2.atI, L2.ixN, this]
@[simp] theorem at_2 {α : Type} (x y z : α) (xs : List α) : L2.atI (x :: y :: z :: xs) 2 = some z := by
  have : (2 : Int) < (xs.length : Int) + 1 + 1 + 1 := by omega
  simp [L2.atI, L2.ixN, this]
@[simp] theorem at_3 {α : Type} (x y z u : α) (xs : List α) : L2.atI (x :: y :: z :: u :: xs) 3 = some u := by
  have : (3 : Int) < (xs.length : Int) + 1 + 1 + 1 + 1 := by omega
  simp [L2.atI, L2.ixN, this]
@[simp] theorem ix_tup (st : List O) (xs : List D) (i : Int) : hIx st (.tup xs) (.int i) = L2.atI xs i := (rfl)
@[simp] theorem ix_lst (st : List O) (xs : List D) (i : Int) : hIx st (.lst xs) (.int i) = L2.atI xs i := (rfl)
@[simp] theorem ix_frz (st : List O) (xs : List D) (i : Int) : hIx st (.frz xs) (.int i) = L2.atI xs i := (rfl)
theorem at_map {α β : Type} (g : α → β) (xs : List α) (i : Int) : L2.atI (xs.map g) i = (L2.atI xs i).map g := by
  unfold L2.atI
  rw [List.length_map]
  cases L2.ixN xs.length i with
  | none => rfl
  | some j => simp
theorem at_nat {α : Type} (xs : List α) (i : Nat) (h : i < xs.length) : L2.atI xs (i : Int) = some xs[i] := by
  unfold L2.atI L2.ixN
  rw [if_pos (by omega), if_pos (by omega)]
  simp [h]
@[simp] theorem len_lst (st : List O) (xs : List D) : hLen st [.lst xs] = some (.int (xs.length : Nat)) := (rfl)
@[simp] theorem len_tup (st : List O) (xs : List D) : hLen st [.tup xs] = some (.int (xs.length : Nat)) := (rfl)
@[simp] theorem len_frz (st : List O) (xs : List D) : hLen st [.frz xs] = some (.int (xs.length : Nat)) := (rfl)
@[simp] theorem int_int (st : List O) (i : Int) : hInt st [.int i] = some (.int i) := (rfl)
@[simp] theorem int_bl (st : List O) (b : Bool) : hInt st [.bl b] = some (.int (if b then 1 else 0)) := (rfl)
@[simp] theorem list_l (st : List O) (xs : List D) : hList st [.lst xs] = some (.lst xs) := (rfl)
@[simp] theorem list_t (st : List O) (xs : List D) : hList st [.tup xs] = some (.lst xs) := (rfl)
@[simp] theorem tuple_l (st : List O) (xs : List D) : hTuple st [.lst xs] = some (.tup xs) := (rfl)
@[simp] theorem tuple_t (st : List O) (xs : List D) : hTuple st [.tup xs] = some (.tup xs) := (rfl)
/-- whole points -/
abbrev pt (p : Int × Int) : D := .tup [.int p.1, .int p.2]
end DV

set_option Elab.async false
set_option linter.all false
set_option maxRecDepth 100000
set_option maxHeartbeats 1000000
/-! DvPn: rows of numbers and points. -/
namespace DV
open PySem PySem.Spec PyProof.Rows L2
open PySem.W (alike alikeAll dataLt dataLe)
def mxI (ns : List Int) : Int := ns.max?.getD 0
def mnI (ns : List Int) : Int := ns.min?.getD 0
theorem mx_mem {ns : List Int} (h : ns ≠ []) : mxI ns ∈ ns := by
  unfold mxI
  cases e : ns.max? with
  | none => exact absurd (List.max?_eq_none_iff.mp e) h
  | some m => exact (List.max?_eq_some_iff.mp e).1
theorem mx_le {ns : List Int} {x : Int} (h : x ∈ ns) : x ≤ mxI ns := by
  unfold mxI
  cases e : ns.max? with
  | none => rw [List.max?_eq_none_iff.mp e] at h; cases h
  | some m => exact (List.max?_eq_some_iff.mp e).2 x h
theorem mn_mem {ns : List Int} (h : ns ≠ []) : mnI ns ∈ ns := by
  unfold mnI
  cases e : ns.min? with
  | none => exact absurd (List.min?_eq_none_iff.mp e) h
  | some m => exact (List.min?_eq_some_iff.mp e).1
theorem mn_le {ns : List Int} {x : Int} (h : x ∈ ns) : mnI ns ≤ x := by
  unfold mnI
  cases e : ns.min? with
  | none => rw [List.min?_eq_none_iff.mp e] at h; cases h
  | some m => exact (List.min?_eq_some_iff.mp e).2 x h
theorem mx_eq {ns : List Int} {m : Int} (h1 : m ∈ ns) (h2 : ∀ x ∈ ns, x ≤ m) : mxI ns = m := by
  have a := mx_le h1
  have b := h2 _ (mx_mem (List.ne_nil_of_mem h1))
  omega
theorem mn_eq {ns : List Int} {m : Int} (h1 : m ∈ ns) (h2 : ∀ x ∈ ns, m ≤ x) : mnI ns = m := by
  have a := mn_le h1
  have b := h2 _ (mn_mem (List.ne_nil_of_mem h1))
  omega
theorem maxD_int : ∀ (xs : List Int) (x : Int), D.maxD (.int x) (xs.map .int) = .int (xs.foldl max x)
  | [], _ => rfl
  | y :: ys, x => by
    have ih := maxD_int ys (max x y)
    unfold D.maxD at ih ⊢
    simp only [List.map_cons, List.foldl_cons, D.py, PySem.W.dataLt_int]
    rw [← ih]
    congr 1
    rw [Int.max_def]
    split <;> split <;> simp_all <;> omega
theorem minD_int : ∀ (xs : List Int) (x : Int), D.minD (.int x) (xs.map .int) = .int (xs.foldl min x)
  | [], _ => rfl
  | y :: ys, x => by
    have ih := minD_int ys (min x y)
    unfold D.minD at ih ⊢
    simp only [List.map_cons, List.foldl_cons, D.py, PySem.W.dataLt_int]
    rw [← ih]
    congr 1
    rw [Int.min_def]
    split <;> split <;> simp_all <;> omega
theorem likes_int (xs : List Int) : likes (xs.map .int) = true := by
  unfold likes
  rw [fits_map _ (fun x => fit_int)]
  simp [notNon, D.py, alike]
theorem h_maxL {st : List O} {ns : List Int} (h : ns ≠ []) : hMax st [.lst (ns.map .int)] = some (.int (mxI ns)) := by
  cases ns with
  | nil => exact absurd rfl h
  | cons x xs =>
    have l := likes_int (x :: xs)
    simp only [List.map_cons] at l ⊢
    simp only [hMax, l, if_true, maxD_int]
    rfl
theorem h_minL {st : List O} {ns : List Int} (h : ns ≠ []) : hMin st [.lst (ns.map .int)] = some (.int (mnI ns)) := by
  cases ns with
  | nil => exact absurd rfl h
  | cons x xs =>
    have l := likes_int (x :: xs)
    simp only [List.map_cons] at l ⊢
    simp only [hMin, l, if_true, minD_int]
    rfl
theorem h_maxT {st : List O} {ns : List Int} (h : ns ≠ []) : hMax st [.tup (ns.map .int)] = some (.int (mxI ns)) := by
  rw [← h_maxL (st := st) h]
  cases ns with
  | nil => exact absurd rfl h
  | cons x xs => rfl
theorem h_minT {st : List O} {ns : List Int} (h : ns ≠ []) : hMin st [.tup (ns.map .int)] = some (.int (mnI ns)) := by
  rw [← h_minL (st := st) h]
  cases ns with
  | nil => exact absurd rfl h
  | cons x xs => rfl
theorem ints_map : ∀ ns : List Int, D.ints (ns.map .int) = some ns
  | [] => rfl
  | n :: ns => by rw [List.map_cons, D.ints, ints_map ns]; rfl
theorem h_sum {st : List O} {ns : List Int} : hSum st [.lst (ns.map .int)] = some (.int ns.sum) := by
  simp only [hSum, ints_map]; rfl
theorem g_max {st : List O} {ns : List Int} (h : ns ≠ []) : gmax (ns.map fun n => (.int n, st)) (some st) = .ok (.int (mxI ns)) st := by
  cases ns with
  | nil => exact absurd rfl h
  | cons x xs =>
    have l := likes_int (x :: xs)
    have e : (xs.map fun n => ((D.int n, st) : D × List O)).map Prod.fst = xs.map .int := by rw [List.map_map]; rfl
    simp only [List.map_cons] at l ⊢
    simp only [gmax, e, l, if_true, maxD_int]
    rfl
theorem g_min {st : List O} {ns : List Int} (h : ns ≠ []) : gmin (ns.map fun n => (.int n, st)) (some st) = .ok (.int (mnI ns)) st := by
  cases ns with
  | nil => exact absurd rfl h
  | cons x xs =>
    have l := likes_int (x :: xs)
    have e : (xs.map fun n => ((D.int n, st) : D × List O)).map Prod.fst = xs.map .int := by rw [List.map_map]; rfl
    simp only [List.map_cons] at l ⊢
    simp only [gmin, e, l, if_true, minD_int]
    rfl
theorem g_sum {st : List O} (ns : List Int) : ∀ a : Int, ns.length ≤ 1000000 → (∀ n ∈ ns, -1000000000 ≤ n ∧ n ≤ 1000000000) → -1000000000 * (1000000 - ns.length : Int) ≤ a → a ≤ 1000000000 * (1000000 - ns.length : Int) → sumD a (ns.map fun n => (.int n, st)) (some st) = .ok (.int (a + ns.sum)) st := by
  induction ns with
  | nil => intro a _ _ _ _; rw [List.sum_nil, Int.add_zero]; rfl
  | cons n ns ih =>
    intro a hl hb h1 h2
    have hn := hb n List.mem_cons_self
    rw [List.length_cons] at hl h1 h2
    have i1 : inLong n = true := by unfold inLong; simp only [Bool.and_eq_true, decide_eq_true_eq]; omega
    have i2 : inLong (a + n) = true := by unfold inLong; simp only [Bool.and_eq_true, decide_eq_true_eq]; omega
    have z := ih (a + n) (by omega) (fun m hm => hb m (List.mem_cons_of_mem _ hm)) (by omega) (by omega)
    simp only [List.map_cons, sumD, i1, i2, Bool.and_self, if_true, z, List.sum_cons, Int.add_assoc]
@[simp] theorem g_tup {st : List O} {l : List (D × List O)} (h : l.length ≤ 100000) : tupD l (some st) = .ok (.tup (l.map Prod.fst)) st := by simp [tupD, h]
/-! equal -/
theorem eqbs_map {α : Type} (g : α → D) [DecidableEq α] (h : ∀ x y, D.eqb (g x) (g y) = decide (x = y)) : ∀ xs ys : List α, D.eqbs (xs.map g) (ys.map g) = decide (xs = ys)
  | [], [] => by simp
  | [], _ :: _ => by simp
  | _ :: _, [] => by simp
  | x :: xs, y :: ys => by
    rw [List.map_cons, List.map_cons, eqbs_cons, h, eqbs_map g h xs ys]
    by_cases a : x = y <;> by_cases b : xs = ys <;> simp [a, b]
@[simp] theorem eqb_pt (p q : Int × Int) : D.eqb (pt p) (pt q) = decide (p = q) := by
  obtain ⟨a, b⟩ := p
  obtain ⟨c, d⟩ := q
  simp [Bool.decide_and]
theorem fit_pt {k : Nat} (p : Int × Int) : D.fit (k + 1) (pt p) = true := by simp
/-! sorted -/
def ptLe (p q : Int × Int) : Bool := decide (p.1 < q.1 ∨ p.1 = q.1 ∧ p.2 ≤ q.2)
theorem ptLe_trans (a b c : Int × Int) : ptLe a b = true → ptLe b c = true → ptLe a c = true := by
  unfold ptLe; simp only [decide_eq_true_eq]; omega
theorem ptLe_total (a b : Int × Int) : (ptLe a b || ptLe b a) = true := by
  unfold ptLe; simp only [Bool.or_eq_true, decide_eq_true_eq]; omega
theorem ptLe_anti {a b : Int × Int} (h : ptLe a b = true) (h2 : ptLe b a = true) : a = b := by
  unfold ptLe at *; simp only [decide_eq_true_eq] at *; exact Prod.ext (by omega) (by omega)
theorem sort_pt (ps : List (Int × Int)) : sortD (ps.map pt) = (ps.mergeSort ptLe).map pt := by
  unfold sortD
  refine (List.map_mergeSort fun a _ b _ => ?_).symm
  have e := congrFun (congrFun (PySem.W.dataLe_ii (fun p : Int × Int => p.1) (fun p => p.2)) a) b
  exact e.symm
theorem likes_pt (ps : List (Int × Int)) : likes (ps.map pt) = true := by
  unfold likes
  rw [fits_map _ (fun x => fit_pt x)]
  simp [notNon, D.py, D.pys, alike, alikeAll]
theorem sortable_pt (ps : List (Int × Int)) : sortable (ps.map pt) = true := by
  unfold sortable
  simp
theorem h_sortedL {st : List O} {ps : List (Int × Int)} (h : ps.length ≤ 100000) : hSorted2 st [.lst (ps.map pt)] = some (.lst ((ps.mergeSort ptLe).map pt)) := by
  have l : (ps.map pt).length ≤ 100000 := by rw [List.length_map]; exact h
  simp only [hSorted2, likes_pt, sortable_pt, l, decide_true, Bool.and_self, if_true, sort_pt]
theorem h_sortedT {st : List O} {ps : List (Int × Int)} (h : ps.length ≤ 100000) : hSorted2 st [.tup (ps.map pt)] = some (.lst ((ps.mergeSort ptLe).map pt)) := by
  have l : (ps.map pt).length ≤ 100000 := by rw [List.length_map]; exact h
  simp only [hSorted2, likes_pt, sortable_pt, l, decide_true, Bool.and_self, if_true, sort_pt]
theorem sort_perm {ps qs : List (Int × Int)} (h : ps.Perm qs) : ps.mergeSort ptLe = qs.mergeSort ptLe :=
  List.Perm.eq_of_pairwise (le := fun a b => ptLe a b = true) (fun a b _ _ => ptLe_anti) (List.pairwise_mergeSort ptLe_trans ptLe_total ps) (List.pairwise_mergeSort ptLe_trans ptLe_total qs)
    ((List.mergeSort_perm ps ptLe).trans (h.trans (List.mergeSort_perm qs ptLe).symm))
theorem sort_self {ps : List (Int × Int)} (h : ps.Pairwise fun a b => ptLe a b = true) : ps.mergeSort ptLe = ps :=
  List.Perm.eq_of_pairwise (le := fun a b => ptLe a b = true) (fun a b _ _ => ptLe_anti) (List.pairwise_mergeSort ptLe_trans ptLe_total ps) h (List.mergeSort_perm ps ptLe)
/-! rows side by side -/
theorem zip_map2 {α β : Type} (f : α → D) (g : β → D) : ∀ (xs : List α) (ys : List β), zipD (xs.map f) (ys.map g) = (xs.zip ys).map fun p => .tup [f p.1, g p.2]
  | [], _ => by simp [zipD]
  | _ :: _, [] => by simp [zipD]
  | x :: xs, y :: ys => by simp [zipD, zip_map2 f g xs ys]
@[simp] theorem x_zip {fr : AF} {env : List Sl} {st : List O} : aZip fr env st = (fr env st).bind fun ds st => match ds with
  | [d, e] => match d.pure, e.pure with
    | some (_, xs), some (_, ys) => .ok (zipD xs ys) st
    | _, _ => .bad
  | _ => .bad := (rfl)
/-- a slice -/
theorem cut_lo {α : Type} (xs : List α) (k : Nat) : cutD xs (some (k : Int)) none = xs.drop k := by
  unfold cutD
  rw [HT.sIx_nat, HT.sIx_none]
  by_cases h : k ≤ xs.length
  · rw [Nat.min_eq_left h]
    exact List.take_of_length_le (by simp)
  · rw [Nat.min_eq_right (by omega), List.drop_of_length_le (Nat.le_refl _), List.drop_of_length_le (by omega)]
    simp
theorem cut_hi {α : Type} (xs : List α) (k : Nat) : cutD xs none (some (k : Int)) = xs.take k := by
  unfold cutD
  rw [HT.sIx_nat, HT.sIx_none, List.drop_zero]
  by_cases h : k ≤ xs.length
  · rw [Nat.min_eq_left h]; rfl
  · rw [Nat.min_eq_right (by omega), List.take_of_length_le (by omega), List.take_of_length_le (by omega)]
@[simp] theorem sl_lst (xs : List D) (lo hi : Option Int) : hSlice (.lst xs) lo hi = some (.lst (cutD xs lo hi)) := (rfl)
@[simp] theorem sl_frz (xs : List D) (lo hi : Option Int) : hSlice (.frz xs) lo hi = some (.lst (cutD xs lo hi)) := (rfl)
@[simp] theorem sl_tup (xs : List D) (lo hi : Option Int) : hSlice (.tup xs) lo hi = some (.tup (cutD xs lo hi)) := (rfl)
/-- one turn of a while; its end -/
theorem wh_step {c : TF} {b : SF} {n : Nat} {env env2 : List Sl} {st st1 st2 : List O} (hc : c env st = .ok true st1) (hb : b env st1 = .nx env2 st2) : whileN c b (n + 1) env st = whileN c b n env2 st2 := by
  rw [whileN, hc]
  simp only [ofR_ok, if_true, hb]
theorem wh_stop {c : TF} {b : SF} {n : Nat} {env : List Sl} {st st1 : List O} (hc : c env st = .ok false st1) : whileN c b (n + 1) env st = .nx env st1 := by
  rw [whileN, hc]
  simp only [ofR_ok, Bool.false_eq_true, if_false]
theorem gcd_step (a b : Nat) : Nat.gcd b (a % b) = Nat.gcd a b := by
  rw [Nat.gcd_comm a b, Nat.gcd_rec b a, Nat.gcd_comm]
@[simp] theorem x_told {n : Nat} {ret : Str} {f : EF} {env : List Sl} {st : List O} : eTold n ret f env st = match f (unlin env) st with
  | .ok d st => .ok d st
  | .exc c st => if c = n then .ok (.str ret) st else .bad
  | .bad => .bad := (rfl)
@[simp] theorem unlin_nil : unlin [] = [] := (rfl)
@[simp] theorem unlin_cons {x : Sl} {xs : List Sl} : unlin (x :: xs) = unlin1 x :: unlin xs := (rfl)
@[simp] theorem unlin1_v {d : D} : unlin1 (.v d) = .v d := (rfl)
@[simp] theorem unlin1_un : unlin1 .un = .un := (rfl)
@[simp] theorem unlin1_lin {ds : List D} : unlin1 (.lin ds) = .un := (rfl)
theorem h_ins {ds : List D} {e : D} {k : Nat} (h : ds.length < 100000) (hk : k ≤ ds.length) : hInsL ds [.int (k : Int), e] = some (ds.take k ++ [e] ++ ds.drop k) := by
  have a : decide (ds.length < 100000) = true := decide_eq_true h
  have b : decide ((0 : Int) ≤ (k : Int)) = true := decide_eq_true (by omega)
  have c : decide ((k : Int) < 2 ^ 63) = true := decide_eq_true (by omega)
  simp only [hInsL, a, b, c, Bool.and_self, if_true, Int.toNat_natCast]
/-- a for that carries a value -/
theorem for_fold {α β τ : Type} {t : GF} {b : SF} {st : List O} (g : α → D) (mk : β → τ → List Sl) (step : β → α → β) (I : β → Prop) : ∀ (xs : List α)
    (H : ∀ x ∈ xs, ∀ acc tmp, I acc → I (step acc x) ∧ ∃ env1 tmp', t (g x) (mk acc tmp) = some env1 ∧ b env1 st = .nx (mk (step acc x) tmp') st) (acc : β) (tmp : τ), I acc →
    I (xs.foldl step acc) ∧ ∃ tmp', forD t b (xs.map g) (mk acc tmp) st = .nx (mk (xs.foldl step acc) tmp') st
  | [], _, acc, tmp, hI => ⟨hI, tmp, rfl⟩
  | x :: xs, H, acc, tmp, hI => by
    obtain ⟨h1, env1, tmp1, h2, h3⟩ := H x List.mem_cons_self acc tmp hI
    obtain ⟨h4, tmp2, h5⟩ := for_fold g mk step I xs (fun y hy => H y (List.mem_cons_of_mem _ hy)) (step acc x) tmp1 h1
    refine ⟨h4, tmp2, ?_⟩
    rw [List.map_cons, forD, h2]
    simp only [h3]
    exact h5
/-- a for that collects -/
theorem for_col {α γ τ : Type} {t : GF} {b : SF} {st : List O} (g : α → D) (mk : List γ → τ → List Sl) (f : α → List γ) (N : Nat) : ∀ (xs : List α)
    (H : ∀ x ∈ xs, ∀ acc tmp, acc.length + (f x).length ≤ N → ∃ env1 tmp', t (g x) (mk acc tmp) = some env1 ∧ b env1 st = .nx (mk (acc ++ f x) tmp') st) (acc : List γ) (tmp : τ), acc.length + (xs.flatMap f).length ≤ N →
    ∃ tmp', forD t b (xs.map g) (mk acc tmp) st = .nx (mk (acc ++ xs.flatMap f) tmp') st
  | [], _, acc, tmp, _ => ⟨tmp, by simp [forD]⟩
  | x :: xs, H, acc, tmp, hN => by
    rw [List.flatMap_cons, List.length_append] at hN
    obtain ⟨env1, tmp1, h2, h3⟩ := H x List.mem_cons_self acc tmp (by omega)
    obtain ⟨tmp2, h5⟩ := for_col g mk f N xs (fun y hy => H y (List.mem_cons_of_mem _ hy)) (acc ++ f x) tmp1 (by rw [List.length_append]; omega)
    refine ⟨tmp2, ?_⟩
    rw [List.map_cons, forD, h2, List.flatMap_cons, ← List.append_assoc]
    simp only [h3]
    exact h5
/-- a for that only looks -/
theorem for_see {α τ : Type} {t : GF} {b : SF} {st : List O} (g : α → D) (mk : τ → List Sl) (xs : List α) (tmp : τ)
    (H : ∀ x ∈ xs, ∀ tmp, ∃ env1 tmp', t (g x) (mk tmp) = some env1 ∧ b env1 st = .nx (mk tmp') st) : ∃ tmp', forD t b (xs.map g) (mk tmp) st = .nx (mk tmp') st :=
  (for_fold g (fun (_ : Unit) tmp => mk tmp) (fun _ _ => ()) (fun _ => True) xs (fun x hx _ tmp _ => ⟨trivial, H x hx tmp⟩) () tmp trivial).2
theorem num_map {α : Type} (g : α → D) : ∀ (xs : List α) (n : Nat), numFrom (n : Int) (xs.map g) = (xs.zipIdx n).map fun q => .tup [.int (q.2 : Nat), g q.1]
  | [], _ => rfl
  | x :: xs, n => by
    have := num_map g xs (n + 1)
    simp only [List.map_cons, numFrom, List.zipIdx_cons]
    rw [← this]
    rfl
theorem num_map0 {α : Type} (g : α → D) (xs : List α) : numFrom 0 (xs.map g) = xs.zipIdx.map fun q => .tup [.int (q.2 : Nat), g q.1] := num_map g xs 0
theorem up_map (a : Int) (n : Nat) : upFrom a n = (List.range n).map fun k => .int (a + (k : Nat)) := rfl
theorem up_map0 (n : Nat) : upFrom 0 n = (List.range n).map fun k => .int (k : Nat) := by
  rw [up_map]
  congr 1
  funext k
  rw [Int.zero_add]
theorem fold_max {α : Type} (c : α → Bool) (v : α → Int) : ∀ (xs : List α) (b : Int), xs.foldl (fun b x => if c x then max b (v x) else b) b = mxI (b :: (xs.filter c).map v)
  | [], b => by simp [mxI]
  | x :: xs, b => by
    rw [List.foldl_cons, fold_max c v xs, List.filter_cons]
    cases q : c x with
    | false => simp
    | true =>
      simp only [if_true, List.map_cons]
      show List.foldl max (max b (v x)) _ = List.foldl max b (v x :: _)
      rw [List.foldl_cons]
@[simp] theorem len_map {α : Type} (st : List O) (xs : List α) (g : α → D) : hLen st [.lst (xs.map g)] = some (.int (xs.length : Nat)) := by simp
theorem h_cnt {st : List O} {ps : List (Int × Int)} {p : Int × Int} : hCount st (.lst (ps.map pt)) [pt p] = some (.int (ps.count p : Nat)) := by
  have e : (ps.map pt).countP (fun z => D.eqb z (pt p)) = ps.count p := by
    rw [List.countP_map, List.count_eq_countP]
    congr 1
    funext q
    simp [BEq.beq]
  have f : D.fit 60 (.lst (ps.map pt)) = true := by rw [fit_lst]; exact fits_map _ (fun q => fit_pt q) ps
  simp only [hCount, f, fit_pt, Bool.and_self, if_true, e]
/-- the loop of a list comprehension whose parts change the state -/
theorem lc_eff {α γ σ : Type} {t : GF} {e : EF} {env : List Sl} (S : σ → List O) (g : α → D) (h : γ → D) (Pr : γ → Prop) : ∀ (xs : List α) (_ : ∀ x ∈ xs, ∀ s, ∃ env1 y s', t (g x) env = some env1 ∧ e env1 (S s) = .ok (h y) (S s') ∧ Pr y) (s : σ),
    ∃ (ys : List γ) (s' : σ), lcD t tYes1 e (xs.map g) env (S s) = .ok (ys.map h) (S s') ∧ ys.length = xs.length ∧ ∀ y ∈ ys, Pr y
  | [], _, s => ⟨[], s, rfl, rfl, by simp⟩
  | x :: xs, H, s => by
    obtain ⟨env1, y, s1, h1, h2, h3⟩ := H x List.mem_cons_self s
    obtain ⟨ys, s2, h4, h5, h6⟩ := lc_eff S g h Pr xs (fun z hz => H z (List.mem_cons_of_mem _ hz)) s1
    refine ⟨y :: ys, s2, ?_, by rw [List.length_cons, List.length_cons, h5], fun z hz => ?_⟩
    · rw [List.map_cons, lcD, h1]
      simp only [x_yes, nox_okv, bind_ok, if_true, h2, h4, List.map_cons]
    · rcases List.mem_cons.mp hz with rfl | hz
      · exact h3
      · exact h6 z hz
/-- dice -/
abbrev Dc := Int × Int × Int
abbrev dO (s : Dc) : List O := [.lst [.int s.1, .int s.2.1, .int s.2.2]]
@[simp] theorem ix_ref0 (xs : List D) (r : List O) (i : Int) : hIx (.lst xs :: r) (.ref 0) (.int i) = L2.atI xs i := (rfl)
@[simp] theorem x_setix {f fo fi : EF} {env : List Sl} {st : List O} : sSetIx f fo fi env st = RS.ofR (f env st) fun d st => RS.ofR (fo env st) fun o st => RS.ofR (fi env st) fun i st => match o, i with
  | .ref n, .int k => match st[n]? with
    | some (.lst ds) => match ixN ds.length k with
      | some j => .nx env (st.set n (.lst (ds.set j d)))
      | none => .bad
    | none => .bad
  | _, _ => .bad := (rfl)
theorem roll_mod {a m : Int} (h : 0 < m) : 0 ≤ a % m ∧ a % m < m := ⟨Int.emod_nonneg _ (by omega), Int.emod_lt_of_pos _ h⟩
mutual
theorem eqb_self : ∀ (k : Nat) (d : D), D.fit k d = true → D.eqb d d = true
  | _, .non, _ => rfl
  | _, .bl b, _ => by cases b <;> rfl
  | _, .int i, _ => by simp
  | _, .str x, _ => by simp
  | 0, .tup _, h => by simp [D.fit] at h
  | 0, .lst _, h => by simp [D.fit] at h
  | k + 1, .tup xs, h => by rw [eqb_tup]; exact eqbs_self k xs h
  | k + 1, .lst xs, h => by rw [eqb_lst]; exact eqbs_self k xs h
  | k, .frz _, h => by cases k <;> simp [D.fit] at h
  | k, .dct _, h => by cases k <;> simp [D.fit] at h
  | k, .ref _, h => by cases k <;> simp [D.fit] at h
theorem eqbs_self : ∀ (k : Nat) (ds : List D), D.fits k ds = true → D.eqbs ds ds = true
  | _, [], _ => rfl
  | k, d :: ds, h => by
    rw [fits_cons, Bool.and_eq_true] at h
    rw [eqbs_cons, eqb_self k d h.1, eqbs_self k ds h.2]
    rfl
end
theorem ne_self {st : List O} {d : D} (h : D.fit 60 d = true) : hNe st d d = some (.bl false) := by rw [h_ne h h, eqb_self 60 d h]; rfl
theorem eq_self' {st : List O} {d : D} (h : D.fit 60 d = true) : hEq st d d = some (.bl true) := by rw [h_eq h h, eqb_self 60 d h]
/-- a for that carries a value, by what is left -/
theorem for_foldR {α β τ : Type} {t : GF} {b : SF} {st : List O} (g : α → D) (mk : β → τ → List Sl) (step : β → α → β) (I : β → List α → Prop)
    (H : ∀ x rest acc tmp, I acc (x :: rest) → I (step acc x) rest ∧ ∃ env1 tmp', t (g x) (mk acc tmp) = some env1 ∧ b env1 st = .nx (mk (step acc x) tmp') st) : ∀ (xs : List α) (acc : β) (tmp : τ), I acc xs →
    ∃ tmp', forD t b (xs.map g) (mk acc tmp) st = .nx (mk (xs.foldl step acc) tmp') st
  | [], acc, tmp, hI => ⟨tmp, rfl⟩
  | x :: xs, acc, tmp, hI => by
    obtain ⟨h1, env1, tmp1, h2, h3⟩ := H x xs acc tmp hI
    obtain ⟨tmp2, h5⟩ := for_foldR g mk step I H xs (step acc x) tmp1 h1
    refine ⟨tmp2, ?_⟩
    rw [List.map_cons, forD, h2]
    simp only [h3]
    exact h5
theorem fold_pair {α β γ : Type} (f : α → List γ) (h : β → α → β) : ∀ (xs : List α) (s : List γ × β), xs.foldl (fun s x => (s.1 ++ f x, h s.2 x)) s = (s.1 ++ xs.flatMap f, xs.foldl h s.2)
  | [], s => by simp
  | x :: xs, s => by rw [List.foldl_cons, fold_pair f h xs, List.flatMap_cons, List.append_assoc]; rfl
end DV

set_option Elab.async false
set_option linter.all false
set_option maxRecDepth 100000
set_option maxHeartbeats 1000000
namespace K01
open PySem DV
abbrev P := Int × Int
/-- small points -/
def Sm (p : P) : Prop := -1000 ≤ p.1 ∧ p.1 ≤ 1000 ∧ -1000 ≤ p.2 ∧ p.2 ≤ 1000
def cr (s o t : P) : Int := (o.1 - s.1) * (t.2 - s.2) - (o.2 - s.2) * (t.1 - s.1)
variable {st : List O}
theorem r_cross {s o t : P} (hs : Sm s) (ho : Sm o) (ht : Sm t) : f_cross_of [pt s, pt o, pt t] st = .ok (.int (cr s o t)) st := by
  unfold Sm at *
  simp (disch := omega) [f_cross_of, b_cross_of, x_run, startE, h_mul_l, cr]
theorem r_turn {s o t : P} (hs : Sm s) (ho : Sm o) (ht : Sm t) : f__law_turn [pt s, pt o, pt t] st = .ok (.int (cr s o t)) st := by
  unfold Sm at *
  simp (disch := omega) [f__law_turn, b__law_turn, x_run, startE, h_mul_l, cr]
def sg (i : Int) : Int := if 0 < i then 1 else if i < 0 then -1 else 0
theorem r_side {s o t : P} (hs : Sm s) (ho : Sm o) (ht : Sm t) : f_side_of [pt s, pt o, pt t] st = .ok (.int (sg (cr s o t))) st := by
  simp [f_side_of, b_side_of, x_run, startE, x_seq, r_cross hs ho ht, sg]
  split
  · rfl
  · split <;> rfl
def dt (s o t : P) : Int := (o.1 - s.1) * (t.1 - s.1) + (o.2 - s.2) * (t.2 - s.2)
theorem r_dot {s o t : P} (hs : Sm s) (ho : Sm o) (ht : Sm t) : f_dot_of [pt s, pt o, pt t] st = .ok (.int (dt s o t)) st := by
  unfold Sm at *
  simp (disch := omega) [f_dot_of, b_dot_of, x_run, startE, h_mul_l, dt]
def sqf (s o : P) : Int := (s.1 - o.1) * (s.1 - o.1) + (s.2 - o.2) * (s.2 - o.2)
theorem r_sqf {s o : P} (hs : Sm s) (ho : Sm o) : f_square_far [pt s, pt o] st = .ok (.int (sqf s o)) st := by
  unfold Sm at *
  simp (disch := omega) [f_square_far, b_square_far, x_run, startE, h_sq, sqf]
def ab (x : Int) : Int := if x < 0 then -x else x
theorem r_blk {s o : P} : f_block_far [pt s, pt o] st = .ok (.int (ab (s.1 - o.1) + ab (s.2 - o.2))) st := by
  simp (disch := omega) [f_block_far, b_block_far, x_run, startE, ab]
theorem r_king {s o : P} : f_king_far [pt s, pt o] st = .ok (.int (max (ab (s.1 - o.1)) (ab (s.2 - o.2)))) st := by
  simp (disch := omega) [f_king_far, b_king_far, x_run, startE, ab]
def hf (p s : P) : Int := if 0 < p.2 - s.2 ∨ p.2 - s.2 = 0 ∧ 0 < p.1 - s.1 then 0 else 1
theorem r_half {p s : P} (h : p ≠ s) : f_half_of [pt p, pt s] st = .ok (.int (hf p s)) st := by
  have h2 : ¬ (p.1 - s.1 = 0 ∧ p.2 - s.2 = 0) := fun ⟨a, b⟩ => h (Prod.ext (by omega) (by omega))
  simp (disch := omega) [f_half_of, b_half_of, x_run, startE, x_seq, hf]
  grind -verbose

def tah (s p q : P) : Bool := if hf p s = hf q s then decide (0 < sg (cr s p q)) || (decide (sg (cr s p q) = 0) && decide (sqf s p < sqf s q)) else decide (hf p s < hf q s)
theorem r_tah {s p q : P} (hs : Sm s) (hp : Sm p) (hq : Sm q) (np : p ≠ s) (nq : q ≠ s) : f_turns_ahead [pt s, pt p, pt q] st = .ok (.bl (tah s p q)) st := by
  simp [f_turns_ahead, b_turns_ahead, x_run, startE, x_seq, r_half np, r_half nq, r_side hs hp hq, r_sqf hs hp, r_sqf hs hq, tah]
  split
  · split <;> simp [*]
    split <;> simp [*]
  · rfl
def btw (s e p : P) : Bool := decide (sg (cr s e p) = 0) && (decide (min s.1 e.1 ≤ p.1) && decide (p.1 ≤ max s.1 e.1) && (decide (min s.2 e.2 ≤ p.2) && decide (p.2 ≤ max s.2 e.2)))
theorem r_btw {s e p : P} (hs : Sm s) (he : Sm e) (hp : Sm p) : f_is_between [pt s, pt e, pt p] st = .ok (.bl (btw s e p)) st := by
  simp [f_is_between, b_is_between, x_run, startE, x_seq, r_side hs he hp, btw]
  grind -verbose
def qr (s p : P) : Int := let x := p.1 - s.1; let y := p.2 - s.2; if y = 0 then (if 0 < x then 0 else 4) else if x = 0 then (if 0 < y then 2 else 6) else quar (decide (0 < x)) (decide (0 < y))
theorem r_qr {s p : P} : f__law_quarter [pt s, pt p] st = .ok (.int (qr s p)) st := by
  simp [f__law_quarter, b__law_quarter, x_run, startE, x_seq, qr, eQuar]
  split
  · split <;> rfl
  · split
    · split <;> rfl
    · rfl
def mab (x : Int) : Int := max x (-x)
def lah (s p q : P) : Bool := if qr s p ≠ qr s q ∨ cr s p q ≠ 0 then (if qr s p ≠ qr s q then decide (qr s p < qr s q) else decide (0 < cr s p q)) else decide (max (p.1 - s.1) (s.1 - p.1) + max (p.2 - s.2) (s.2 - p.2) < max (q.1 - s.1) (s.1 - q.1) + max (q.2 - s.2) (s.2 - q.2))
theorem r_lah {s p q : P} (hs : Sm s) (hp : Sm p) (hq : Sm q) : f__law_ahead [pt s, pt p, pt q] st = .ok (.bl (lah s p q)) st := by
  simp [f__law_ahead, b__law_ahead, x_run, startE, x_seq, r_qr, r_turn hs hp hq, lah]
  grind -verbose
end K01

set_option Elab.async false
set_option linter.all false
set_option maxRecDepth 100000
set_option maxHeartbeats 1000000
namespace K01
open PySem DV
variable {st : List O}
theorem w_common (n : Nat) : ∀ (a b : Nat), b < n → whileN (tCmpD hNe (eVar 1) (eC (.int 0))) (sPar 0 1 (aCons (eVar 1) (aCons (eOp hMod (eVar 0) (eVar 1)) aNil))) n [.v (.int a), .v (.int b)] st = .nx [.v (.int (Nat.gcd a b : Nat)), .v (.int 0)] st := by
  induction n with
  | zero => intro a b h; omega
  | succ n ih =>
    intro a b h
    by_cases hb : b = 0
    · subst hb
      rw [wh_stop (st1 := st) (by simp)]
      simp
    · have h1 : (0 : Int) < (b : Int) := by omega
      rw [wh_step (st1 := st) (env2 := [.v (.int b), .v (.int ((a % b : Nat) : Int))]) (st2 := st) (by simp [hb]) (by simp [h_mod h1])]
      rw [ih b (a % b) (by have := Nat.mod_lt a (by omega : 0 < b); omega), gcd_step]
def wc (a b : Int) : Int := max 1 (Int.gcd a b : Nat)
theorem abs_nat (a : Int) : (if a < 0 then -a else a) = (a.natAbs : Int) := by split <;> omega
theorem r_wc {a b : Int} : f_whole_common [.int a, .int b] st = .ok (.int (wc a b)) st := by
  simp [f_whole_common, b_whole_common, x_run, startE, abs_nat, fuelAbs]
  rw [w_common _ _ _ (by omega)]
  simp [wc, Int.gcd]
theorem w_low (x y : D) (n : Nat) : ∀ (a b : Nat), b < n → whileN (tCmpD hNe (eVar 3) (eC (.int 0))) (sPar 2 3 (aCons (eVar 3) (aCons (eOp hMod (eVar 2) (eVar 3)) aNil))) n [.v x, .v y, .v (.int a), .v (.int b)] st = .nx [.v x, .v y, .v (.int (Nat.gcd a b : Nat)), .v (.int 0)] st := by
  induction n with
  | zero => intro a b h; omega
  | succ n ih =>
    intro a b h
    by_cases hb : b = 0
    · subst hb
      rw [wh_stop (st1 := st) (by simp)]
      simp
    · have h1 : (0 : Int) < (b : Int) := by omega
      rw [wh_step (st1 := st) (env2 := [.v x, .v y, .v (.int b), .v (.int ((a % b : Nat) : Int))]) (st2 := st) (by simp [hb]) (by simp [h_mod h1])]
      rw [ih b (a % b) (by have := Nat.mod_lt a (by omega : 0 < b); omega), gcd_step]
def br (t b : Int) : P := ((if b < 0 then -t else t) / (Int.gcd t b : Nat), (if b < 0 then -b else b) / (Int.gcd t b : Nat))
theorem gcd_pos {t b : Int} (h : b ≠ 0) : 0 < Int.gcd t b := Int.gcd_pos_of_ne_zero_right t h
theorem gcd_small {t b : Int} (h : b ≠ 0) (h1 : -1000000 ≤ b) (h2 : b ≤ 1000000) : (Int.gcd t b : Int) < 1073741824 := by
  have := Nat.le_of_dvd (by omega : 0 < b.natAbs) (Nat.gcd_dvd_right t.natAbs b.natAbs)
  unfold Int.gcd
  omega
theorem r_low {t b : Int} (h : b ≠ 0) (h1 : -1000000 ≤ b) (h2 : b ≤ 1000000) : f__law_low [.int t, .int b] st = .ok (pt (br t b)) st := by
  have g1 := gcd_pos (t := t) h
  have g2 := gcd_small (t := t) h h1 h2
  have e1 : max (-t) t = (t.natAbs : Int) := by rw [Int.max_def]; split <;> omega
  have e2 : max t (-t) = (t.natAbs : Int) := by rw [Int.max_def]; split <;> omega
  by_cases hb : b < 0
  · have e : -b = (b.natAbs : Int) := by omega
    simp [f__law_low, b__law_low, x_run, startE, hb, fuelAbs, e1, e]
    rw [w_low _ _ _ _ _ (by omega)]
    have g1' : (0 : Int) < (t.natAbs.gcd b.natAbs : Nat) := by unfold Int.gcd at g1; omega
    have g2' : ((t.natAbs.gcd b.natAbs : Nat) : Int) < 1073741824 := by unfold Int.gcd at g2; omega
    simp [h_div g1' g2', br, hb, Int.gcd, e]
  · have e : b = (b.natAbs : Int) := by omega
    have eb : [Sl.v (.int t), .v (.int b), .v (.int (t.natAbs : Int)), .v (.int b)] = [Sl.v (.int t), .v (.int b), .v (.int (t.natAbs : Int)), .v (.int (b.natAbs : Int))] := by rw [← e]
    simp [f__law_low, b__law_low, x_run, startE, hb, fuelAbs, e2, eb]
    rw [w_low _ _ _ _ _ (by omega)]
    have g1' : (0 : Int) < (t.natAbs.gcd b.natAbs : Nat) := by unfold Int.gcd at g1; omega
    have g2' : ((t.natAbs.gcd b.natAbs : Nat) : Int) < 1073741824 := by unfold Int.gcd at g2; omega
    simp [h_div g1' g2', br, hb, Int.gcd]
theorem r_broken {t b : Int} (h : b ≠ 0) (h1 : -1000000 ≤ b) (h2 : b ≤ 1000000) : f_broken [.int t, .int b] st = .ok (pt (br t b)) st := by
  have g1 := gcd_pos (t := t) h
  have g2 := gcd_small (t := t) h h1 h2
  have e : wc t b = (Int.gcd t b : Nat) := by unfold wc; rw [Int.max_def]; split <;> omega
  have g1' : (0 : Int) < (Int.gcd t b : Nat) := by omega
  simp [f_broken, b_broken, x_run, startE, x_seq, h, r_wc, e]
  by_cases hb : b < 0
  · simp (disch := omega) [hb, h_mul_l, h_div g1' g2, br]
  · simp (disch := omega) [hb, h_mul_l, h_div g1' g2, br]
theorem r_broken0 {t : Int} : f_broken [.int t, .int 0] st = .exc 0 st := by
  simp [f_broken, b_broken, x_run, startE, x_seq]
/-! boxes -/
theorem map_fst (ps : List P) : (ps.map fun p => D.int p.1) = (ps.map Prod.fst).map D.int := by rw [List.map_map]; rfl
theorem map_snd (ps : List P) : (ps.map fun p => D.int p.2) = (ps.map Prod.snd).map D.int := by rw [List.map_map]; rfl
abbrev bx (a b c d : Int) : D := .tup [.int a, .int b, .int c, .int d]
def bxl (ps : List P) : Int := mnI (ps.map Prod.fst)
def bxb (ps : List P) : Int := mnI (ps.map Prod.snd)
def bxr (ps : List P) : Int := mxI (ps.map Prod.fst)
def bxt (ps : List P) : Int := mxI (ps.map Prod.snd)
theorem r_box {ps : List P} (h : ps ≠ []) (hl : ps.length ≤ 100000) : f_box_of [.lst (ps.map pt)] st = .ok (bx (bxl ps) (bxb ps) (bxr ps) (bxt ps)) st := by
  have n1 : ps.map Prod.fst ≠ [] := by simpa using h
  have n2 : ps.map Prod.snd ≠ [] := by simpa using h
  have l0 : ¬ ps.length = 0 := fun z => h (List.length_eq_zero_iff.mp z)
  have q1 (env : List Sl) (he : env.length = 4) : lcD (gN 3) tYes1 (eOp hIx (eVar 3) (eC (.int 0))) (ps.map pt) env st = .ok (ps.map fun p => .int p.1) st :=
    lc_map pt _ ps fun p _ => ⟨_, rfl, by simp [he]⟩
  have q2 (env : List Sl) (he : env.length = 4) : lcD (gN 3) tYes1 (eOp hIx (eVar 3) (eC (.int 1))) (ps.map pt) env st = .ok (ps.map fun p => .int p.2) st :=
    lc_map pt _ ps fun p _ => ⟨_, rfl, by simp [he]⟩
  have m1 := fun st => h_minL (st := st) n1
  have m2 := fun st => h_minL (st := st) n2
  have m3 := fun st => h_maxL (st := st) n1
  have m4 := fun st => h_maxL (st := st) n2
  rw [← map_fst] at m1 m3
  rw [← map_snd] at m2 m4
  simp [f_box_of, b_box_of, x_run, startE, h, hl, q1, q2, m1, m2, m3, m4, bxl, bxb, bxr, bxt]
def meet (a b c d e f g h : Int) : Bool := decide (a ≤ g) && (decide (e ≤ c) && (decide (b ≤ h) && decide (f ≤ d)))
theorem r_meet {a b c d e f g h : Int} : f_boxes_meet [bx a b c d, bx e f g h] st = .ok (.bl (meet a b c d e f g h)) st := by
  simp [f_boxes_meet, b_boxes_meet, x_run, startE, x_seq, meet]
  grind -verbose
theorem r_mid {ps : List P} (h : ps ≠ []) (hl : ps.length ≤ 100000) (hs : ∀ p ∈ ps, Sm p) : f_middle_of [.lst (ps.map pt)] st = .ok (.tup [pt (br (ps.map Prod.fst).sum ps.length), pt (br (ps.map Prod.snd).sum ps.length)]) st := by
  have l0 : ¬ ps.length = 0 := fun z => h (List.length_eq_zero_iff.mp z)
  have q1 (env : List Sl) (he : env.length = 4) : traceD (gN 3) tYes1 (eOp hIx (eVar 3) (eC (.int 0))) (ps.map pt) env st = (ps.map fun p => (.int p.1, st), some st) :=
    tr_map pt _ ps fun p _ => ⟨_, rfl, by simp [he]⟩
  have q2 (env : List Sl) (he : env.length = 4) : traceD (gN 3) tYes1 (eOp hIx (eVar 3) (eC (.int 1))) (ps.map pt) env st = (ps.map fun p => (.int p.2, st), some st) :=
    tr_map pt _ ps fun p _ => ⟨_, rfl, by simp [he]⟩
  have e1 : (ps.map fun p => ((D.int p.1, st) : D × List O)) = (ps.map Prod.fst).map fun n => (D.int n, st) := by rw [List.map_map]; rfl
  have e2 : (ps.map fun p => ((D.int p.2, st) : D × List O)) = (ps.map Prod.snd).map fun n => (D.int n, st) := by rw [List.map_map]; rfl
  have s1 : sumD 0 (ps.map fun p => (D.int p.1, st)) (some st) = .ok (.int (ps.map Prod.fst).sum) st := by
    rw [e1, g_sum _ 0 (by simp; omega) (fun n hn => by obtain ⟨p, hp, rfl⟩ := List.mem_map.mp hn; have := hs p hp; unfold Sm at this; omega) (by simp; omega) (by simp; omega), Int.zero_add]
  have s2 : sumD 0 (ps.map fun p => (D.int p.2, st)) (some st) = .ok (.int (ps.map Prod.snd).sum) st := by
    rw [e2, g_sum _ 0 (by simp; omega) (fun n hn => by obtain ⟨p, hp, rfl⟩ := List.mem_map.mp hn; have := hs p hp; unfold Sm at this; omega) (by simp; omega) (by simp; omega), Int.zero_add]
  have b1 (t : Int) := r_broken (st := st) (t := t) (b := ps.length) (by omega) (by omega) (by omega)
  simp [f_middle_of, b_middle_of, x_run, startE, h, q1, q2, s1, s2, b1]
end K01

set_option Elab.async false
set_option linter.all false
set_option maxRecDepth 100000
set_option maxHeartbeats 1000000
namespace K01
open PySem DV
variable {st : List O}
/-! going round -/
def ins (s p : P) : List P → List P
  | [] => [p]
  | q :: r => if tah s p q then p :: q :: r else q :: ins s p r
def pos (s p : P) : List P → Nat
  | [] => 0
  | q :: r => if tah s p q then 0 else pos s p r + 1
theorem pos_le (s p : P) : ∀ l : List P, pos s p l ≤ l.length
  | [] => Nat.le_refl _
  | q :: r => by
    unfold pos
    have := pos_le s p r
    split <;> simp <;> omega
theorem ins_pos (s p : P) : ∀ l : List P, ins s p l = l.take (pos s p l) ++ [p] ++ l.drop (pos s p l)
  | [] => rfl
  | q :: r => by
    unfold ins pos
    have := ins_pos s p r
    split
    · rfl
    · rw [List.take_succ_cons, List.drop_succ_cons, List.cons_append, List.cons_append, this]
abbrev wbody : SF := sAug 4 hAddI (eC (.int 1))
abbrev wtest : TF := tAnd2 (tCmpD (hLt) (eVar 4) (eLenL 2)) (tNot1 (tVal (eCallD f_turns_ahead [] (aCons (eVar 0) (aCons (eVar 3) (aCons (eIxL 2 (eVar 4)) (aNil)))))))
theorem w_round {s p : P} {rest : D} (hs : Sm s) (hp : Sm p) (np : p ≠ s) (l : List P) (hl : ∀ q ∈ l, Sm q ∧ q ≠ s) : ∀ (n k : Nat), k ≤ l.length → l.length - k < n →
    whileN wtest wbody n [.v (pt s), .v rest, .lin (l.map pt), .v (pt p), .v (.int (k : Int))] st = .nx [.v (pt s), .v rest, .lin (l.map pt), .v (pt p), .v (.int ((k + pos s p (l.drop k) : Nat) : Int))] st := by
  intro n
  induction n with
  | zero => intro k h1 h2; omega
  | succ n ih =>
    intro k h1 h2
    by_cases hk : k < l.length
    · have e : l.drop k = l[k] :: l.drop (k + 1) := List.drop_eq_getElem_cons hk
      have hq := hl l[k] (List.getElem_mem hk)
      have hx : L2.atI (l.map pt) (k : Int) = some (pt l[k]) := by rw [at_map, at_nat l k hk]; rfl
      have ht := r_tah (st := st) hs hp hq.1 np hq.2
      have hc : wtest [.v (pt s), .v rest, .lin (l.map pt), .v (pt p), .v (.int (k : Int))] st = .ok (!tah s p l[k]) st := by
        simp [hx, ht, hk]
      cases q : tah s p l[k] with
      | true =>
        rw [q] at hc
        rw [wh_stop (st1 := st) hc, e, pos, q]
        simp
      | false =>
        rw [q] at hc
        rw [wh_step (st2 := st) (env2 := [.v (pt s), .v rest, .lin (l.map pt), .v (pt p), .v (.int ((k + 1 : Nat) : Int))]) (st1 := st) hc (by simp [hAddI]), ih (k + 1) (by omega) (by omega), e, pos, q]
        simp
        omega
    · have : k = l.length := by omega
      subst this
      rw [wh_stop (st1 := st) (by simp), List.drop_length]
      simp [pos]
abbrev rbody : SF := sSeq (sSet 4 (eC (.int 0))) (sSeq (sWhile (fuelLen 4 2) wtest wbody) (sSeq (sDrop (eCallD f_half_of [] (aCons (eVar 3) (aCons (eVar 0) (aNil))))) (sLinM 2 hInsL (aCons (eVar 4) (aCons (eVar 3) (aNil))))))
theorem s_round {s p : P} {rest : D} {x : Sl} (hs : Sm s) (hp : Sm p) (np : p ≠ s) (l : List P) (hl : ∀ q ∈ l, Sm q ∧ q ≠ s) (h : l.length < 100000) : ∃ y, rbody [.v (pt s), .v rest, .lin (l.map pt), .v (pt p), x] st = .nx [.v (pt s), .v rest, .lin ((ins s p l).map pt), .v (pt p), y] st := by
  have w := w_round (st := st) (rest := rest) hs hp np l hl (l.length + 1) 0 (Nat.zero_le _) (by omega)
  have hpos := pos_le s p l
  refine ⟨.v (.int ((pos s p l : Nat) : Int)), ?_⟩
  simp only [List.drop_zero, Nat.zero_add, Int.natCast_zero] at w
  have hi : hInsL (l.map pt) [.int ((pos s p l : Nat) : Int), pt p] = some ((ins s p l).map pt) := by
    rw [h_ins (by simpa using h) (by simpa using hpos), ins_pos, List.map_append, List.map_append, List.map_take, List.map_drop]
    rfl
  simp [fuelLen, w, r_half np, hi]
theorem mem_ins {s p : P} {l : List P} {q : P} (h : q ∈ ins s p l) : q = p ∨ q ∈ l := by
  induction l with
  | nil => simpa [ins] using h
  | cons a r ih =>
    unfold ins at h
    split at h
    · simpa using h
    · rcases List.mem_cons.mp h with h | h
      · exact .inr (by simp [h])
      · rcases ih h with h | h
        · exact .inl h
        · exact .inr (List.mem_cons_of_mem _ h)
theorem ins_len (s p : P) (l : List P) : (ins s p l).length = l.length + 1 := by
  rw [ins_pos]
  have := pos_le s p l
  simp
  omega
def rnd (s : P) (ps : List P) : List P := ps.foldl (fun l p => ins s p l) []
theorem r_round {s : P} {ps : List P} (hs : Sm s) (hp : ∀ p ∈ ps, Sm p ∧ p ≠ s) (hl : ps.length < 100000) : f_in_round [pt s, .lst (ps.map pt)] st = .ok (.tup ((rnd s ps).map pt)) st := by
  have key := for_all (env := [.v (pt s), .v (.lst (ps.map pt)), .lin [], .un, .un]) (st := st) (t := gN 3) (b := rbody) pt
    (fun pre env st' => st' = st ∧ (∃ x y, env = [.v (pt s), .v (.lst (ps.map pt)), .lin ((rnd s pre).map pt), x, y]) ∧ (∀ q ∈ rnd s pre, q ∈ pre) ∧ (rnd s pre).length = pre.length) ps
    ⟨rfl, ⟨_, _, rfl⟩, by simp [rnd], rfl⟩ (by
      rintro pre x post env st' e ⟨rfl, ⟨u, v, rfl⟩, hm, hn⟩
      have hx := hp x (by rw [e]; simp)
      have er : rnd s (pre ++ [x]) = ins s x (rnd s pre) := by simp [rnd, List.foldl_append]
      obtain ⟨y, hy⟩ := s_round (st := st') (rest := .lst (ps.map pt)) (x := v) hs hx.1 hx.2 (rnd s pre) (fun q hq => hp q (by rw [e]; exact List.mem_append_left _ (hm q hq))) (by rw [hn]; rw [e] at hl; simp at hl; omega)
      refine ⟨_, _, st', rfl, .inl hy, rfl, ⟨_, y, by rw [er]⟩, fun q hq => ?_, ?_⟩
      · rw [er] at hq
        rcases mem_ins hq with rfl | hq
        · simp
        · exact List.mem_append_left _ (hm q hq)
      · rw [er, ins_len, hn]; simp)
  obtain ⟨env', st', h1, rfl, ⟨x, y, rfl⟩, _, _⟩ := key
  have h1' := h1
  simp only [rbody, wtest, wbody] at h1'
  simp [f_in_round, b_in_round, x_run, startE]
  rw [h1']
  simp
end K01

set_option Elab.async false
set_option linter.all false
set_option maxRecDepth 100000
set_option maxHeartbeats 1000000
namespace K01
open PySem DV
variable {st : List O}
/-! steps -/
def stp (s e : P) : List P := if s = e then [s] else (List.range (Int.gcd (e.1 - s.1) (e.2 - s.2) + 1)).map fun k => (s.1 + (e.1 - s.1) / (Int.gcd (e.1 - s.1) (e.2 - s.2) : Nat) * (k : Nat), s.2 + (e.2 - s.2) / (Int.gcd (e.1 - s.1) (e.2 - s.2) : Nat) * (k : Nat))
theorem gcd_bd {x y : Int} (h : ¬ (x = 0 ∧ y = 0)) (hx : -10000 ≤ x ∧ x ≤ 10000) (hy : -10000 ≤ y ∧ y ≤ 10000) : 0 < Int.gcd x y ∧ Int.gcd x y ≤ 10000 := by
  by_cases h1 : x = 0
  · have h2 : y ≠ 0 := fun z => h ⟨h1, z⟩
    have := Nat.le_of_dvd (by omega : 0 < y.natAbs) (Nat.gcd_dvd_right x.natAbs y.natAbs)
    exact ⟨Int.gcd_pos_of_ne_zero_right x h2, by unfold Int.gcd; omega⟩
  · have := Nat.le_of_dvd (by omega : 0 < x.natAbs) (Nat.gcd_dvd_left x.natAbs y.natAbs)
    exact ⟨Int.gcd_pos_of_ne_zero_left y h1, by unfold Int.gcd; omega⟩
theorem r_stp {s e : P} (hs : Sm s) (he : Sm e) : f_steps_between [pt s, pt e] st = .ok (.tup ((stp s e).map pt)) st := by
  by_cases q : s = e
  · subst q
    simp [f_steps_between, b_steps_between, x_run, startE, stp, h_ne]
  · have q2 : ¬ (e.1 - s.1 = 0 ∧ e.2 - s.2 = 0) := fun ⟨a, b⟩ => q (Prod.ext (by omega) (by omega))
    unfold Sm at hs he
    obtain ⟨g1, g2⟩ := gcd_bd q2 (by omega) (by omega)
    have ew : wc (e.1 - s.1) (e.2 - s.2) = (Int.gcd (e.1 - s.1) (e.2 - s.2) : Nat) := by unfold wc; rw [Int.max_def]; split <;> omega
    have n0 : ¬ (Int.gcd (e.1 - s.1) (e.2 - s.2)) = 0 := by omega
    have hd (a : Int) (st : List O) : hDiv st (.int a) (.int (Int.gcd (e.1 - s.1) (e.2 - s.2) : Nat)) = some (.int (a / (Int.gcd (e.1 - s.1) (e.2 - s.2) : Nat))) := h_div (by omega) (by omega)
    have ir : inRg ((Int.gcd (e.1 - s.1) (e.2 - s.2) : Nat) + 1 : Int) = true := inRg_lo (by omega) (by omega)
    have tn : ((Int.gcd (e.1 - s.1) (e.2 - s.2) : Nat) + 1 : Int).toNat = Int.gcd (e.1 - s.1) (e.2 - s.2) + 1 := by omega
    have tr (x0 x1 x2 x3 x4 x5 : Sl) (h0 : x0 = .v (pt s)) (h2 : x2 = .v (.int (e.1 - s.1))) (h3 : x3 = .v (.int (e.2 - s.2))) (h4 : x4 = .v (.int (Int.gcd (e.1 - s.1) (e.2 - s.2) : Nat))) :=
      tr_map (env := [x0, x1, x2, x3, x4, x5]) (st := st) (t := gN 5) (e := (eTup (aCons (eOp hAdd (eOp hIx (eVar 0) (eC (.int 0))) (eOp hMul (eOp hDiv (eVar 2) (eVar 4)) (eVar 5))) (aCons (eOp hAdd (eOp hIx (eVar 0) (eC (.int 1))) (eOp hMul (eOp hDiv (eVar 3) (eVar 4)) (eVar 5))) (aNil))))) (fun k : Nat => D.int (k : Nat))
        (fun k : Nat => pt (s.1 + (e.1 - s.1) / (Int.gcd (e.1 - s.1) (e.2 - s.2) : Nat) * (k : Nat), s.2 + (e.2 - s.2) / (Int.gcd (e.1 - s.1) (e.2 - s.2) : Nat) * (k : Nat))) (List.range (Int.gcd (e.1 - s.1) (e.2 - s.2) + 1))
        fun k hk => by
          have := List.mem_range.mp hk
          exact ⟨_, rfl, by subst h0 h2 h3 h4; simp (disch := omega) [hd, h_mul_r]⟩
    simp [f_steps_between, b_steps_between, x_run, startE, stp, h_ne, q, q2, r_wc, ew, n0, ir, tn, up_map0, tr]
    rw [if_pos (by omega), g_tup (by simp; omega)]
    simp
/-! right angles -/
abbrev T3 := Nat × Nat × Nat
abbrev tr3 (x : T3) : D := .tup [.int (x.1 : Nat), .int (x.2.1 : Nat), .int (x.2.2 : Nat)]
/-- the n-th -/
def gp (ps : List P) (i : Nat) : P := ps.getD i (0, 0)
theorem at_gp {ps : List P} {i : Nat} (h : i < ps.length) : L2.atI (ps.map pt) (i : Int) = some (pt (gp ps i)) := by
  rw [at_map, at_nat ps i h]
  simp [gp, List.getD, h]
def rok (ps : List P) (a b c : Nat) : Bool := decide (b ≠ a) && decide (b ≠ c) && decide (gp ps a ≠ gp ps b) && decide (gp ps c ≠ gp ps b) && decide (dt (gp ps b) (gp ps a) (gp ps c) = 0)
def ra3 (ps : List P) (a b : Nat) : List T3 := (List.range (ps.length - (a + 1))).flatMap fun k => if rok ps a b (a + 1 + k) then [(a, b, a + 1 + k)] else []
def ra2 (ps : List P) (a : Nat) : List T3 := (List.range ps.length).flatMap (ra3 ps a)
def ra (ps : List P) : List T3 := (List.range ps.length).flatMap (ra2 ps)
theorem fm_len {α β : Type} (f : α → List β) (n : Nat) : ∀ xs : List α, (∀ x ∈ xs, (f x).length ≤ n) → (xs.flatMap f).length ≤ n * xs.length
  | [], _ => by simp
  | x :: xs, h => by
    have := fm_len f n xs fun y hy => h y (List.mem_cons_of_mem _ hy)
    have := h x List.mem_cons_self
    rw [List.flatMap_cons, List.length_append, List.length_cons, Nat.mul_succ]
    omega
theorem ra3_len (ps : List P) (a b : Nat) : (ra3 ps a b).length ≤ ps.length := by
  have := fm_len (fun k => if rok ps a b (a + 1 + k) then [(a, b, a + 1 + k)] else []) 1 (List.range (ps.length - (a + 1))) (fun k _ => by split <;> simp)
  rw [List.length_range] at this
  unfold ra3
  omega
abbrev mkR (ps : List P) (acc : List T3) (t : Sl × Sl × Sl) : List Sl := [.v (.lst (ps.map pt)), .lin (acc.map tr3), t.1, t.2.1, t.2.2]
abbrev rb3 : SF := (sIf (tAnd2 (tCmpD (hIn true) (eVar 3) (eTup (aCons (eVar 2) (aCons (eVar 4) (aNil))))) (tAnd2 (tCmpD (hNe) (eOp hIx (eVar 0) (eVar 2)) (eOp hIx (eVar 0) (eVar 3))) (tCmpD (hNe) (eOp hIx (eVar 0) (eVar 4)) (eOp hIx (eVar 0) (eVar 3))))) (sIf (tCmpD (hEq) (eCallD f_dot_of [] (aCons (eOp hIx (eVar 0) (eVar 3)) (aCons (eOp hIx (eVar 0) (eVar 2)) (aCons (eOp hIx (eVar 0) (eVar 4)) (aNil))))) (eC (.int 0))) (sLinM 1 hAppL (aCons (eTup (aCons (eVar 2) (aCons (eVar 3) (aCons (eVar 4) (aNil))))) (aNil))) (sNx)) (sNx))
theorem gp_sm {ps : List P} (h : ∀ p ∈ ps, Sm p) (i : Nat) : Sm (gp ps i) := by
  unfold gp
  rw [List.getD_eq_getElem?_getD]
  by_cases hi : i < ps.length
  · simp only [List.getElem?_eq_getElem hi, Option.getD_some]
    exact h _ (List.getElem_mem hi)
  · simp [List.getElem?_eq_none (by omega : ps.length ≤ i), Sm]
theorem rb3_ok {ps : List P} (hs : ∀ p ∈ ps, Sm p) {a b c : Nat} (ha : a < ps.length) (hb : b < ps.length) (hc : c < ps.length) (acc : List T3) (hN : acc.length < 100000) :
    rb3 (mkR ps acc (.v (.int (a : Nat)), .v (.int (b : Nat)), .v (.int (c : Nat)))) st = .nx (mkR ps (acc ++ if rok ps a b c then [(a, b, c)] else []) (.v (.int (a : Nat)), .v (.int (b : Nat)), .v (.int (c : Nat)))) st := by
  have hd := r_dot (st := st) (gp_sm hs b) (gp_sm hs a) (gp_sm hs c)
  have e1 : hIn true st (.int (b : Nat)) (.tup [.int (a : Nat), .int (c : Nat)]) = some (.bl (decide (b ≠ a) && decide (b ≠ c))) := by
    simp [hIn]
    by_cases h1 : b = a <;> by_cases h2 : b = c <;> simp [h1, h2] <;> omega
  simp [at_gp ha, at_gp hb, at_gp hc, h_ne, hd, e1, hN, rok]
  by_cases h1 : b = a
  · simp [h1]
  · by_cases h2 : b = c
    · simp [h2]
    · by_cases h3 : gp ps a = gp ps b
      · simp [h3]
      · by_cases h4 : gp ps c = gp ps b
        · simp [h4]
        · have h3' : ¬(gp ps a).fst = (gp ps b).fst ∨ ¬(gp ps a).snd = (gp ps b).snd := Classical.not_and_iff_not_or_not.mp fun z => h3 (Prod.ext z.1 z.2)
          have h4' : ¬(gp ps c).fst = (gp ps b).fst ∨ ¬(gp ps c).snd = (gp ps b).snd := Classical.not_and_iff_not_or_not.mp fun z => h4 (Prod.ext z.1 z.2)
          by_cases h5 : dt (gp ps b) (gp ps a) (gp ps c) = 0 <;> simp [h1, h2, h3, h4, h5, h3', h4']
end K01

set_option Elab.async false
set_option linter.all false
set_option maxRecDepth 100000
set_option maxHeartbeats 1000000
namespace K01
open PySem DV
variable {st : List O}
theorem ra2_len (ps : List P) (a : Nat) : (ra2 ps a).length ≤ ps.length * ps.length := by
  have := fm_len (ra3 ps a) ps.length (List.range ps.length) (fun b _ => ra3_len ps a b)
  rw [List.length_range] at this
  exact this
theorem ra_len (ps : List P) : (ra ps).length ≤ ps.length * ps.length * ps.length := by
  have := fm_len (ra2 ps) (ps.length * ps.length) (List.range ps.length) (fun b _ => ra2_len ps b)
  rw [List.length_range] at this
  exact this
theorem l_ra3 {ps : List P} (hs : ∀ p ∈ ps, Sm p) (hl : ps.length ≤ 12) {a b : Nat} (ha : a < ps.length) (hb : b < ps.length) (acc : List T3) (x : Sl) (hN : acc.length + (ra3 ps a b).length ≤ 50000) :
    ∃ y, forD (gN 4) rb3 (upFrom ((a : Int) + 1) (ps.length - (a + 1))) (mkR ps acc (.v (.int (a : Nat)), .v (.int (b : Nat)), x)) st = .nx (mkR ps (acc ++ ra3 ps a b) (.v (.int (a : Nat)), .v (.int (b : Nat)), y)) st := by
  refine for_col (fun k : Nat => D.int ((a : Int) + 1 + (k : Nat))) (fun acc (x : Sl) => mkR ps acc (.v (.int (a : Nat)), .v (.int (b : Nat)), x)) (fun k => if rok ps a b (a + 1 + k) then [(a, b, a + 1 + k)] else []) 50000 _ (fun k hk acc x h => ?_) acc x hN
  have hk := List.mem_range.mp hk
  have e : ((a : Int) + 1 + (k : Nat)) = ((a + 1 + k : Nat) : Int) := by omega
  refine ⟨mkR ps acc (.v (.int (a : Nat)), .v (.int (b : Nat)), .v (.int ((a + 1 + k : Nat) : Int))), .v (.int ((a + 1 + k : Nat) : Int)), by rw [e]; rfl, ?_⟩
  exact rb3_ok hs ha hb (by omega) acc (by omega)
abbrev rb2 : SF := (sFor (aRg2 (aCons (eOp hAdd (eVar 2) (eC (.int 1))) (aCons (eN hLen (aCons (eVar 0) (aNil))) (aNil)))) (gN 4) rb3)
abbrev rb1 : SF := (sFor (aRg1 (aCons (eN hLen (aCons (eVar 0) (aNil))) (aNil))) (gN 3) rb2)
theorem l_ra2 {ps : List P} (hs : ∀ p ∈ ps, Sm p) (hl : ps.length ≤ 12) {a : Nat} (ha : a < ps.length) (acc : List T3) (x y : Sl) (hN : acc.length + (ra2 ps a).length ≤ 50000) :
    ∃ t : Sl × Sl, forD (gN 3) rb2 (upFrom 0 ps.length) (mkR ps acc (.v (.int (a : Nat)), x, y)) st = .nx (mkR ps (acc ++ ra2 ps a) (.v (.int (a : Nat)), t.1, t.2)) st := by
  rw [up_map0]
  refine for_col (fun k : Nat => D.int (k : Nat)) (fun acc (t : Sl × Sl) => mkR ps acc (.v (.int (a : Nat)), t.1, t.2)) (ra3 ps a) 50000 _ (fun b hb acc t h => ?_) acc (x, y) hN
  have hb := List.mem_range.mp hb
  obtain ⟨z, hz⟩ := l_ra3 (st := st) hs hl ha hb acc t.2 h
  refine ⟨_, (.v (.int (b : Nat)), z), rfl, ?_⟩
  have i1 : inRg ((a : Int) + 1) = true := inRg_lo (by omega) (by omega)
  have i2 : inRg (ps.length : Int) = true := inRg_lo (by omega) (by omega)
  have i3 : ((ps.length : Int) - ((a : Int) + 1)).toNat = ps.length - (a + 1) := by omega
  simp only [mkR] at hz
  simp only [rb2, x_for, x_rg2, x_cons, x_op, x_var, x_c, mkR, List.set_cons_succ, List.set_cons_zero, List.getElem?_cons_succ, g_0, bind_ok, h_add, of_some, x_n, x_nil, len_map, i1, i2, Bool.and_self, if_true, ofR_ok, i3, hz]
theorem l_ra1 {ps : List P} (hs : ∀ p ∈ ps, Sm p) (hl : ps.length ≤ 12) (acc : List T3) (x y z : Sl) (hN : acc.length + (ra ps).length ≤ 50000) :
    ∃ t : Sl × Sl × Sl, forD (gN 2) rb1 (upFrom 0 ps.length) (mkR ps acc (x, y, z)) st = .nx (mkR ps (acc ++ ra ps) t) st := by
  rw [up_map0]
  refine for_col (fun k : Nat => D.int (k : Nat)) (fun acc (t : Sl × Sl × Sl) => mkR ps acc t) (ra2 ps) 50000 _ (fun a ha acc t h => ?_) acc (x, y, z) hN
  have ha := List.mem_range.mp ha
  obtain ⟨u, hu⟩ := l_ra2 (st := st) hs hl ha acc t.2.1 t.2.2 h
  refine ⟨_, (.v (.int (a : Nat)), u), rfl, ?_⟩
  have i2 : inRg (ps.length : Int) = true := inRg_lo (by omega) (by omega)
  have i3 : ((ps.length : Int)).toNat = ps.length := by omega
  simp only [mkR] at hu
  simp only [rb1, x_for, x_rg1, x_cons, x_op, x_var, x_c, mkR, List.set_cons_succ, List.set_cons_zero, List.getElem?_cons_succ, g_0, bind_ok, h_add, of_some, x_n, x_nil, len_map, i2, Bool.and_self, if_true, ofR_ok, i3, hu]
theorem r_ra {ps : List P} (hs : ∀ p ∈ ps, Sm p) (hl : ps.length ≤ 12) : f_right_angles [.lst (ps.map pt)] st = .ok (.tup ((ra ps).map tr3)) st := by
  have h1 := ra_len ps
  have h2 : ps.length * ps.length * ps.length ≤ 12 * 12 * 12 := Nat.mul_le_mul (Nat.mul_le_mul hl hl) hl
  obtain ⟨t, ht⟩ := l_ra1 (st := st) hs hl [] .un .un .un (by simp; omega)
  have i2 : inRg (ps.length : Int) = true := inRg_lo (by omega) (by omega)
  have i3 : ¬ ((12 : Int) < (ps.length : Int)) := by omega
  simp only [mkR, List.map_nil, List.nil_append, rb1, rb2, rb3] at ht
  simp [f_right_angles, b_right_angles, x_run, startE, i2, i3]
  simp only [List.map_nil, ht, x_seq, thn_nx, x_frz, List.getElem?_cons_succ, g_0, List.set_cons_succ, List.set_cons_zero]
  simp
/-! the most in line -/
def cnt (ps : List P) (a b : P) : Int := ((ps.filter fun p => decide (sg (cr a b p) = 0)).length : Nat)
theorem r_cnt {ps : List P} (hs : ∀ p ∈ ps, Sm p) {a b : P} (ha : Sm a) (hb : Sm b) (x0 x1 x2 x3 x4 x5 : Sl) (h3 : x3 = .v (pt a)) (h4 : x4 = .v (pt b)) :
    lcD (gN 5) (tCmpD hEq (eCallD f_side_of [] (aCons (eVar 3) (aCons (eVar 4) (aCons (eVar 5) aNil)))) (eC (.int 0))) (eC (.int 1)) (ps.map pt) [x0, x1, x2, x3, x4, x5] st = .ok ((ps.filter fun p => decide (sg (cr a b p) = 0)).map fun _ => .int 1) st :=
  lc_pure pt (fun p => decide (sg (cr a b p) = 0)) (fun _ => .int 1) ps fun p hp => ⟨_, rfl, by subst h3 h4; simp [r_side ha hb (hs p hp)], fun _ => rfl⟩
abbrev mbody : SF := (sIf (tCmpD (hNe) (eVar 3) (eVar 4)) (sSet 1 (eN hMax (aCons (eVar 1) (aCons (eN hLen (aCons (eLc (aIt (eVar 0)) (gN 5) (tCmpD (hEq) (eCallD f_side_of [] (aCons (eVar 3) (aCons (eVar 4) (aCons (eVar 5) (aNil))))) (eC (.int 0))) (eC (.int 1)) [5]) (aNil))) (aNil))))) (sNx))
def mstep (ps : List P) (a : P) (best : Int) (b : P) : Int := if decide (a ≠ b) then max best (cnt ps a b) else best
theorem mbody_ok {ps : List P} (hs : ∀ p ∈ ps, Sm p) (hl : ps.length ≤ 20) {a b : P} (ha : Sm a) (hb : Sm b) (best : Int) (x5 : Sl) (x2 : Sl) :
    mbody [.v (.lst (ps.map pt)), .v (.int best), x2, .v (pt a), .v (pt b), x5] st = .nx [.v (.lst (ps.map pt)), .v (.int (mstep ps a best b)), x2, .v (pt a), .v (pt b), x5] st := by
  by_cases h : a = b
  · subst h
    simp [h_ne, mstep]
  · have h' : ¬ (a.1 = b.1 ∧ a.2 = b.2) := fun z => h (Prod.ext z.1 z.2)
    have hl2 : ps.length ≤ 100000 := by omega
    simp [h_ne, mstep, h, h', hl2, r_cnt hs ha hb, cnt]
def mil (ps : List P) : Int := ps.zipIdx.foldl (fun best q => (ps.take q.2).foldl (mstep ps q.1) best) (mxI (ps.map fun p => (ps.count p : Int)))
theorem r_mil {ps : List P} (hs : ∀ p ∈ ps, Sm p) (h0 : ps ≠ []) (hl : ps.length ≤ 20) : f_most_in_line [.lst (ps.map pt)] st = .ok (.int (mil ps)) st := by
  have l1 : ¬ ps.length = 0 := fun z => h0 (List.length_eq_zero_iff.mp z)
  have n1 : ps.map (fun p => (ps.count p : Int)) ≠ [] := by simpa using h0
  have i1 : (1 : Int) ≤ (ps.length : Int) := by omega
  have i2 : (ps.length : Int) ≤ 20 := by omega
  have q1 (x0 x1 x2 x3 x4 x5 : Sl) (e0 : x0 = .v (.lst (ps.map pt))) : traceD (gN 5) tYes1 (eM "list" hCount (eN hList (aCons (eVar 0) aNil)) (aCons (eVar 5) aNil)) (ps.map pt) [x0, x1, x2, x3, x4, x5] st = (ps.map fun p => (.int (ps.count p : Nat), st), some st) :=
    tr_map pt (fun p => .int (ps.count p : Nat)) ps fun p _ => ⟨_, rfl, by subst e0; simp [D.isT, h_cnt]⟩
  have e1 : (ps.map fun p => ((D.int (ps.count p : Nat), st) : D × List O)) = (ps.map fun p => (ps.count p : Int)).map fun n => (D.int n, st) := by rw [List.map_map]; rfl
  have q2 := g_max (st := st) n1
  rw [← e1] at q2
  have key := for_fold (st := st) (t := gT [gN 2, gN 3]) (b := sFor (aIt (eSl (eVar 0) oNone (oSome (eVar 2)))) (gN 4) mbody) (fun q : P × Nat => .tup [.int (q.2 : Nat), pt q.1])
    (fun (best : Int) (t : Sl × Sl × Sl × Sl) => [.v (.lst (ps.map pt)), .v (.int best), t.1, t.2.1, t.2.2.1, t.2.2.2]) (fun best q => (ps.take q.2).foldl (mstep ps q.1) best) (fun _ => True) ps.zipIdx (fun q hq best t _ => ⟨trivial, by
      have hp : Sm q.1 := hs q.1 (by
        have := List.mem_zipIdx hq
        exact List.mem_of_getElem (i := q.2) (h := by omega) (by simp at this; exact this.2.symm))
      obtain ⟨_, t', ht⟩ := for_fold (st := st) (t := gN 4) (b := mbody) pt (fun (best : Int) (t : Sl × Sl) => [.v (.lst (ps.map pt)), .v (.int best), .v (.int (q.2 : Nat)), .v (pt q.1), t.1, t.2]) (mstep ps q.1) (fun _ => True) (ps.take q.2)
        (fun b hb best t _ => ⟨trivial, _, (.v (pt b), t.2), rfl, mbody_ok hs hl hp (hs b (List.mem_of_mem_take hb)) best t.2 _⟩) best (t.2.2.1, t.2.2.2) trivial
      refine ⟨_, (.v (.int (q.2 : Nat)), .v (pt q.1), t'), rfl, ?_⟩
      have ec : cutD (ps.map pt) none (some (q.2 : Int)) = (ps.take q.2).map pt := by rw [cut_hi, List.map_take]
      simp only [x_for, x_it, x_sl, x_var, List.getElem?_cons_succ, g_0, List.set_cons_succ, List.set_cons_zero, bind_ok, x_none, x_some, sl_lst, of_some, ec, x_itL, ofR_ok, ht]⟩) (mxI (ps.map fun p => (ps.count p : Int))) (.un, .un, .un, .un) trivial
  obtain ⟨_, t, ht⟩ := key
  simp [f_most_in_line, b_most_in_line, x_run, startE, i1, i2, q1, q2, num_map0]
  rw [ht]
  simp [mil]
end K01

set_option Elab.async false
set_option linter.all false
set_option maxRecDepth 100000
set_option maxHeartbeats 1000000
namespace K01
open PySem DV
variable {st : List O}
theorem r_roll {m : Int} (s : Dc) (h1 : 0 < m) (h2 : m ≤ 100000000) : ∃ r s', f__law_roll [.ref 0, .int m] (dO s) = .ok (.int r) (dO s') ∧ 0 ≤ r ∧ r < m := by
  obtain ⟨a, b, c⟩ := s
  have n1 : ¬ (100000000 < m) := by omega
  have hm : ∀ st a, hMod st (.int a) (.int m) = some (.int (a % m)) := fun st a => h_mod h1
  have hd : ∀ st a, hDiv st (.int a) (.int m) = some (.int (a / m)) := fun st a => h_div h1 (by omega)
  by_cases q : c = 2 ∨ c = 1 ∧ 0 < a
  · refine ⟨a % m, (a / m, b, c), ?_, roll_mod h1⟩
    simp [f__law_roll, b__law_roll, x_run, startE, hm, hd, L2.ixN]
    rcases q with q | q
    · simp [q]
    · simp [q]
  · refine ⟨((a * 48271 + b * 69621 + 11) % 2147483647 / 7) % m, ((a * 48271 + b * 69621 + 11) % 2147483647, b + 1, 0), ?_, roll_mod h1⟩
    have q1 : ¬ c = 2 := fun z => q (.inl z)
    have q2 : ¬ (c = 1 ∧ 0 < a) := fun z => q (.inr z)
    have m1 (x st) : hMul st (.int x) (.int 48271) = some (.int (x * 48271)) := h_mul_r (by omega) (by omega)
    have m2 (x st) : hMul st (.int x) (.int 69621) = some (.int (x * 69621)) := h_mul_r (by omega) (by omega)
    have m3 (x st) : hMod st (.int x) (.int 2147483647) = some (.int (x % 2147483647)) := h_mod (by omega)
    have m4 (x st) : hDiv st (.int x) (.int 7) = some (.int (x / 7)) := h_div (by omega) (by omega)
    by_cases q3 : c = 1
    · subst q3
      have q4 : ¬ 0 < a := fun z => q2 ⟨rfl, z⟩
      simp [f__law_roll, b__law_roll, x_run, startE, hm, L2.ixN, n1, q4, m1, m2, m3, m4]
    · simp [f__law_roll, b__law_roll, x_run, startE, hm, L2.ixN, n1, q1, q3, m1, m2, m3, m4]
/-- drawn points -/
def Dr (p : P) : Prop := -3 ≤ p.1 ∧ p.1 ≤ 5 ∧ -3 ≤ p.2 ∧ p.2 ≤ 5
theorem Dr.sm {p : P} (h : Dr p) : Sm p := by unfold Dr at h; unfold Sm; omega
theorem r_point (s : Dc) : ∃ p s', f__law_point [.ref 0] (dO s) = .ok (pt p) (dO s') ∧ Dr p := by
  obtain ⟨a, s1, h1, a1, a2⟩ := r_roll (m := 9) s (by omega) (by omega)
  obtain ⟨b, s2, h2, b1, b2⟩ := r_roll (m := 9) s1 (by omega) (by omega)
  refine ⟨(a - 3, b - 3), s2, ?_, by unfold Dr; dsimp only; omega⟩
  simp [f__law_point, b__law_point, x_run, startE, h1, h2]
theorem r_dice {c : Int} : ∃ s : Dc, f__law_dice [.int c] [] = .ok (.ref 0) (dO s) := by
  by_cases q : -10 < c ∧ c < 10
  · refine ⟨(if c < 0 then -c else c, 0, 2), ?_⟩
    simp [f__law_dice, b__law_dice, x_run, startE, q, eLstO]
  · refine ⟨(c, 1 + c % 1009, if 1000000000000000000 ≤ c then 1 else 0), ?_⟩
    have p : hPow [] (.int 10) (.int 18) = some (.int 1000000000000000000) := rfl
    have m3 (x st) : hMod st (.int x) (.int 1009) = some (.int (x % 1009)) := h_mod (by omega)
    by_cases q1 : -10 < c
    · have q2 : ¬ c < 10 := fun z => q ⟨q1, z⟩
      simp [f__law_dice, b__law_dice, x_run, startE, q1, q2, eLstO, p, m3]
    · simp [f__law_dice, b__law_dice, x_run, startE, q1, eLstO, p, m3]
theorem r_rounds {ns : List Int} : ∃ s : Dc, f__law_rounds [.frz (ns.map .int), .int 1] [] = .ok (.lst [.ref 0]) (dO s) := by
  cases ns with
  | nil =>
    obtain ⟨s, h⟩ := r_dice (c := 0)
    refine ⟨s, ?_⟩
    have e : cutD ([] : List D) none (some 1) = [] := by simp [cutD]
    simp [f__law_rounds, b__law_rounds, x_run, startE, e, h_eq, lcD, h]
  | cons c r =>
    obtain ⟨s, h⟩ := r_dice (c := c)
    refine ⟨s, ?_⟩
    have e : cutD (D.int c :: r.map D.int) none (some 1) = [.int c] := by have := cut_hi (D.int c :: r.map D.int) 1; simpa using this
    simp [f__law_rounds, b__law_rounds, x_run, startE, e, h_eq, lcD, h]
end K01

set_option Elab.async false
set_option linter.all false
set_option maxRecDepth 100000
set_option maxHeartbeats 1000000
namespace K01
open PySem DV
variable {st : List O} {env : List Sl} {ps : List P} {a b c : P}
def board : List P := (List.range 9).flatMap fun i => (List.range 9).map fun j => (((i : Nat) : Int) - 3, ((j : Nat) : Int) - 3)
theorem r_board : f__law_board [] st = .ok (.lst (board.map pt)) st := by kernel_rfl
theorem r_plain : f__law_plain [] st = .ok (.bl true) st := by kernel_rfl
def inb (l d r t : Int) (p : P) : Bool := decide (l ≤ p.1) && decide (p.1 ≤ r) && (decide (d ≤ p.2) && decide (p.2 ≤ t))
theorem r_shared {l d r t l' d' r' t' : Int} : f__law_shared [bx l d r t, bx l' d' r' t'] st = .ok (.lst ((board.filter fun p => inb l d r t p && inb l' d' r' t' p).map pt)) st := by
  have q (x0 x1 x2 x3 : Sl) (h0 : x0 = .v (bx l d r t)) (h1 : x1 = .v (bx l' d' r' t')) := lc_pure (env := [x0, x1, x2, x3]) (st := st) (t := gT [gN 2, gN 3]) (c := (tAnd2 (tOfE (eChain (hLe) (hLe) (eOp hIx (eVar 0) (eC (.int 0))) (eVar 2) (eOp hIx (eVar 0) (eC (.int 2))))) (tAnd2 (tOfE (eChain (hLe) (hLe) (eOp hIx (eVar 0) (eC (.int 1))) (eVar 3) (eOp hIx (eVar 0) (eC (.int 3))))) (tAnd2 (tOfE (eChain (hLe) (hLe) (eOp hIx (eVar 1) (eC (.int 0))) (eVar 2) (eOp hIx (eVar 1) (eC (.int 2))))) (tOfE (eChain (hLe) (hLe) (eOp hIx (eVar 1) (eC (.int 1))) (eVar 3) (eOp hIx (eVar 1) (eC (.int 3)))))))))
    (e := (eTup (aCons (eVar 2) (aCons (eVar 3) (aNil))))) pt (fun p => inb l d r t p && inb l' d' r' t' p) pt board (fun p _ => ⟨_, rfl, by
      subst h0 h1
      simp [inb]
      grind -verbose, fun _ => rfl⟩)
  have hb : board.length = 81 := by decide
  simp [f__law_shared, b__law_shared, x_run, startE, r_board, q, hb]
/-- what stands all along -/
structure E1 (ps : List P) (a b c : P) (env : List Sl) : Prop where
  len : env.length = 30
  d1 : env[1]? = some (.v (.ref 0))
  d2 : env[2]? = some (.v (.lst (ps.map pt)))
  d3 : env[3]? = some (.v (pt a))
  d4 : env[4]? = some (.v (pt b))
  d5 : env[5]? = some (.v (pt c))
theorem E1.set (h : E1 ps a b c env) {k : Nat} {x : Sl} (hk : 6 ≤ k) : E1 ps a b c (env.set k x) where
  len := by rw [List.length_set, h.len]
  d1 := by rw [List.getElem?_set_ne (by omega), h.d1]
  d2 := by rw [List.getElem?_set_ne (by omega), h.d2]
  d3 := by rw [List.getElem?_set_ne (by omega), h.d3]
  d4 := by rw [List.getElem?_set_ne (by omega), h.d4]
  d5 := by rw [List.getElem?_set_ne (by omega), h.d5]
variable (h : E1 ps a b c env) (ha : Sm a) (hb : Sm b) (hc : Sm c)
include h ha hb hc
theorem l0 : s_law_0 env st = .nx (((env.set 6 (.v (.int (cr a b c)))).set 7 (.v (.int (a.1 - b.1)))).set 8 (.v (.int (a.2 - b.2)))) st := by
  simp [s_law_0, h.d3, h.d4, h.d5, r_turn ha hb hc]
theorem l1 (h6 : env[6]? = some (.v (.int (cr a b c)))) : s_law_1 env st = .nx env st := by
  simp [s_law_1, h.d3, h.d4, h.d5, r_cross ha hb hc, r_side ha hb hc, h6, h_ne, hSubB, bI, sg]
  split <;> split <;> first | omega | split <;> omega
theorem l2 : s_law_2 env st = .nx env st := by
  have hd := r_dot (st := st) ha hb hc
  unfold Sm at ha hb hc
  simp (disch := omega) [s_law_2, h.d3, h.d4, h.d5, hd, h_ne, h_mul_l, dt]
omit hc
omit h
theorem l3 (h : E1 ps a b c env) (h7 : env[7]? = some (.v (.int (a.1 - b.1)))) (h8 : env[8]? = some (.v (.int (a.2 - b.2)))) (h9 : env[9]? = some (.v (.lst [.int (max (a.1 - b.1) (-(a.1 - b.1))), .int (max (a.2 - b.2) (-(a.2 - b.2)))]))) : s_law_3 env st = .nx env st := by
  have q1 := r_sqf (st := st) ha hb
  have q2 := r_blk (st := st) (s := a) (o := b)
  have q3 := r_king (st := st) (s := a) (o := b)
  unfold Sm at ha hb
  have s2 (x y : Int) (st) : hSum st [.lst [.int x, .int y]] = some (.int (x + y)) := by have := h_sum (st := st) (ns := [x, y]); simpa using this
  have m2 (x y : Int) (st) : hMax st [.lst [.int x, .int y]] = some (.int (max x y)) := by have := h_maxL (st := st) (ns := [x, y]) (by simp); simpa [mxI, List.max?_cons'] using this
  have e (x : Int) : ab x = max x (-x) := by unfold ab; rw [Int.max_def]; split <;> split <;> omega
  simp (disch := omega) [s_law_3, h.d3, h.d4, h.d5, q1, q2, q3, h_ne, h_mul_l, sqf, h7, h8, h9, s2, m2, e]
omit ha hb
theorem l4 (h : E1 ps a b c env) (s : Dc) : ∃ t u s', s_law_4 env (dO s) = .nx ((env.set 10 (.v (.int t))).set 11 (.v (.int u))) (dO s') ∧ -30 ≤ t ∧ t < 30 ∧ -10 ≤ u ∧ u ≤ 10 := by
  obtain ⟨t, s1, h1, a1, a2⟩ := r_roll (m := 60) s (by omega) (by omega)
  obtain ⟨u, s2, h2, b1, b2⟩ := r_roll (m := 21) s1 (by omega) (by omega)
  exact ⟨t - 30, u - 10, s2, by simp [s_law_4, h.d1, h1, h2], by omega, by omega, by omega, by omega⟩
theorem un_get {i : Nat} {d : D} (e : env[i]? = some (.v d)) : (unlin env)[i]? = some (.v d) := by
  unfold unlin
  rw [List.getElem?_map, e]
  rfl
theorem l5 {t u : Int} (h10 : env[10]? = some (.v (.int t))) (h11 : env[11]? = some (.v (.int u))) (hu1 : -10 ≤ u) (hu2 : u ≤ 10) : s_law_5 env st = .nx env st := by
  by_cases q : u = 0
  · subst q
    have e (st) : hNe st (.str "PointError") (.str "PointError") = some (.bl false) := by kernel_rfl
    simp [s_law_5, un_get h10, un_get h11, h10, h11, r_broken0, e]
  · simp [s_law_5, un_get h10, un_get h11, h10, h11, r_broken q (by omega) (by omega), r_low q (by omega) (by omega), q, h_ne]
theorem wc_max : ∀ i : Fin 60, ∀ j : Fin 21, wc ((i : Nat) - 30 : Int) ((j : Nat) - 10 : Int) = mxI (if ((i : Nat) - 30 : Int) = 0 ∧ ((j : Nat) - 10 : Int) = 0 then [1] else ((List.range 30).filter fun k => decide (((i : Nat) - 30 : Int) % (1 + (k : Nat) : Int) = 0) && decide (((j : Nat) - 10 : Int) % (1 + (k : Nat) : Int) = 0)).map fun k => (1 + (k : Nat) : Int)) := by decide +kernel
theorem wc_max2 {t u : Int} (h1 : -30 ≤ t) (h2 : t < 30) (h3 : -10 ≤ u) (h4 : u ≤ 10) : wc t u = mxI (if t = 0 ∧ u = 0 then [1] else ((List.range 30).filter fun k => decide (t % (1 + (k : Nat) : Int) = 0) && decide (u % (1 + (k : Nat) : Int) = 0)).map fun k => (1 + (k : Nat) : Int)) := by
  have := wc_max ⟨(t + 30).toNat, by omega⟩ ⟨(u + 10).toNat, by omega⟩
  have e1 : (((t + 30).toNat : Nat) - 30 : Int) = t := by omega
  have e2 : (((u + 10).toNat : Nat) - 10 : Int) = u := by omega
  simp only [e1, e2] at this
  exact this
theorem l6 (hl : env.length = 30) {t u : Int} (h10 : env[10]? = some (.v (.int t))) (h11 : env[11]? = some (.v (.int u))) (h1 : -30 ≤ t) (h2 : t < 30) (h3 : -10 ≤ u) (h4 : u ≤ 10) : s_law_6 env st = .nx env st := by
  have w := wc_max2 h1 h2 h3 h4
  by_cases q : t = 0 ∧ u = 0
  · obtain ⟨rfl, rfl⟩ := q
    have m1 (st) : hMax st [.lst [.int 1]] = some (.int 1) := by have := h_maxL (st := st) (ns := [1]) (by simp); simpa [mxI, List.max?_cons'] using this
    simp [s_law_6, h10, h11, r_wc, h_ne, m1]
    exact w
  · have g27 (y : Sl) : (env.set 27 y)[27]? = some y := List.getElem?_set_self (by omega)
    have lc := lc_pure (env := (env.set 27 .un)) (st := st) (t := gN 27) (c := (tAnd2 (tCmpD (hEq) (eOp hMod (eVar 10) (eVar 27)) (eC (.int 0))) (tCmpD (hEq) (eOp hMod (eVar 11) (eVar 27)) (eC (.int 0))))) (e := (eVar 27)) (fun k : Nat => D.int (1 + (k : Nat)))
      (fun k => decide (t % (1 + (k : Nat) : Int) = 0) && decide (u % (1 + (k : Nat) : Int) = 0)) (fun k => D.int (1 + (k : Nat))) (List.range 30) fun k hk => ⟨_, rfl, by
        have m3 (x st) : hMod st (.int x) (.int (1 + (k : Nat))) = some (.int (x % (1 + (k : Nat)))) := h_mod (by omega)
        simp [h10, h11, g27, m3]
        split <;> simp [*], fun _ => by simp [g27]⟩
    rw [if_neg q] at w
    have ne : ((List.range 30).filter fun k => decide (t % (1 + (k : Nat) : Int) = 0) && decide (u % (1 + (k : Nat) : Int) = 0)).map (fun k => (1 + (k : Nat) : Int)) ≠ [] := by
      have : 0 ∈ (List.range 30).filter fun k => decide (t % (1 + (k : Nat) : Int) = 0) && decide (u % (1 + (k : Nat) : Int) = 0) := by simp
      intro z
      rw [List.map_eq_nil_iff] at z
      rw [z] at this
      cases this
    have em : ∀ xs : List Nat, xs.map (fun k => D.int (1 + (k : Nat))) = (xs.map fun k => (1 + (k : Nat) : Int)).map D.int := fun xs => by rw [List.map_map]; rfl
    have m1 := h_maxL (st := st) ne
    rw [← em, ← w] at m1
    have q' : (t = 0 → ¬ u = 0) := fun z y => q ⟨z, y⟩
    have i1 : inRg 1 = true := by decide
    have i2 : inRg 31 = true := by decide
    by_cases t0 : t = 0
    · have u0 := q' t0
      simp [s_law_6, h10, h11, r_wc, h_ne, t0, u0, up_map, i1, i2] at lc m1 ⊢
      rw [lc]
      simp [m1]
    · simp [s_law_6, h10, h11, r_wc, h_ne, t0, up_map, i1, i2, lc, m1]
end K01

set_option Elab.async false
set_option linter.all false
set_option maxRecDepth 100000
set_option maxHeartbeats 2000000
namespace K01
open PySem DV
theorem mul_sg (a b : Int) : (0 < a → 0 < b → 0 < a * b) ∧ (a < 0 → b < 0 → 0 < a * b) ∧ (0 < a → b < 0 → a * b < 0) ∧ (a < 0 → 0 < b → a * b < 0) ∧ (a = 0 → a * b = 0) ∧ (b = 0 → a * b = 0) := by
  refine ⟨Int.mul_pos, Int.mul_pos_of_neg_of_neg, Int.mul_neg_of_pos_of_neg, Int.mul_neg_of_neg_of_pos, fun h => by simp [h], fun h => by simp [h]⟩
def qz (x y : Int) : Int := if y = 0 then (if 0 < x then 0 else 4) else if x = 0 then (if 0 < y then 2 else 6) else if 0 < x then (if 0 < y then 1 else 7) else if 0 < y then 3 else 5
def hz (x y : Int) : Int := if 0 < y ∨ y = 0 ∧ 0 < x then 0 else 1
theorem hz_qz (x y : Int) (h : ¬ (x = 0 ∧ y = 0)) : hz x y = if qz x y > 3 then 1 else 0 := by
  unfold hz qz
  grind
theorem lt_sq {a b : Int} (ha : 0 ≤ a) (hb : 0 ≤ b) : a * a < b * b ↔ a < b := by
  constructor
  · intro h
    rcases Int.lt_or_le a b with h1 | h1
    · exact h1
    · have := Int.mul_le_mul h1 h1 hb ha; omega
  · intro h
    rcases Int.lt_or_le (a*a) (b*b) with h2 | h2
    · exact h2
    · have h3 : a * b ≤ b * b := Int.mul_le_mul_of_nonneg_right (Int.le_of_lt h) hb
      have h4 : a * a ≤ a * b := Int.mul_le_mul_of_nonneg_left (Int.le_of_lt h) ha
      have h5 : a * b = b * b := by omega
      have h6 : (b - a) * b = 0 := by rw [Int.sub_mul]; omega
      rcases Int.mul_eq_zero.mp h6 with h7 | h7 <;> omega
theorem ray {x y u v : Int} (hx : 0 ≤ x) (hu : 0 ≤ u) (hy : 0 ≤ y) (hv : 0 ≤ v) (h : x * v = y * u) (hxy : 0 < x + y) (huv : 0 < u + v) : (x + y < u + v) ↔ (x*x+y*y < u*u+v*v) := by
  have e1 : (x + y) * u = (u + v) * x := by grind
  have e2 : (x + y) * v = (u + v) * y := by grind
  have key : (x*x+y*y) * ((u+v)*(u+v)) = (u*u+v*v) * ((x+y)*(x+y)) := by grind
  have p1 : 0 < x*x+y*y := by
    have := mul_sg x x; have := mul_sg y y; omega
  rw [← lt_sq (by omega) (by omega)]
  constructor
  · intro hl
    rcases Int.lt_or_le (x*x+y*y) (u*u+v*v) with h2 | h2
    · exact h2
    · exfalso
      have a1 : (u*u+v*v) * ((x+y)*(x+y)) ≤ (x*x+y*y) * ((x+y)*(x+y)) := Int.mul_le_mul_of_nonneg_right h2 (by have := mul_sg (x+y) (x+y); omega)
      have a2 : (x*x+y*y) * ((x+y)*(x+y)) < (x*x+y*y) * ((u+v)*(u+v)) := Int.mul_lt_mul_of_pos_left hl p1
      omega
  · intro hl
    rcases Int.lt_or_le ((x+y)*(x+y)) ((u+v)*(u+v)) with h2 | h2
    · exact h2
    · exfalso
      have a1 : (x*x+y*y) * ((u+v)*(u+v)) ≤ (x*x+y*y) * ((x+y)*(x+y)) := Int.mul_le_mul_of_nonneg_left h2 (by omega)
      have a2 : (x*x+y*y) * ((x+y)*(x+y)) < (u*u+v*v) * ((x+y)*(x+y)) := Int.mul_lt_mul_of_pos_right hl (by have := mul_sg (x+y) (x+y); omega)
      omega
theorem ab_ge (x : Int) : 0 ≤ ab x := by unfold ab; split <;> omega
theorem sq_ab (x : Int) : x * x = ab x * ab x := by unfold ab; split <;> grind
/-- who comes first: by halves or by quarters -/
theorem ahead_eq (x y u v : Int) (h : ¬ (x = 0 ∧ y = 0)) (h2 : ¬ (u = 0 ∧ v = 0)) :
    (if hz x y ≠ hz u v then decide (hz x y < hz u v) else decide (0 < x * v - y * u) || (decide (x * v - y * u = 0) && decide (x*x+y*y < u*u+v*v)))
    = (if qz x y ≠ qz u v ∨ x * v - y * u ≠ 0 then (if qz x y ≠ qz u v then decide (qz x y < qz u v) else decide (0 < x * v - y * u)) else decide (ab x + ab y < ab u + ab v)) := by
  have s1 := mul_sg x v
  have s2 := mul_sg y u
  by_cases hq : qz x y = qz u v
  · have hh : hz x y = hz u v := by rw [hz_qz x y h, hz_qz u v h2, hq]
    simp only [hq, hh, ne_eq, not_true_eq_false, if_false, false_or]
    by_cases hc : x * v - y * u = 0
    · simp only [hc, not_true_eq_false, if_false]
      have e : ab x * ab v = ab y * ab u := by unfold ab; split <;> split <;> split <;> split <;> grind
      have r := ray (ab_ge x) (ab_ge u) (ab_ge y) (ab_ge v) e (by unfold ab; split <;> split <;> omega) (by unfold ab; split <;> split <;> omega)
      rw [← sq_ab, ← sq_ab, ← sq_ab, ← sq_ab] at r
      simp [r]
    · simp [hc]
  · simp only [hq, ne_eq, not_false_eq_true, true_or, if_true]
    rw [hz_qz x y h, hz_qz u v h2]
    have k (z : Int) : z < 0 ∨ z = 0 ∨ 0 < z := by omega
    rcases k x with hx | hx | hx <;> rcases k y with hy | hy | hy <;> rcases k u with hu | hu | hu <;> rcases k v with hv | hv | hv <;>
      simp only [hx, hy, hu, hv, true_implies, Int.lt_irrefl, false_implies] at s1 s2 <;>
      (unfold qz at hq ⊢; simp_all [Int.lt_asymm, Int.ne_of_gt, Int.ne_of_lt] <;> omega)
theorem hf_hz (p s : P) : hf p s = hz (p.1 - s.1) (p.2 - s.2) := rfl
theorem qr_qz (s p : P) : qr s p = qz (p.1 - s.1) (p.2 - s.2) := by
  unfold qr qz quar
  simp only [decide_eq_true_eq]
theorem sg_pos (i : Int) : (0 < sg i) ↔ 0 < i := by unfold sg; split <;> (try split) <;> omega
theorem sg_zero (i : Int) : (sg i = 0) ↔ i = 0 := by unfold sg; split <;> (try split) <;> omega
theorem mx_ab (x y : Int) : max (x - y) (y - x) = ab (x - y) := by unfold ab; rw [Int.max_def]; split <;> split <;> omega
theorem sqf_eq (s o : P) : sqf s o = (o.1 - s.1) * (o.1 - s.1) + (o.2 - s.2) * (o.2 - s.2) := by unfold sqf; grind
theorem cr_eq (s o t : P) : cr s o t = (o.1 - s.1) * (t.2 - s.2) - (o.2 - s.2) * (t.1 - s.1) := rfl
theorem ne_zero {p s : P} (h : p ≠ s) : ¬ (p.1 - s.1 = 0 ∧ p.2 - s.2 = 0) := fun ⟨a, b⟩ => h (Prod.ext (by omega) (by omega))
theorem tah_lah {s p q : P} (hp : p ≠ s) (hq : q ≠ s) : tah s p q = lah s p q := by
  have e := ahead_eq (p.1 - s.1) (p.2 - s.2) (q.1 - s.1) (q.2 - s.2) (ne_zero hp) (ne_zero hq)
  unfold tah lah
  rw [hf_hz, hf_hz, qr_qz, qr_qz, sqf_eq, sqf_eq, mx_ab, mx_ab, mx_ab, mx_ab, cr_eq]
  rw [← e]
  simp only [sg_pos, sg_zero]
  split <;> simp_all
theorem cr_anti (s p q : P) : cr s q p = - cr s p q := by unfold cr; grind
theorem tah_asymm {s p q : P} (h : tah s p q = true) : tah s q p = false := by
  unfold tah at *
  rw [cr_anti s p q]
  simp only [sg_pos, sg_zero] at *
  by_cases e : hf p s = hf q s
  · simp only [e, if_true] at *
    simp at *
    omega
  · have e' : ¬ hf q s = hf p s := fun z => e z.symm
    simp only [e, e', if_false] at *
    simp at *
    omega
/-! the order -/
def adj (R : P → P → Prop) : List P → Prop
  | x :: y :: r => R x y ∧ adj R (y :: r)
  | _ => True
theorem adj_zip {R : P → P → Prop} : ∀ l : List P, adj R l → ∀ p ∈ l.zip (l.drop 1), R p.1 p.2
  | [], _, p, hp => by simp at hp
  | [x], _, p, hp => by simp at hp
  | x :: y :: r, h, p, hp => by
    simp only [List.drop_succ_cons, List.drop_zero, List.zip_cons_cons, List.mem_cons] at hp
    rcases hp with rfl | hp
    · exact h.1
    · exact adj_zip (y :: r) h.2 p (by simpa using hp)
theorem adj_tl {R : P → P → Prop} {x : P} : ∀ {l : List P}, adj R (x :: l) → adj R l
  | [], _ => trivial
  | _ :: _, h => h.2
theorem ins_adj (s p : P) : ∀ l : List P, adj (fun x y => tah s y x = false) l → adj (fun x y => tah s y x = false) (ins s p l)
  | [], _ => trivial
  | [q], _ => by
    unfold ins
    split
    · rename_i h; exact ⟨tah_asymm h, trivial⟩
    · rename_i h; exact ⟨by simpa using h, trivial⟩
  | q :: q2 :: r, h => by
    unfold ins
    split
    · rename_i e; exact ⟨tah_asymm e, h⟩
    · rename_i e
      have ih := ins_adj s p (q2 :: r) h.2
      unfold ins at ih ⊢
      split
      · rename_i e2
        rw [if_pos e2] at ih
        exact ⟨by simpa using e, ih⟩
      · rename_i e2
        rw [if_neg e2] at ih
        exact ⟨h.1, ih⟩
theorem ins_perm (s p : P) : ∀ l : List P, (ins s p l).Perm (p :: l)
  | [] => .refl _
  | q :: r => by
    unfold ins
    split
    · exact .refl _
    · exact ((ins_perm s p r).cons q).trans (.swap p q r)
theorem fold_adj (s : P) : ∀ (ps l : List P), adj (fun x y => tah s y x = false) l → adj (fun x y => tah s y x = false) (ps.foldl (fun l p => ins s p l) l)
  | [], _, h => h
  | p :: ps, l, h => fold_adj s ps _ (ins_adj s p l h)
theorem fold_perm (s : P) : ∀ (ps l : List P), (ps.foldl (fun l p => ins s p l) l).Perm (ps ++ l)
  | [], l => .refl _
  | p :: ps, l => (fold_perm s ps _).trans (((ins_perm s p l).append_left ps).trans List.perm_middle)
theorem rnd_perm (s : P) (ps : List P) : (rnd s ps).Perm ps := by have := fold_perm s ps []; rw [List.append_nil] at this; exact this
theorem rnd_zip (s : P) (ps : List P) : ∀ p ∈ (rnd s ps).zip ((rnd s ps).drop 1), tah s p.2 p.1 = false := adj_zip _ (fold_adj s ps [] trivial)
end K01

set_option Elab.async false
set_option linter.all false
set_option maxRecDepth 100000
set_option maxHeartbeats 1000000
namespace K01
open PySem DV
variable {st : List O} {env : List Sl} {ps rest : List P} {a b c : P}
abbrev pr2 (p : P × P) : D := .tup [pt p.1, pt p.2]
theorem set_g {l : List Sl} {i : Nat} {x : Sl} (h : i < l.length) : (l.set i x)[i]? = some x := List.getElem?_set_self h
theorem lrest (h : E1 ps a b c env) (hl : ps.length ≤ 100000) : eLc (aIt (eVar 2)) (gN 14) (tCmpD hNe (eVar 14) (eVar 3)) (eVar 14) [14] env st = .ok (.lst ((ps.filter fun p => decide (p ≠ a)).map pt)) st := by
  have g (y : Sl) : (env.set 14 y)[14]? = some y := set_g (by rw [h.len]; omega)
  have q := lc_pure (env := env.set 14 .un) (st := st) (t := gN 14) (c := tCmpD hNe (eVar 14) (eVar 3)) (e := eVar 14) pt (fun p => decide (p ≠ a)) pt ps fun p _ => ⟨_, rfl, by
    have e : D.eqb (pt p) (pt a) = decide (p = a) := eqb_pt p a
    have f (x : P) : D.fit 60 (pt x) = true := fit_pt x
    simp only [x_cmp, x_op, x_var, x_gN, List.set_set, g, List.getElem?_set_ne (show 14 ≠ 3 by decide), h.d3, bind_ok, h_ne (f p) (f a), of_some, e]
    simp, by simp [g]⟩
  simp [h.d2, hl, q]
theorem fit_ptL (k : Nat) (xs : List P) : D.fit (k + 2) (.lst (xs.map pt)) = true := by
  rw [fit_lst]
  exact fits_map _ (fun x => fit_pt x) _
theorem eqbs_pt (xs ys : List P) : D.eqbs (xs.map pt) (ys.map pt) = decide (xs = ys) := eqbs_map pt eqb_pt xs ys
section
variable (h : E1 ps a b c env) (ha : Sm a) (hr : ∀ p ∈ rest, Sm p ∧ p ≠ a) (hl : rest.length ≤ 1000) (h12 : env[12]? = some (.v (.lst (rest.map pt))))
include h ha hr hl h12
theorem l7 (h13 : env[13]? = some (.v (.tup ((rnd a rest).map pt)))) : s_law_7 env st = .nx env st := by
  have hp := rnd_perm a rest
  have hm (p : P) (z : p ∈ rnd a rest) : Sm p ∧ p ≠ a := hr p (hp.mem_iff.mp z)
  have hn : (rnd a rest).length ≤ 100000 := by rw [hp.length_eq]; omega
  have hn2 : rest.length ≤ 100000 := by omega
  have g24 (x y : Sl) : ((env.set 24 x).set 25 y)[24]? = some x := by rw [List.getElem?_set_ne (by decide)]; exact set_g (by rw [h.len]; omega)
  have g25 (x y : Sl) : ((env.set 24 x).set 25 y)[25]? = some y := set_g (by rw [List.length_set, h.len]; omega)
  have g3 (x y : Sl) : ((env.set 24 x).set 25 y)[3]? = some (.v (pt a)) := by rw [List.getElem?_set_ne (by decide), List.getElem?_set_ne (by decide), h.d3]
  have lc := lc_pure (env := (env.set 25 .un).set 24 .un) (st := st) (t := gT [gN 24, gN 25]) (c := (tVal (eCallD f__law_ahead [] (aCons (eVar 3) (aCons (eVar 25) (aCons (eVar 24) (aNil))))))) (e := (eC (.int 1))) pr2 (fun p => lah a p.2 p.1) (fun _ => .int 1)
    ((rnd a rest).zip ((rnd a rest).drop 1)) fun p hp => ⟨(env.set 24 (.v (pt p.1))).set 25 (.v (pt p.2)), by
      simp only [pr2, x_gT, x_gAll, x_gN, Option.bind_some, x_gAll0]
      congr 1
      rw [List.set_set, List.set_comm _ _ (show 25 ≠ 24 by decide), List.set_set], by
      obtain ⟨m1, m2⟩ := List.of_mem_zip hp
      have m2 := List.mem_of_mem_drop m2
      simp [g24, g25, g3, r_lah ha (hm _ m2).1 (hm _ m1).1], fun _ => rfl⟩
  have e0 : ((rnd a rest).zip ((rnd a rest).drop 1)).filter (fun p => lah a p.2 p.1) = [] := by
    rw [List.filter_eq_nil_iff]
    intro p hp
    obtain ⟨m1, m2⟩ := List.of_mem_zip hp
    have m2 := List.mem_of_mem_drop m2
    rw [← tah_lah (hm _ m2).2 (hm _ m1).2, rnd_zip a rest p hp]
    simp
  rw [e0] at lc
  have ez := zip_map2 pt pt (rnd a rest) ((rnd a rest).drop 1)
  have ec : cutD ((rnd a rest).map pt) (some (1 : Int)) none = ((rnd a rest).drop 1).map pt := by have := cut_lo ((rnd a rest).map pt) 1; rw [List.map_drop]; simpa using this
  have el : ((rnd a rest).zip ((rnd a rest).drop 1)).length ≤ 100000 := by rw [List.length_zip]; omega
  have s1 (st) := h_sortedT (st := st) hn
  have s2 (st) := h_sortedL (st := st) hn2
  have e1 : D.eqb (.lst (((rnd a rest).mergeSort ptLe).map pt)) (.lst ((rest.mergeSort ptLe).map pt)) = true := by rw [eqb_lst, eqbs_pt, sort_perm hp]; simp
  have f1 : D.fit 60 (.lst (((rnd a rest).mergeSort ptLe).map pt)) = true := fit_ptL 58 _
  have f2 : D.fit 60 (.lst ((rest.mergeSort ptLe).map pt)) = true := fit_ptL 58 _
  have c1 (st) : hNe st (.lst (((rnd a rest).mergeSort ptLe).map pt)) (.lst ((rest.mergeSort ptLe).map pt)) = some (.bl false) := by rw [h_ne f1 f2, e1]; rfl
  simp only [s_law_7, x_sif, x_or2, x_cmp, x_op, x_n, x_cons, x_nil, x_var, h13, h12, bind_ok, s1, s2, of_some, c1, ofR_ok, x_lc, x_zip, x_sl, x_some, x_none, x_c, sl_tup, ec, x_pureT, ez, List.length_map, el, if_true, x_wipe, x_wipe0, lc, List.map_nil, x_lst, List.length_nil]
  simp [h_ne]
theorem l8 : s_law_8 env st = .nx env st := by
  have hn2 : rest.length ≤ 100000 := by omega
  have g24 (x y : Sl) : ((env.set 24 x).set 25 y)[24]? = some x := by rw [List.getElem?_set_ne (by decide)]; exact set_g (by rw [h.len]; omega)
  have g25 (x y : Sl) : ((env.set 24 x).set 25 y)[25]? = some y := set_g (by rw [List.length_set, h.len]; omega)
  have g3 (x y : Sl) : ((env.set 24 x).set 25 y)[3]? = some (.v (pt a)) := by rw [List.getElem?_set_ne (by decide), List.getElem?_set_ne (by decide), h.d3]
  have lc1 := lc_map (env := (env.set 25 .un).set 24 .un) (st := st) (t := gT [gN 24, gN 25]) (e := (eCallD f_turns_ahead [] (aCons (eVar 3) (aCons (eVar 24) (aCons (eVar 25) (aNil)))))) pr2 (fun p => .bl (tah a p.1 p.2))
    (rest.zip (rest.drop 1)) fun p hp => ⟨(env.set 24 (.v (pt p.1))).set 25 (.v (pt p.2)), by
      simp only [pr2, x_gT, x_gAll, x_gN, Option.bind_some, x_gAll0]
      congr 1
      rw [List.set_set, List.set_comm _ _ (show 25 ≠ 24 by decide), List.set_set], by
      obtain ⟨m1, m2⟩ := List.of_mem_zip hp
      have m2 := List.mem_of_mem_drop m2
      simp [g24, g25, g3, r_tah ha (hr _ m1).1 (hr _ m2).1 (hr _ m1).2 (hr _ m2).2]⟩
  have lc2 := lc_map (env := (env.set 25 .un).set 24 .un) (st := st) (t := gT [gN 24, gN 25]) (e := (eCallD f__law_ahead [] (aCons (eVar 3) (aCons (eVar 24) (aCons (eVar 25) (aNil)))))) pr2 (fun p => .bl (tah a p.1 p.2))
    (rest.zip (rest.drop 1)) fun p hp => ⟨(env.set 24 (.v (pt p.1))).set 25 (.v (pt p.2)), by
      simp only [pr2, x_gT, x_gAll, x_gN, Option.bind_some, x_gAll0]
      congr 1
      rw [List.set_set, List.set_comm _ _ (show 25 ≠ 24 by decide), List.set_set], by
      obtain ⟨m1, m2⟩ := List.of_mem_zip hp
      have m2 := List.mem_of_mem_drop m2
      simp [g24, g25, g3, r_lah ha (hr _ m1).1 (hr _ m2).1, tah_lah (hr _ m1).2 (hr _ m2).2]⟩
  have ez := zip_map2 pt pt rest (rest.drop 1)
  have ec : cutD (rest.map pt) (some (1 : Int)) none = (rest.drop 1).map pt := by have := cut_lo (rest.map pt) 1; rw [List.map_drop]; simpa using this
  have el : (rest.zip (rest.drop 1)).length ≤ 100000 := by rw [List.length_zip]; omega
  have f1 : D.fit 60 (.lst ((rest.zip (rest.drop 1)).map fun p => .bl (tah a p.1 p.2))) = true := by rw [fit_lst]; exact fits_map _ (fun x => fit_bl _) _
  have c1 (st) := ne_self (st := st) f1
  simp only [s_law_8, x_sif, x_cmp, x_op, x_n, x_cons, x_nil, x_var, h12, bind_ok, of_some, ofR_ok, x_lc, x_zip, x_sl, x_some, x_none, x_c, sl_lst, ec, x_pureL, ez, List.length_map, el, if_true, x_wipe, x_wipe0, lc1, lc2, c1]
  simp
theorem l9 : s_law_9 env st = .nx env st := by
  have hn2 : rest.length ≤ 100000 := by omega
  have g (y : Sl) : (env.set 14 y)[14]? = some y := set_g (by rw [h.len]; omega)
  have lc1 := lc_map (env := env.set 14 .un) (st := st) (t := gN 14) (e := (eCallD f_half_of [] (aCons (eVar 14) (aCons (eVar 3) (aNil))))) pt (fun p => .int (hf p a)) rest fun p hp => ⟨_, rfl, by
    simp [g, h.d3, r_half (hr p hp).2]⟩
  have lc2 := lc_map (env := env.set 14 .un) (st := st) (t := gN 14) (e := (eN hInt (aCons (eOp (hGt) (eCallD f__law_quarter [] (aCons (eVar 3) (aCons (eVar 14) (aNil)))) (eC (.int 3))) (aNil)))) pt (fun p => .int (hf p a)) rest fun p hp => ⟨_, rfl, by
    have e := hz_qz _ _ (ne_zero (hr p hp).2)
    rw [← hf_hz, ← qr_qz] at e
    simp [g, h.d3, r_qr, e]⟩
  have f1 : D.fit 60 (.lst (rest.map fun p => .int (hf p a))) = true := by rw [fit_lst]; exact fits_map _ (fun x => fit_int) _
  have c1 (st) := ne_self (st := st) f1
  simp only [s_law_9, x_sif, x_cmp, x_op, x_var, h12, bind_ok, of_some, ofR_ok, x_lc, x_it, x_itL, List.length_map, hn2, if_true, x_wipe, x_wipe0, lc1, lc2, c1]
  simp
end
end K01

set_option Elab.async false
set_option linter.all false
set_option maxRecDepth 100000
set_option maxHeartbeats 1000000
namespace K01
open PySem DV
variable {st : List O} {env : List Sl} {ps rest : List P} {a b c : P}
def onk (a b p : P) (k : Nat) : Bool := decide (16 * p.1 - 16 * a.1 = (b.1 - a.1) * (0 + (k : Nat) : Int)) && decide (16 * p.2 - 16 * a.2 = (b.2 - a.2) * (0 + (k : Nat) : Int))
theorem mul_bd {d k : Int} (h0 : 0 ≤ k) (h1 : k ≤ 16) : (0 ≤ d → 0 ≤ d * k ∧ d * k ≤ 16 * d) ∧ (d ≤ 0 → 16 * d ≤ d * k ∧ d * k ≤ 0) := by
  constructor
  · intro h
    have := Int.mul_nonneg h h0
    have := Int.mul_le_mul_of_nonneg_left h1 h
    omega
  · intro h
    have := Int.mul_nonneg (show 0 ≤ -d by omega) h0
    have := Int.mul_le_mul_of_nonneg_left h1 (show 0 ≤ -d by omega)
    rw [Int.neg_mul] at *
    omega
theorem on_btw {a b p : P} {k : Nat} (hk : k < 17) (h : onk a b p k = true) : btw a b p = true := by
  unfold onk at h
  rw [Bool.and_eq_true, decide_eq_true_eq, decide_eq_true_eq, Int.zero_add] at h
  obtain ⟨h1, h2⟩ := h
  have b1 := mul_bd (d := b.1 - a.1) (k := (k : Int)) (by omega) (by omega)
  have b2 := mul_bd (d := b.2 - a.2) (k := (k : Int)) (by omega) (by omega)
  have c0 : cr a b p = 0 := by
    have : 16 * cr a b p = 0 := by
      unfold cr
      have e1 : 16 * (p.1 - a.1) = (b.1 - a.1) * k := by omega
      have e2 : 16 * (p.2 - a.2) = (b.2 - a.2) * k := by omega
      grind
    omega
  unfold btw
  simp only [Bool.and_eq_true, decide_eq_true_eq, sg_zero, c0, true_and]
  omega
abbrev mk3 (env : List Sl) (t : Sl × Sl × Sl) : List Sl := ((env.set 14 t.1).set 15 t.2.1).set 16 t.2.2
theorem mk3_ex (hl : env.length = 30) : ∃ t, env = mk3 env t := ⟨(env[14], env[15], env[16]), by simp only [mk3, List.set_getElem_self]⟩
abbrev lbody : SF := sSeq s_law_10 (sSeq s_law_11 s_law_12)
theorem lloop (h : E1 ps a b c env) (ha : Sm a) (hb : Sm b) {p : P} (hp : Sm p) (t : Sl × Sl × Sl) : ∃ t', lbody ((mk3 env t).set 14 (.v (pt p))) st = .nx (mk3 env t') st := by
  have e0 : (mk3 env t).set 14 (.v (pt p)) = mk3 env (.v (pt p), t.2.1, t.2.2) := by
    unfold mk3
    rw [List.set_comm _ _ (show 16 ≠ 14 by decide), List.set_comm _ _ (show 15 ≠ 14 by decide), List.set_set]
  rw [e0]
  have hl := h.len
  have g14 (t : Sl × Sl × Sl) : (mk3 env t)[14]? = some t.1 := by
    rw [List.getElem?_set_ne (by decide), List.getElem?_set_ne (by decide)]
    exact set_g (by omega)
  have s15 (t : Sl × Sl × Sl) (y : Sl) : (mk3 env t).set 15 y = mk3 env (t.1, y, t.2.2) := by
    unfold mk3
    rw [List.set_comm _ _ (show 16 ≠ 15 by decide), List.set_set]
  have s16 (t : Sl × Sl × Sl) (y : Sl) : (mk3 env t).set 16 y = mk3 env (t.1, t.2.1, y) := by
    unfold mk3
    rw [List.set_set]
  have g15 (t : Sl × Sl × Sl) : (mk3 env t)[15]? = some t.2.1 := by
    rw [List.getElem?_set_ne (by decide)]
    exact set_g (by rw [List.length_set]; omega)
  have g16 (t : Sl × Sl × Sl) : (mk3 env t)[16]? = some t.2.2 := set_g (by rw [List.length_set, List.length_set]; omega)
  have e1 (t : Sl × Sl × Sl) : E1 ps a b c (mk3 env t) := ((h.set (by omega)).set (by omega)).set (by omega)
  have g27 (t : Sl × Sl × Sl) (y : Sl) : ((mk3 env t).set 27 y)[27]? = some y := set_g (by simp; omega)
  have g27' (t : Sl × Sl × Sl) (y : Sl) : ((mk3 env t).set 27 y)[14]? = some t.1 := by rw [List.getElem?_set_ne (by decide), g14]
  have lc := lc_pure (env := (mk3 env (.v (pt p), t.2.1, t.2.2)).set 27 .un) (st := st) (t := gN 27) (c := (tCmpD (hEq) (eTup (aCons (eOp hSub (eOp hMul (eC (.int 16)) (eOp hIx (eVar 14) (eC (.int 0)))) (eOp hMul (eC (.int 16)) (eOp hIx (eVar 3) (eC (.int 0))))) (aCons (eOp hSub (eOp hMul (eC (.int 16)) (eOp hIx (eVar 14) (eC (.int 1)))) (eOp hMul (eC (.int 16)) (eOp hIx (eVar 3) (eC (.int 1))))) (aNil)))) (eTup (aCons (eOp hMul (eOp hSub (eOp hIx (eVar 4) (eC (.int 0))) (eOp hIx (eVar 3) (eC (.int 0)))) (eVar 27)) (aCons (eOp hMul (eOp hSub (eOp hIx (eVar 4) (eC (.int 1))) (eOp hIx (eVar 3) (eC (.int 1)))) (eVar 27)) (aNil))))))
    (e := eVar 27) (fun k : Nat => D.int (0 + (k : Nat))) (onk a b p) (fun k => D.int (0 + (k : Nat))) (List.range 17) fun k hk => ⟨_, rfl, by
      have d3 (y : Sl) : ((mk3 env (.v (pt p), t.2.1, t.2.2)).set 27 y)[3]? = some (.v (pt a)) := ((e1 _).set (by omega)).d3
      have d4 (y : Sl) : ((mk3 env (.v (pt p), t.2.1, t.2.2)).set 27 y)[4]? = some (.v (pt b)) := ((e1 _).set (by omega)).d4
      unfold Sm at ha hb hp
      simp only [x_cmp, x_op, x_tup, x_cons, x_nil, x_var, x_c, x_gN, List.set_set, g27, g27', d3, d4, bind_ok]
      simp (disch := omega) only [ix_tup, at_0, at_1, of_some, bind_ok, h_mul_l, h_sub, List.length_cons, List.length_nil, g_0]
      simp [h_eq, onk], by simp only [x_gN, List.set_set, x_var, g27]; simp⟩
  have hf : f_is_between [pt a, pt b, pt p] st = .ok (.bl (btw a b p)) st := r_btw ha hb hp
  have n10 : s_law_10 (mk3 env (.v (pt p), t.2.1, t.2.2)) st = .nx (mk3 env (.v (pt p), .v (.lst (((List.range 17).filter (onk a b p)).map fun k => D.int (0 + (k : Nat)))), t.2.2)) st := by
    have i1 : inRg 0 = true := by decide
    have i2 : inRg 17 = true := by decide
    simp only [s_law_10, x_set, x_lc, x_rg2, x_cons, x_c, x_nil, bind_ok, i1, i2, Bool.and_self, if_true, up_map, x_wipe, x_wipe0, show ((17 : Int) - 0).toNat = 17 from rfl, List.length_map, List.length_range]
    rw [if_pos (by omega), lc]
    simp only [bind_ok, ofR_ok, s15]
  have n11 (y : Sl) : s_law_11 (mk3 env (.v (pt p), y, t.2.2)) st = .nx (mk3 env (.v (pt p), y, .v (.bl (btw a b p)))) st := by
    have z := sg_zero (cr a b p)
    simp only [s_law_11, x_set, x_and, x_op, x_call, x_cons, x_nil, x_var, g14, (e1 _).d3, (e1 _).d4, bind_ok, x_c]
    simp only [List.append_nil, r_turn ha hb hp, x_chain, x_n, x_cons, x_nil, x_op, x_var, g14, (e1 _).d3, (e1 _).d4, bind_ok, x_c, ix_tup, at_0, at_1, of_some, h_min2, h_max2, h_eqi, h_le, cO_bl, cB_bl]
    have k : ∀ (P1 P2 P3 P4 P5 : Prop) [Decidable P1] [Decidable P2] [Decidable P3] [Decidable P4] [Decidable P5], (RS.ofR (if decide P1 = true then (if decide P2 = true then R.ok (D.bl (decide P3)) st else R.ok (D.bl false) st).bind fun d st1 => cB d (if decide P4 = true then R.ok (D.bl (decide P5)) st1 else R.ok (D.bl false) st1) (R.ok (D.bl false) st1) R.bad else R.ok (D.bl false) st) fun v st => RS.nx ((mk3 env (.v (pt p), y, t.2.2)).set 16 (.v v)) st) = .nx (mk3 env (.v (pt p), y, .v (.bl (decide P1 && (decide P2 && decide P3 && (decide P4 && decide P5)))))) st := by
      intro P1 P2 P3 P4 P5 _ _ _ _ _
      by_cases h1 : P1 <;> by_cases h2 : P2 <;> by_cases h3 : P3 <;> by_cases h4 : P4 <;> by_cases h5 : P5 <;> simp [h1, h2, h3, h4, h5, s16]
    refine (k _ _ _ _ _).trans ?_
    unfold btw
    simp only [z]
  refine ⟨(.v (pt p), .v (.lst (((List.range 17).filter (onk a b p)).map fun k => D.int (0 + (k : Nat)))), .v (.bl (btw a b p))), ?_⟩
  rw [lbody, seq_nx n10, seq_nx (n11 _)]
  have fl : D.fit 60 (.lst (((List.range 17).filter (onk a b p)).map fun k => D.int (0 + (k : Nat)))) = true := by rw [fit_lst]; exact fits_map _ (fun x => fit_int) _
  have fb (b : Bool) : D.fit 60 (.bl b) = true := fit_bl b
  have f0 : D.fit 60 (.lst []) = true := by rw [fit_lst]; exact fits_nil
  cases q : (List.range 17).filter (onk a b p) with
  | nil =>
    rw [q] at fl
    simp [s_law_12, (e1 _).d3, (e1 _).d4, g14, g15, g16, r_btw ha hb hp, ne_self (fb _), ne_self f0, ne_self]
  | cons k r =>
    have hk : k ∈ (List.range 17).filter (onk a b p) := by rw [q]; exact List.mem_cons_self
    have bt := on_btw (List.mem_range.mp (List.mem_filter.mp hk).1) (List.mem_filter.mp hk).2
    rw [q] at fl
    have k12 : ∀ y ys, D.fit 60 (.lst (y :: ys)) = true → s_law_12 (mk3 env (.v (pt p), .v (.lst (y :: ys)), .v (.bl (btw a b p)))) st = .nx (mk3 env (.v (pt p), .v (.lst (y :: ys)), .v (.bl (btw a b p)))) st := by
      intro y ys fl
      simp [s_law_12, (e1 _).d3, (e1 _).d4, g14, g15, g16, r_btw ha hb hp, ne_self (fb _), h_ne fl f0, bt]
    exact k12 _ _ fl
end K01

set_option Elab.async false
set_option linter.all false
set_option maxRecDepth 100000
set_option maxHeartbeats 1000000
namespace K01
open PySem DV
variable {st : List O} {env : List Sl} {ps rest : List P} {a b c : P}
abbrev boxD (ps : List P) : D := bx (bxl ps) (bxb ps) (bxr ps) (bxt ps)
abbrev meanD (ps : List P) : D := .tup [pt (br (ps.map Prod.fst).sum ps.length), pt (br (ps.map Prod.snd).sum ps.length)]
section
variable (h : E1 ps a b c env) (h0 : ps ≠ []) (hl : ps.length ≤ 1000)
include h h0 hl
theorem lx : eLc (aIt (eVar 2)) (gN 28) tYes1 (eOp hIx (eVar 28) (eC (.int 0))) [28] env st = .ok (.lst ((ps.map Prod.fst).map .int)) st := by
  have g (y : Sl) : (env.set 28 y)[28]? = some y := set_g (by rw [h.len]; omega)
  have lc := lc_map (env := env.set 28 .un) (st := st) (t := gN 28) (e := eOp hIx (eVar 28) (eC (.int 0))) pt (fun p => .int p.1) ps fun p _ => ⟨_, rfl, by simp [g]⟩
  simp [h.d2, show ps.length ≤ 100000 by omega, lc]
theorem ly : eLc (aIt (eVar 2)) (gN 28) tYes1 (eOp hIx (eVar 28) (eC (.int 1))) [28] env st = .ok (.lst ((ps.map Prod.snd).map .int)) st := by
  have g (y : Sl) : (env.set 28 y)[28]? = some y := set_g (by rw [h.len]; omega)
  have lc := lc_map (env := env.set 28 .un) (st := st) (t := gN 28) (e := eOp hIx (eVar 28) (eC (.int 1))) pt (fun p => .int p.2) ps fun p _ => ⟨_, rfl, by simp [g]⟩
  simp [h.d2, show ps.length ≤ 100000 by omega, lc]
theorem l13 : s_law_13 env st = .nx (env.set 17 (.v (boxD ps))) st := by
  have n1 : ps.map Prod.fst ≠ [] := by simpa using h0
  have n2 : ps.map Prod.snd ≠ [] := by simpa using h0
  have x1 (st) := lx (st := st) h h0 hl
  have x2 (st) := ly (st := st) h h0 hl
  have m1 := fun st => h_minL (st := st) n1
  have m2 := fun st => h_minL (st := st) n2
  have m3 := fun st => h_maxL (st := st) n1
  have m4 := fun st => h_maxL (st := st) n2
  simp only [s_law_13, x_set, x_tup, x_cons, x_n, x_nil, x1, x2, m1, m2, m3, m4, bind_ok, of_some, List.length_cons, List.length_nil, ofR_ok]
  rfl
theorem l14 : s_law_14 env st = .nx (env.set 18 (.v (meanD ps))) st := by
  have l1 : ¬ ps.length = 0 := fun z => h0 (List.length_eq_zero_iff.mp z)
  have x1 (st) := lx (st := st) h h0 hl
  have x2 (st) := ly (st := st) h h0 hl
  have s1 (ns : List Int) (st) := h_sum (st := st) (ns := ns)
  have b1 (t : Int) (st) := r_low (st := st) (t := t) (b := ps.length) (by omega) (by omega) (by omega)
  simp only [s_law_14, x_set, x_tup, x_cons, x_n, x_nil, x1, x2, s1, x_call, x_var, h.d2, len_map, List.append_nil, b1, bind_ok, of_some, List.length_cons, List.length_nil, ofR_ok]
  rfl
theorem l14b (hs : ∀ p ∈ ps, Sm p) (h17 : env[17]? = some (.v (boxD ps))) (h18 : env[18]? = some (.v (meanD ps))) : (sIf (tOr2 (tCmpD (hNe) (eCallD f_box_of [] (aCons (eVar 2) (aNil))) (eVar 17)) (tCmpD (hNe) (eCallD f_middle_of [] (aCons (eVar 2) (aNil))) (eVar 18))) (sRet (eC (.bl false))) (sNx)) env st = .nx env st := by
  have f1 : D.fit 60 (boxD ps) = true := by simp
  have f2 : D.fit 60 (meanD ps) = true := by simp
  have b1 (st) := r_box (st := st) h0 (by omega : ps.length ≤ 100000)
  have b2 (st) := r_mid (st := st) h0 (by omega : ps.length ≤ 100000) hs
  simp only [x_sif, x_or2, x_cmp, x_op, x_call, x_cons, x_nil, x_var, h.d2, h17, h18, bind_ok, List.append_nil, b1, b2, ne_self f1, ne_self f2, of_some, ofR_ok]
  simp
end
/-! another box -/
def sh (l d r t l' d' r' t' : Int) : List P := board.filter fun p => inb l d r t p && inb l' d' r' t' p
theorem mem_board {p : P} (h : Dr p) : p ∈ board := by
  unfold Dr at h
  unfold board
  refine List.mem_flatMap.mpr ⟨(p.1 + 3).toNat, List.mem_range.mpr (by omega), List.mem_map.mpr ⟨(p.2 + 3).toNat, List.mem_range.mpr (by omega), Prod.ext ?_ ?_⟩⟩ <;> dsimp only <;> omega
theorem board_mem : ∀ p ∈ board, Dr p := by unfold Dr; decide +kernel
/-- a box as drawn -/
def Bx (l d r t : Int) : Prop := -3 ≤ l ∧ l ≤ r ∧ r ≤ 5 ∧ -3 ≤ d ∧ d ≤ t ∧ t ≤ 5
theorem meet_sh {l d r t l' d' r' t' : Int} (h1 : Bx l d r t) (h2 : Bx l' d' r' t') : meet l d r t l' d' r' t' = !decide (sh l d r t l' d' r' t' = []) := by
  unfold Bx at *
  cases q : meet l d r t l' d' r' t' with
  | true =>
    unfold meet at q
    simp only [Bool.and_eq_true, decide_eq_true_eq] at q
    have : (max l l', max d d') ∈ sh l d r t l' d' r' t' := by
      refine List.mem_filter.mpr ⟨mem_board (by unfold Dr; dsimp only; omega), ?_⟩
      unfold inb
      simp only [Bool.and_eq_true, decide_eq_true_eq]
      omega
    have ne : sh l d r t l' d' r' t' ≠ [] := List.ne_nil_of_mem this
    simp [ne]
  | false =>
    have : sh l d r t l' d' r' t' = [] := by
      refine List.filter_eq_nil_iff.mpr fun p _ z => ?_
      unfold inb at z
      unfold meet at q
      simp only [Bool.and_eq_true, decide_eq_true_eq] at z
      simp only [Bool.and_eq_false_iff, decide_eq_false_iff_not] at q
      omega
    simp [this]
theorem box_ok (ps : List P) (h0 : ps ≠ []) (h : ∀ p ∈ ps, Dr p) : Bx (bxl ps) (bxb ps) (bxr ps) (bxt ps) := by
  have n1 : ps.map Prod.fst ≠ [] := by simpa using h0
  have n2 : ps.map Prod.snd ≠ [] := by simpa using h0
  obtain ⟨p1, m1, e1⟩ := List.mem_map.mp (mn_mem n1)
  obtain ⟨p2, m2, e2⟩ := List.mem_map.mp (mn_mem n2)
  obtain ⟨p3, m3, e3⟩ := List.mem_map.mp (mx_mem n1)
  obtain ⟨p4, m4, e4⟩ := List.mem_map.mp (mx_mem n2)
  have q1 := mn_le (List.mem_map_of_mem (f := Prod.fst) m3)
  have q2 := mn_le (List.mem_map_of_mem (f := Prod.snd) m4)
  have d1 := h p1 m1
  have d2 := h p2 m2
  have d3 := h p3 m3
  have d4 := h p4 m4
  unfold Dr at *
  unfold Bx bxl bxb bxr bxt
  omega
theorem lother (h : E1 ps a b c env) (s : Dc) : ∃ p q s', (sSet 19 (eCallD f_box_of [] (aCons (eLst (aCons (eCallD f__law_point [] (aCons (eVar 1) (aNil))) (aCons (eCallD f__law_point [] (aCons (eVar 1) (aNil))) (aNil)))) (aNil)))) env (dO s) = .nx (env.set 19 (.v (boxD [p, q]))) (dO s') ∧ Dr p ∧ Dr q := by
  obtain ⟨p, s1, h1, d1⟩ := r_point s
  obtain ⟨q, s2, h2, d2⟩ := r_point s1
  have b1 := r_box (st := dO s2) (ps := [p, q]) (by simp) (by simp)
  simp only [List.map_cons, List.map_nil] at b1
  refine ⟨p, q, s2, ?_, d1, d2⟩
  simp only [x_set, x_call, x_cons, x_nil, x_lst, x_var, h.d1, bind_ok, List.append_nil, h1, h2, List.length_cons, List.length_nil]
  rw [if_pos (by omega)]
  simp only [bind_ok, List.append_nil, List.nil_append, b1, ofR_ok]
theorem lmeet {l d r t l' d' r' t' : Int} (h1 : Bx l d r t) (h2 : Bx l' d' r' t') (h17 : env[17]? = some (.v (bx l d r t))) (h19 : env[19]? = some (.v (bx l' d' r' t'))) (h20 : env[20]? = some (.v (.lst ((sh l d r t l' d' r' t').map pt)))) :
    (sIf (tCmpD (hNe) (eCallD f_boxes_meet [] (aCons (eVar 17) (aCons (eVar 19) (aNil)))) (eOp (hNe) (eVar 20) (eLst (aNil)))) (sRet (eC (.bl false))) (sNx)) env st = .nx env st := by
  have f1 : D.fit 60 (.lst ((sh l d r t l' d' r' t').map pt)) = true := fit_ptL 58 _
  have f2 : D.fit 60 (.lst []) = true := by rw [fit_lst]; exact fits_nil
  have e := eqbs_pt (sh l d r t l' d' r' t') []
  have fb (b : Bool) : D.fit 60 (.bl b) = true := fit_bl b
  rw [List.map_nil] at e
  have m := meet_sh h1 h2
  simp only [x_sif, x_cmp, x_op, x_call, x_cons, x_nil, x_lst, x_var, h17, h19, h20, bind_ok, List.append_nil, List.cons_append, List.nil_append, r_meet, List.length_nil]
  rw [if_pos (by omega)]
  simp only [bind_ok, h_ne f1 f2, eqb_lst, e, of_some, m, ne_self (fb _), ofR_ok]
  simp
end K01

set_option Elab.async false
set_option linter.all false
set_option maxRecDepth 100000
set_option maxHeartbeats 1000000
namespace K01
open PySem DV
variable {st : List O} {env : List Sl} {ps rest : List P} {a b c : P}
theorem grid0 : ((List.range 17).all fun i => (List.range 17).all fun j => (List.range 17).all fun u => (List.range 17).all fun v =>
    !(decide (((i : Nat) - 8 : Int) * ((v : Nat) - 8) = ((j : Nat) - 8 : Int) * ((u : Nat) - 8)) && (decide (min 0 ((i : Nat) - 8 : Int) ≤ ((u : Nat) - 8)) && (decide (((u : Nat) - 8) ≤ max 0 ((i : Nat) - 8 : Int)) && (decide (min 0 ((j : Nat) - 8 : Int) ≤ ((v : Nat) - 8)) && decide (((v : Nat) - 8) ≤ max 0 ((j : Nat) - 8 : Int)))))) ||
    (List.range (Int.gcd ((i : Nat) - 8) ((j : Nat) - 8) + 1)).any fun k => decide (((u : Nat) - 8 : Int) = ((i : Nat) - 8) / (Int.gcd ((i : Nat) - 8) ((j : Nat) - 8) : Nat) * (k : Nat)) && decide (((v : Nat) - 8 : Int) = ((j : Nat) - 8) / (Int.gcd ((i : Nat) - 8) ((j : Nat) - 8) : Nat) * (k : Nat))) = true := by decide +kernel
theorem grid {x y u v : Int} (hx : -8 ≤ x ∧ x ≤ 8) (hy : -8 ≤ y ∧ y ≤ 8) (e : x * v = y * u) (hu : min 0 x ≤ u ∧ u ≤ max 0 x) (hv : min 0 y ≤ v ∧ v ≤ max 0 y) : ∃ k, k < Int.gcd x y + 1 ∧ u = x / (Int.gcd x y : Nat) * (k : Nat) ∧ v = y / (Int.gcd x y : Nat) * (k : Nat) := by
  have g := grid0
  have r (z : Int) (h : -8 ≤ z ∧ z ≤ 8) : (z + 8).toNat ∈ List.range 17 := List.mem_range.mpr (by omega)
  have c (z : Int) (h : -8 ≤ z ∧ z ≤ 8) : (((z + 8).toNat : Nat) - 8 : Int) = z := by omega
  have hu' : -8 ≤ u ∧ u ≤ 8 := by omega
  have hv' : -8 ≤ v ∧ v ≤ 8 := by omega
  have g1 := List.all_eq_true.mp (List.all_eq_true.mp (List.all_eq_true.mp (List.all_eq_true.mp g _ (r x hx)) _ (r y hy)) _ (r u hu')) _ (r v hv')
  simp only [c x hx, c y hy, c u hu', c v hv'] at g1
  simp only [Bool.or_eq_true, Bool.not_eq_true', Bool.and_eq_false_iff, decide_eq_false_iff_not, List.any_eq_true, Bool.and_eq_true, decide_eq_true_eq, List.mem_range] at g1
  rcases g1 with g1 | g1
  · exfalso
    omega
  · exact g1
def stF (a b : P) : List P := board.filter fun p => decide (cr a b p = 0) && inb (min a.1 b.1) (min a.2 b.2) (max a.1 b.1) (max a.2 b.2) p
theorem board_sorted : board.Pairwise fun p q => ptLe p q = true := by decide +kernel
theorem board_nodup : board.Nodup := by decide +kernel
theorem div_g {x : Int} {g : Nat} (hg : 0 < g) (h : (g : Int) ∣ x) : x / (g : Int) * (g : Int) = x := Int.ediv_mul_cancel h
theorem st_bd {x : Int} {g k : Nat} (hg : 0 < g) (h : (g : Int) ∣ x) (hk : k ≤ g) : min 0 x ≤ x / (g : Int) * (k : Int) ∧ x / (g : Int) * (k : Int) ≤ max 0 x := by
  have e := div_g hg h
  rcases Int.le_total 0 (x / (g : Int)) with q | q
  · have := Int.mul_le_mul_of_nonneg_left (show (k : Int) ≤ (g : Int) by omega) q
    have := Int.mul_nonneg q (show (0 : Int) ≤ (k : Int) by omega)
    omega
  · have := Int.mul_le_mul_of_nonneg_left (show (k : Int) ≤ (g : Int) by omega) (show 0 ≤ -(x / (g : Int)) by omega)
    have := Int.mul_nonneg (show 0 ≤ -(x / (g : Int)) by omega) (show (0 : Int) ≤ (k : Int) by omega)
    rw [Int.neg_mul] at *
    rw [Int.neg_mul] at *
    omega
theorem st_mem (ha : Dr a) (hb : Dr b) (p : P) : p ∈ stp a b ↔ p ∈ stF a b := by
  by_cases q : a = b
  · subst q
    unfold stp stF
    rw [if_pos rfl, List.mem_singleton, List.mem_filter]
    unfold inb
    constructor
    · rintro rfl
      refine ⟨mem_board ha, ?_⟩
      simp [cr]
    · rintro ⟨_, z⟩
      simp only [Bool.and_eq_true, decide_eq_true_eq] at z
      exact Prod.ext (by omega) (by omega)
  · have q2 : ¬ (b.1 - a.1 = 0 ∧ b.2 - a.2 = 0) := fun ⟨x, y⟩ => q (Prod.ext (by omega) (by omega))
    have g0 := (gcd_bd q2 (by unfold Dr at ha hb; omega) (by unfold Dr at ha hb; omega)).1
    have d1 : ((Int.gcd (b.1 - a.1) (b.2 - a.2) : Nat) : Int) ∣ b.1 - a.1 := Int.gcd_dvd_left _ _
    have d2 : ((Int.gcd (b.1 - a.1) (b.2 - a.2) : Nat) : Int) ∣ b.2 - a.2 := Int.gcd_dvd_right _ _
    unfold stp stF
    rw [if_neg q, List.mem_map, List.mem_filter]
    unfold inb
    constructor
    · rintro ⟨k, hk, rfl⟩
      have hk := List.mem_range.mp hk
      have b1 := st_bd g0 d1 (k := k) (by omega)
      have b2 := st_bd g0 d2 (k := k) (by omega)
      refine ⟨mem_board ?_, ?_⟩
      · unfold Dr at *
        dsimp only
        omega
      · simp only [Bool.and_eq_true, decide_eq_true_eq]
        refine ⟨?_, by omega⟩
        unfold cr
        dsimp only
        have e1 := div_g g0 d1
        have e2 := div_g g0 d2
        generalize (b.1 - a.1) / (Int.gcd (b.1 - a.1) (b.2 - a.2) : Nat) = X at *
        generalize (b.2 - a.2) / (Int.gcd (b.1 - a.1) (b.2 - a.2) : Nat) = Y at *
        generalize (Int.gcd (b.1 - a.1) (b.2 - a.2) : Int) = G at *
        rw [← e1, ← e2]
        grind
    · rintro ⟨_, z⟩
      simp only [Bool.and_eq_true, decide_eq_true_eq] at z
      have hc : (b.1 - a.1) * (p.2 - a.2) = (b.2 - a.2) * (p.1 - a.1) := by have := z.1; unfold cr at this; omega
      unfold Dr at ha hb
      obtain ⟨k, h1, h2, h3⟩ := grid (by omega) (by omega) hc (by omega) (by omega)
      exact ⟨k, List.mem_range.mpr h1, Prod.ext (by dsimp only; omega) (by dsimp only; omega)⟩
theorem stp_nodup (ha : Dr a) (hb : Dr b) : (stp a b).Nodup := by
  by_cases q : a = b
  · subst q
    simp [stp]
  · have q2 : ¬ (b.1 - a.1 = 0 ∧ b.2 - a.2 = 0) := fun ⟨x, y⟩ => q (Prod.ext (by omega) (by omega))
    have g0 := (gcd_bd q2 (by unfold Dr at ha hb; omega) (by unfold Dr at ha hb; omega)).1
    have d1 : ((Int.gcd (b.1 - a.1) (b.2 - a.2) : Nat) : Int) ∣ b.1 - a.1 := Int.gcd_dvd_left _ _
    have d2 : ((Int.gcd (b.1 - a.1) (b.2 - a.2) : Nat) : Int) ∣ b.2 - a.2 := Int.gcd_dvd_right _ _
    have e1 := div_g g0 d1
    have e2 := div_g g0 d2
    unfold stp
    rw [if_neg q]
    refine List.pairwise_map.mpr (List.nodup_range.imp fun {i j} ne z => ?_)
    injection z with z1 z2
    generalize (b.1 - a.1) / (Int.gcd (b.1 - a.1) (b.2 - a.2) : Nat) = X at *
    generalize (b.2 - a.2) / (Int.gcd (b.1 - a.1) (b.2 - a.2) : Nat) = Y at *
    by_cases hX : X = 0
    · by_cases hY : Y = 0
      · subst hX hY
        exact q2 ⟨by rw [← e1, Int.zero_mul], by rw [← e2, Int.zero_mul]⟩
      · have := Int.eq_of_mul_eq_mul_left hY (show Y * (i : Int) = Y * (j : Int) by omega)
        omega
    · have := Int.eq_of_mul_eq_mul_left hX (show X * (i : Int) = X * (j : Int) by omega)
      omega
theorem st_sort (ha : Dr a) (hb : Dr b) : (stp a b).mergeSort ptLe = stF a b := by
  have hp : (stp a b).Perm (stF a b) := (List.perm_ext_iff_of_nodup (stp_nodup ha hb) (board_nodup.filter _)).mpr (st_mem ha hb)
  rw [sort_perm hp]
  exact sort_self (board_sorted.filter _)
end K01

set_option Elab.async false
set_option linter.all false
set_option maxRecDepth 100000
set_option maxHeartbeats 1000000
namespace K01
open PySem DV
variable {st : List O} {env : List Sl} {ps rest : List P} {a b c : P}
theorem stp_len (a b : P) (ha : Dr a) (hb : Dr b) : (stp a b).length ≤ 20000 := by
  unfold stp
  split
  · simp
  · rename_i q
    have q2 : ¬ (b.1 - a.1 = 0 ∧ b.2 - a.2 = 0) := fun ⟨x, y⟩ => q (Prod.ext (by omega) (by omega))
    have g0 := (gcd_bd q2 (by unfold Dr at ha hb; omega) (by unfold Dr at ha hb; omega)).2
    simp
    omega
theorem stp_hd (a b : P) : ∃ r, stp a b = a :: r := by
  unfold stp
  split
  · exact ⟨[], rfl⟩
  · rw [List.range_succ_eq_map, List.map_cons]
    exact ⟨_, List.cons_eq_cons.mpr ⟨Prod.ext (by simp) (by simp), rfl⟩⟩
theorem stp_lt (a b : P) (ha : Dr a) (hb : Dr b) : ∃ r, stp a b = r ++ [b] := by
  unfold stp
  split
  · rename_i q
    exact ⟨[], by rw [q]; rfl⟩
  · rename_i q
    have q2 : ¬ (b.1 - a.1 = 0 ∧ b.2 - a.2 = 0) := fun ⟨x, y⟩ => q (Prod.ext (by omega) (by omega))
    have g0 := (gcd_bd q2 (by unfold Dr at ha hb; omega) (by unfold Dr at ha hb; omega)).1
    have e1 := div_g g0 (Int.gcd_dvd_left (b.1 - a.1) (b.2 - a.2))
    have e2 := div_g g0 (Int.gcd_dvd_right (b.1 - a.1) (b.2 - a.2))
    rw [List.range_succ, List.map_append]
    simp only [List.map_cons, List.map_nil, e1, e2]
    have z : (a.1 + (b.1 - a.1), a.2 + (b.2 - a.2)) = b := Prod.ext (by dsimp only; omega) (by dsimp only; omega)
    rw [z]
    exact ⟨_, rfl⟩
theorem l15 (h : E1 ps a b c env) (ha : Sm a) (hb : Sm b) : s_law_15 env st = .nx (env.set 21 (.v (.lst ((stF a b).map pt)))) st := by
  have g24 (x y : Sl) : ((env.set 24 x).set 25 y)[24]? = some x := by rw [List.getElem?_set_ne (by decide)]; exact set_g (by rw [h.len]; omega)
  have g25 (x y : Sl) : ((env.set 24 x).set 25 y)[25]? = some y := set_g (by rw [List.length_set, h.len]; omega)
  have d3 (x y : Sl) : ((env.set 24 x).set 25 y)[3]? = some (.v (pt a)) := ((h.set (by omega)).set (by omega)).d3
  have d4 (x y : Sl) : ((env.set 24 x).set 25 y)[4]? = some (.v (pt b)) := ((h.set (by omega)).set (by omega)).d4
  have lc := lc_pure (env := (env.set 25 .un).set 24 .un) (st := st) (t := gT [gN 24, gN 25]) (c := (tAnd2 (tCmpD (hEq) (eCallD f__law_turn [] (aCons (eVar 3) (aCons (eVar 4) (aCons (eTup (aCons (eVar 24) (aCons (eVar 25) (aNil)))) (aNil))))) (eC (.int 0))) (tAnd2 (tOfE (eChain (hLe) (hLe) (eN hMin (aCons (eOp hIx (eVar 3) (eC (.int 0))) (aCons (eOp hIx (eVar 4) (eC (.int 0))) (aNil)))) (eVar 24) (eN hMax (aCons (eOp hIx (eVar 3) (eC (.int 0))) (aCons (eOp hIx (eVar 4) (eC (.int 0))) (aNil)))))) (tOfE (eChain (hLe) (hLe) (eN hMin (aCons (eOp hIx (eVar 3) (eC (.int 1))) (aCons (eOp hIx (eVar 4) (eC (.int 1))) (aNil)))) (eVar 25) (eN hMax (aCons (eOp hIx (eVar 3) (eC (.int 1))) (aCons (eOp hIx (eVar 4) (eC (.int 1))) (aNil)))))))))
    (e := (eTup (aCons (eVar 24) (aCons (eVar 25) (aNil))))) pt (fun p => decide (cr a b p = 0) && inb (min a.1 b.1) (min a.2 b.2) (max a.1 b.1) (max a.2 b.2) p) pt board fun p hp => ⟨(env.set 24 (.v (.int p.1))).set 25 (.v (.int p.2)), by
      simp only [pt, x_gT, x_gAll, x_gN, Option.bind_some, x_gAll0]
      congr 1
      rw [List.set_set, List.set_comm _ _ (show 25 ≠ 24 by decide), List.set_set], by
      have hr := r_turn (st := st) ha hb (board_mem p hp).sm
      simp only [x_and2, x_cmp, x_op, x_call, x_cons, x_nil, x_var, x_tup, g24, g25, d3, d4, bind_ok, List.length_cons, List.length_nil]
      rw [if_pos (by omega)]
      simp only [bind_ok, List.append_nil, hr, x_c, h_eqi, of_some, x_ofE, x_chain, x_n, x_cons, x_nil, x_op, x_var, g24, g25, d3, d4, ix_tup, at_0, at_1, h_min2, h_max2, h_le, cO_bl]
      simp [inb]
      grind -verbose, fun _ => by simp [g24, g25]⟩
  have hb : board.length ≤ 100000 := by decide
  simp only [s_law_15, x_set, x_lc, x_it, x_call, x_nil, bind_ok, List.nil_append, r_board, x_itL, List.length_map, hb, if_true, x_wipe, x_wipe0, lc, ofR_ok]
  rfl
theorem l16 (h : E1 ps a b c env) (ha : Dr a) (hb : Dr b) (h21 : env[21]? = some (.v (.lst ((stF a b).map pt)))) : s_law_16 env st = .nx env st := by
  have r1 := r_stp (st := st) ha.sm hb.sm
  have s1 (st) := h_sortedT (st := st) (ps := stp a b) (by have := stp_len a b ha hb; omega)
  rw [st_sort ha hb] at s1
  obtain ⟨r, e⟩ := stp_hd a b
  have c1 (st) := ne_self (st := st) (fit_ptL 58 (stF a b))
  have fa : D.fit 60 (pt a) = true := fit_pt a
  have c2 (st) := ne_self (st := st) fa
  have c3 (st) : hIx st (.tup ((stp a b).map pt)) (.int 0) = some (pt a) := by rw [ix_tup, e]; simp
  simp only [s_law_16, x_sif, x_or2, x_cmp, x_op, x_n, x_call, x_cons, x_nil, x_var, h.d3, h.d4, h21, bind_ok, List.append_nil, r1, s1, of_some, c1, x_c, c3, c2]
  simp
theorem l16b (h : E1 ps a b c env) (ha : Dr a) (hb : Dr b) : (sIf (tCmpD (hNe) (eOp hIx (eCallD f_steps_between [] (aCons (eVar 3) (aCons (eVar 4) (aNil)))) (eUn hNeg (eC (.int 1)))) (eVar 4)) (sRet (eC (.bl false))) (sNx)) env st = .nx env st := by
  have r1 := r_stp (st := st) ha.sm hb.sm
  obtain ⟨r, e⟩ := stp_lt a b ha hb
  have fb : D.fit 60 (pt b) = true := fit_pt b
  have c2 (st) := ne_self (st := st) fb
  have at1 : L2.atI (r.map pt ++ [pt b]) (-1) = some (pt b) := L2.atI_last _ _
  simp only [x_sif, x_cmp, x_op, x_un, x_call, x_cons, x_nil, x_var, h.d3, h.d4, bind_ok, List.append_nil, r1, of_some, x_c, h_neg, ix_tup, e, List.map_append, List.map_cons, List.map_nil, at1, c2]
  simp
/-! rows with right angles, the most in line -/
theorem mx_ext {l m : List Int} (h : ∀ x, x ∈ l ↔ x ∈ m) : mxI l = mxI m := by
  by_cases e : l = []
  · have : m = [] := by
      cases m with
      | nil => rfl
      | cons y ys => have := (h y).mpr List.mem_cons_self; rw [e] at this; cases this
    rw [e, this]
  · have hm : m ≠ [] := List.ne_nil_of_mem ((h _).mp (mx_mem e))
    exact mx_eq ((h _).mpr (mx_mem hm)) fun x hx => mx_le ((h x).mp hx)
theorem fold_mx {α : Type} (L : α → List Int) : ∀ (xs : List α) (b : Int) (l : List Int), xs.foldl (fun b x => mxI (b :: L x)) (mxI (b :: l)) = mxI (b :: (l ++ xs.flatMap L))
  | [], b, l => by simp
  | x :: xs, b, l => by
    have e : mxI (mxI (b :: l) :: L x) = mxI (b :: (l ++ L x)) := by
      refine mx_eq ?_ ?_
      · have z := mx_mem (ns := b :: (l ++ L x)) (by simp)
        rcases List.mem_cons.mp z with z1 | z1
        · rw [z1]
          have y : mxI (b :: l) = b := mx_eq List.mem_cons_self fun q hq => by
            have : q ≤ mxI (b :: (l ++ L x)) := mx_le (by simp at hq ⊢; rcases hq with hq | hq <;> simp [hq])
            omega
          rw [y]; exact List.mem_cons_self
        · rcases List.mem_append.mp z1 with z1 | z1
          · have y : mxI (b :: l) = mxI (b :: (l ++ L x)) := mx_eq (List.mem_cons_of_mem _ z1) fun q hq => mx_le (by simp at hq ⊢; rcases hq with hq | hq <;> simp [hq])
            rw [y]; exact List.mem_cons_self
          · exact List.mem_cons_of_mem _ z1
      · intro q hq
        rcases List.mem_cons.mp hq with rfl | hq
        · have := mx_mem (ns := b :: l) (by simp)
          exact mx_le (by simp at this ⊢; rcases this with this | this <;> simp [this])
        · exact mx_le (by simp [hq])
    rw [List.foldl_cons, e, fold_mx L xs b (l ++ L x), List.flatMap_cons, List.append_assoc]
def lok (ps : List P) (i j : Nat) : Bool := decide (j ≠ i) && decide (gp ps i ≠ gp ps j)
def lbest (ps : List P) : Int := (List.range ps.length).foldl (fun best i => (List.range ps.length).foldl (fun best j => if lok ps i j then max best (cnt ps (gp ps i) (gp ps j)) else best) best) (mxI (ps.map fun p => (ps.count p : Int)))
theorem cr_sw (a b p : P) : cr b a p = - cr a b p := by unfold cr; grind
theorem cnt_sym (ps : List P) (a b : P) : cnt ps a b = cnt ps b a := by
  unfold cnt
  have : (fun p => decide (sg (cr a b p) = 0)) = fun p => decide (sg (cr b a p) = 0) := by
    funext p
    rw [cr_sw b a p]
    simp only [sg_zero]
    congr 1
    exact propext ⟨fun z => by omega, fun z => by omega⟩
  rw [this]
theorem mil_lbest (ps : List P) (h0 : ps ≠ []) : mil ps = lbest ps := by
  have n1 : ps.map (fun p => (ps.count p : Int)) ≠ [] := by simpa using h0
  unfold mil lbest
  have e1 : ∀ (best : Int) (q : P × Nat), (ps.take q.2).foldl (mstep ps q.1) best = mxI (best :: (((ps.take q.2).filter fun b => decide (q.1 ≠ b)).map (cnt ps q.1))) := fun best q => fold_max (fun b => decide (q.1 ≠ b)) (cnt ps q.1) (ps.take q.2) best
  have e2 : ∀ (best : Int) (i : Nat), (List.range ps.length).foldl (fun best j => if lok ps i j then max best (cnt ps (gp ps i) (gp ps j)) else best) best = mxI (best :: (((List.range ps.length).filter (lok ps i)).map fun j => cnt ps (gp ps i) (gp ps j))) := fun best i => fold_max (lok ps i) (fun j => cnt ps (gp ps i) (gp ps j)) (List.range ps.length) best
  simp only [e1, e2]
  have s : mxI (ps.map fun p => (ps.count p : Int)) = mxI (mxI (ps.map fun p => (ps.count p : Int)) :: []) := rfl
  rw [s, fold_mx, fold_mx]
  refine mx_ext fun x => ?_
  simp only [List.nil_append, List.mem_cons, List.mem_flatMap, List.mem_map, List.mem_filter, List.mem_range, decide_eq_true_eq]
  constructor
  · rintro (z | ⟨⟨p, i⟩, hp, q, ⟨hq, ne⟩, rfl⟩)
    · exact .inl z
    · have hz := List.mem_zipIdx hp
      simp only [Nat.sub_zero, Nat.zero_add] at hz
      obtain ⟨_, hi, hpi⟩ := hz
      obtain ⟨j, hj, e⟩ := List.mem_take_iff_getElem.mp hq
      have hj1 : j < i := by omega
      have hj2 : j < ps.length := by omega
      have g1 : gp ps i = p := by simp [gp, List.getD, hi, hpi]
      have g2 : gp ps j = q := by simp [gp, List.getD, hj2, e]
      exact .inr ⟨i, hi, j, ⟨hj2, by unfold lok; rw [g1, g2]; simp only [Bool.and_eq_true, decide_eq_true_eq]; exact ⟨by omega, ne⟩⟩, by rw [g1, g2]⟩
  · rintro (z | ⟨i, hi, j, ⟨hj, hl⟩, rfl⟩)
    · exact .inl z
    · unfold lok at hl
      simp only [Bool.and_eq_true, decide_eq_true_eq] at hl
      have gi : gp ps i = ps[i] := by simp [gp, List.getD, hi]
      have gj : gp ps j = ps[j] := by simp [gp, List.getD, hj]
      rcases Nat.lt_or_ge j i with q | q
      · refine .inr ⟨(gp ps i, i), ?_, gp ps j, ⟨?_, hl.2⟩, rfl⟩
        · rw [gi]; exact List.mk_mem_zipIdx_iff_getElem?.mpr (List.getElem?_eq_getElem hi)
        · rw [gj]; exact List.mem_take_iff_getElem.mpr ⟨j, by omega, rfl⟩
      · have q : i < j := by omega
        refine .inr ⟨(gp ps j, j), ?_, gp ps i, ⟨?_, fun z => hl.2 z.symm⟩, cnt_sym ps _ _⟩
        · rw [gj]; exact List.mk_mem_zipIdx_iff_getElem?.mpr (List.getElem?_eq_getElem hj)
        · rw [gi]; exact List.mem_take_iff_getElem.mpr ⟨i, by omega, rfl⟩
end K01

set_option Elab.async false
set_option linter.all false
set_option maxRecDepth 100000
set_option maxHeartbeats 1000000
namespace K01
open PySem DV
variable {st : List O} {env : List Sl} {ps rest : List P} {a b c : P}
abbrev Tm := Sl × Sl × Sl × Sl × Sl
def mkA (env : List Sl) (s : List T3 × Int) (t : Tm) : List Sl := ((((((env.set 7 t.1).set 8 t.2.1).set 22 (.v (.lst (s.1.map tr3)))).set 23 (.v (.int s.2))).set 24 t.2.2.1).set 25 t.2.2.2.1).set 26 t.2.2.2.2
section
variable (s : List T3 × Int) (t : Tm) (y : Sl)
theorem a26 : (mkA env s t).set 26 y = mkA env s (t.1, t.2.1, t.2.2.1, t.2.2.2.1, y) := by unfold mkA; rw [List.set_set]
theorem a25 : (mkA env s t).set 25 y = mkA env s (t.1, t.2.1, t.2.2.1, y, t.2.2.2.2) := by unfold mkA; rw [List.set_comm _ _ (show 26 ≠ 25 by decide), List.set_set]
theorem a24 : (mkA env s t).set 24 y = mkA env s (t.1, t.2.1, y, t.2.2.2.1, t.2.2.2.2) := by unfold mkA; rw [List.set_comm _ _ (show 26 ≠ 24 by decide), List.set_comm _ _ (show 25 ≠ 24 by decide), List.set_set]
theorem a23 (n : Int) : (mkA env s t).set 23 (.v (.int n)) = mkA env (s.1, n) t := by unfold mkA; rw [List.set_comm _ _ (show 26 ≠ 23 by decide), List.set_comm _ _ (show 25 ≠ 23 by decide), List.set_comm _ _ (show 24 ≠ 23 by decide), List.set_set]
theorem a22 (l : List T3) : (mkA env s t).set 22 (.v (.lst (l.map tr3))) = mkA env (l, s.2) t := by unfold mkA; rw [List.set_comm _ _ (show 26 ≠ 22 by decide), List.set_comm _ _ (show 25 ≠ 22 by decide), List.set_comm _ _ (show 24 ≠ 22 by decide), List.set_comm _ _ (show 23 ≠ 22 by decide), List.set_set]
theorem a8 : (mkA env s t).set 8 y = mkA env s (t.1, y, t.2.2.1, t.2.2.2.1, t.2.2.2.2) := by unfold mkA; rw [List.set_comm _ _ (show 26 ≠ 8 by decide), List.set_comm _ _ (show 25 ≠ 8 by decide), List.set_comm _ _ (show 24 ≠ 8 by decide), List.set_comm _ _ (show 23 ≠ 8 by decide), List.set_comm _ _ (show 22 ≠ 8 by decide), List.set_set]
theorem a7 : (mkA env s t).set 7 y = mkA env s (y, t.2.1, t.2.2.1, t.2.2.2.1, t.2.2.2.2) := by unfold mkA; rw [List.set_comm _ _ (show 26 ≠ 7 by decide), List.set_comm _ _ (show 25 ≠ 7 by decide), List.set_comm _ _ (show 24 ≠ 7 by decide), List.set_comm _ _ (show 23 ≠ 7 by decide), List.set_comm _ _ (show 22 ≠ 7 by decide), List.set_comm _ _ (show 8 ≠ 7 by decide), List.set_set]
theorem A1 (h : E1 ps a b c env) : E1 ps a b c (mkA env s t) := (((((((h.set (by omega)).set (by omega)).set (by omega)).set (by omega)).set (by omega)).set (by omega)).set (by omega))
variable (hl : env.length = 30)
include hl
theorem b26 : (mkA env s t)[26]? = some t.2.2.2.2 := by unfold mkA; exact set_g (by (try simp); omega)
theorem b25 : (mkA env s t)[25]? = some t.2.2.2.1 := by unfold mkA; rw [List.getElem?_set_ne (by decide)]; exact set_g (by (try simp); omega)
theorem b24 : (mkA env s t)[24]? = some t.2.2.1 := by unfold mkA; rw [List.getElem?_set_ne (by decide), List.getElem?_set_ne (by decide)]; exact set_g (by (try simp); omega)
theorem b23 : (mkA env s t)[23]? = some (.v (.int s.2)) := by unfold mkA; rw [List.getElem?_set_ne (by decide), List.getElem?_set_ne (by decide), List.getElem?_set_ne (by decide)]; exact set_g (by (try simp); omega)
theorem b22 : (mkA env s t)[22]? = some (.v (.lst (s.1.map tr3))) := by unfold mkA; rw [List.getElem?_set_ne (by decide), List.getElem?_set_ne (by decide), List.getElem?_set_ne (by decide), List.getElem?_set_ne (by decide)]; exact set_g (by (try simp); omega)
theorem b8 : (mkA env s t)[8]? = some t.2.1 := by unfold mkA; rw [List.getElem?_set_ne (by decide), List.getElem?_set_ne (by decide), List.getElem?_set_ne (by decide), List.getElem?_set_ne (by decide), List.getElem?_set_ne (by decide)]; exact set_g (by (try simp); omega)
theorem b7 : (mkA env s t)[7]? = some t.1 := by unfold mkA; rw [List.getElem?_set_ne (by decide), List.getElem?_set_ne (by decide), List.getElem?_set_ne (by decide), List.getElem?_set_ne (by decide), List.getElem?_set_ne (by decide), List.getElem?_set_ne (by decide)]; exact set_g (by (try simp); omega)
theorem mkA_ex (acc : List T3) (best : Int) (h22 : env[22]? = some (.v (.lst (acc.map tr3)))) (h23 : env[23]? = some (.v (.int best))) : ∃ t, env = mkA env (acc, best) t := by
  refine ⟨(env[7], env[8], env[24], env[25], env[26]), ?_⟩
  have e22 : env[22] = .v (.lst (acc.map tr3)) := by rw [List.getElem?_eq_getElem (by omega)] at h22; exact Option.some.inj h22
  have e23 : env[23] = .v (.int best) := by rw [List.getElem?_eq_getElem (by omega)] at h23; exact Option.some.inj h23
  unfold mkA
  simp only [List.set_getElem_self, ← e22, ← e23]
end
def p19 (ps : List P) (i j k : Nat) : Bool := decide (i + 1 + k ≠ j) && decide (gp ps (i + 1 + k) ≠ gp ps j)
def p20 (ps : List P) (i j k : Nat) : Bool := decide (dt (gp ps j) (gp ps i) (gp ps (i + 1 + k)) = 0)
def la3 (ps : List P) (i j : Nat) : List T3 := if lok ps i j then (((List.range (ps.length - (i + 1))).filter (p19 ps i j)).filter (p20 ps i j)).map fun k => (i, j, i + 1 + k) else []
theorem la3_ra3 (ps : List P) (i j : Nat) : la3 ps i j = ra3 ps i j := by
  have key : ∀ xs : List Nat, (if lok ps i j then ((xs.filter (p19 ps i j)).filter (p20 ps i j)).map (fun k => (i, j, i + 1 + k)) else []) = xs.flatMap fun k => if rok ps i j (i + 1 + k) then [(i, j, i + 1 + k)] else [] := by
    intro xs
    induction xs with
    | nil => simp
    | cons k r ih =>
      rw [List.flatMap_cons, ← ih]
      have e : rok ps i j (i + 1 + k) = (lok ps i j && (p19 ps i j k && p20 ps i j k)) := by
        unfold rok lok p19 p20
        by_cases h1 : j = i <;> by_cases h2 : i + 1 + k = j <;> by_cases h3 : gp ps i = gp ps j <;> by_cases h4 : gp ps (i + 1 + k) = gp ps j <;> simp_all <;> omega
      rw [e]
      cases q1 : lok ps i j <;> cases q2 : p19 ps i j k <;> cases q3 : p20 ps i j k <;> simp [List.filter_cons, q2, q3]
  exact key _
abbrev nD (i : Nat) : D := .int (i : Nat)
def st1 (ps : List P) (i : Nat) (s : List T3 × Int) (j : Nat) : List T3 × Int := (s.1 ++ ra3 ps i j, if lok ps i j then max s.2 (cnt ps (gp ps i) (gp ps j)) else s.2)
abbrev ibody : SF := (sIf (tAnd2 (tCmpD (hNe) (eVar 25) (eVar 24)) (tCmpD (hNe) (eOp hIx (eVar 2) (eVar 24)) (eOp hIx (eVar 2) (eVar 25)))) (sSeq (s_law_17) (sSeq (s_law_18) (sSeq (s_law_19) (s_law_20)))) (sNx))
section
variable (h : E1 ps a b c env) (hs : ∀ p ∈ ps, Sm p) (hl : ps.length ≤ 12) {i j : Nat} (hi : i < ps.length) (hj : j < ps.length) (s : List T3 × Int) (t1 t2 t5 : Sl)
include h hs hl hi hj
theorem n17 : s_law_17 (mkA env s (t1, t2, .v (nD i), .v (nD j), t5)) st = .nx (mkA env (s.1, max s.2 (cnt ps (gp ps i) (gp ps j))) (t1, t2, .v (nD i), .v (nD j), t5)) st := by
  have g14 (y : Sl) : ((mkA env s (t1, t2, .v (nD i), .v (nD j), t5)).set 14 y)[14]? = some y := set_g (by rw [(A1 s _ h).len]; omega)
  have n14 (y : Sl) (k : Nat) (hk : 14 ≠ k) : ((mkA env s (t1, t2, .v (nD i), .v (nD j), t5)).set 14 y)[k]? = (mkA env s (t1, t2, .v (nD i), .v (nD j), t5))[k]? := List.getElem?_set_ne hk
  have lc := lc_pure (env := (mkA env s (t1, t2, .v (nD i), .v (nD j), t5)).set 14 .un) (st := st) (t := gN 14) (c := (tCmpD (hEq) (eCallD f__law_turn [] (aCons (eOp hIx (eVar 2) (eVar 24)) (aCons (eOp hIx (eVar 2) (eVar 25)) (aCons (eVar 14) (aNil))))) (eC (.int 0)))) (e := (eC (.int 1))) pt
    (fun p => decide (sg (cr (gp ps i) (gp ps j) p) = 0)) (fun _ => .int 1) ps fun p hp => ⟨_, rfl, by
      have r1 := r_turn (st := st) (gp_sm hs i) (gp_sm hs j) (hs p hp)
      simp only [x_cmp, x_op, x_call, x_cons, x_nil, x_var, x_gN, List.set_set, g14, n14 _ 2 (by decide), n14 _ 24 (by decide), n14 _ 25 (by decide), (A1 s _ h).d2, b24 s _ h.len, b25 s _ h.len, bind_ok, ix_lst, at_gp hi, at_gp hj, of_some, List.append_nil, r1, x_c, h_eqi, sg_zero], fun _ => rfl⟩
  simp only [s_law_17, x_set, x_n, x_cons, x_nil, x_var, b23 s _ h.len, bind_ok, x_lc, x_it, (A1 s _ h).d2, x_itL, List.length_map, show ps.length ≤ 100000 by omega, if_true, x_wipe, x_wipe0, lc, len_lst, of_some, h_max2, ofR_ok]
  rw [a23]
  rfl
theorem n18 : s_law_18 (mkA env s (t1, t2, .v (nD i), .v (nD j), t5)) st = .nx (mkA env s (.v (.int ((gp ps i).1 - (gp ps j).1)), .v (.int ((gp ps i).2 - (gp ps j).2)), .v (nD i), .v (nD j), t5)) st := by
  simp only [s_law_18, x_asg, x_tup, x_cons, x_nil, x_op, x_var, x_c, (A1 s _ h).d2, b24 s _ h.len, b25 s _ h.len, bind_ok, ix_lst, at_gp hi, at_gp hj, of_some, ix_tup, at_0, at_1, h_sub, List.length_cons, List.length_nil]
  rw [if_pos (by omega)]
  simp only [ofR_ok, x_gT, x_gAll, x_gN, Option.bind_some, x_gAll0, a7, a8]
theorem n19 : s_law_19 (mkA env s (t1, t2, .v (nD i), .v (nD j), t5)) st = .nx (mkA env s (t1, t2, .v (nD i), .v (nD j), .v (.lst (((List.range (ps.length - (i + 1))).filter (p19 ps i j)).map fun k => nD (i + 1 + k))))) st := by
  have g29 (y : Sl) : ((mkA env s (t1, t2, .v (nD i), .v (nD j), t5)).set 29 y)[29]? = some y := set_g (by rw [(A1 s _ h).len]; omega)
  have n29 (y : Sl) (k : Nat) (hk : 29 ≠ k) : ((mkA env s (t1, t2, .v (nD i), .v (nD j), t5)).set 29 y)[k]? = (mkA env s (t1, t2, .v (nD i), .v (nD j), t5))[k]? := List.getElem?_set_ne hk
  have lc := lc_pure (env := (mkA env s (t1, t2, .v (nD i), .v (nD j), t5)).set 29 .un) (st := st) (t := gN 29) (c := (tAnd2 (tCmpD (hNe) (eVar 29) (eVar 25)) (tCmpD (hNe) (eOp hIx (eVar 2) (eVar 29)) (eOp hIx (eVar 2) (eVar 25))))) (e := (eVar 29)) (fun k => nD (i + 1 + k))
    (p19 ps i j) (fun k => nD (i + 1 + k)) (List.range (ps.length - (i + 1))) fun k hk => ⟨_, rfl, by
      have hk := List.mem_range.mp hk
      have hk2 : i + 1 + k < ps.length := by omega
      have f (x : P) : D.fit 60 (pt x) = true := fit_pt x
      have e (x y : P) : D.eqb (pt x) (pt y) = decide (x = y) := eqb_pt x y
      simp only [x_and2, x_cmp, x_op, x_var, x_gN, List.set_set, g29, n29 _ 2 (by decide), n29 _ 25 (by decide), (A1 s _ h).d2, b25 s _ h.len, bind_ok, ix_lst, at_gp hk2, at_gp hj, of_some, h_nei, h_ne (f _) (f _), e, p19]
      by_cases q : i + 1 + k = j
      · simp [q]
      · have q' : ¬ ((i + 1 + k : Nat) : Int) = (j : Int) := by omega
        have q2 : ¬ ((i : Int) + 1 + (k : Int)) = (j : Int) := by omega
        simp [q, q', q2], fun _ => by simp only [x_gN, List.set_set, x_var, g29]⟩
  have i1 : inRg ((i : Int) + 1) = true := inRg_lo (by omega) (by omega)
  have i2 : inRg (ps.length : Int) = true := inRg_lo (by omega) (by omega)
  have i3 : ((ps.length : Int) - ((i : Int) + 1)).toNat = ps.length - (i + 1) := by omega
  have eu : upFrom ((i : Int) + 1) (ps.length - (i + 1)) = (List.range (ps.length - (i + 1))).map fun k => nD (i + 1 + k) := by
    rw [up_map]
    refine List.map_congr_left fun k _ => ?_
    exact congrArg D.int (by omega)
  simp only [s_law_19, x_set, x_lc, x_rg2, x_cons, x_nil, x_op, x_var, x_c, x_n, b24 s _ h.len, (A1 s _ h).d2, bind_ok, h_add, of_some, len_map, i1, i2, Bool.and_self, if_true, i3, eu, List.length_map, List.length_range, x_wipe, x_wipe0]
  rw [if_pos (by omega), lc]
  simp only [bind_ok, ofR_ok, a26]
theorem n20 (hN : s.1.length + ps.length ≤ 50000) : s_law_20 (mkA env s (.v (.int ((gp ps i).1 - (gp ps j).1)), .v (.int ((gp ps i).2 - (gp ps j).2)), .v (nD i), .v (nD j), .v (.lst (((List.range (ps.length - (i + 1))).filter (p19 ps i j)).map fun k => nD (i + 1 + k))))) st
    = .nx (mkA env (s.1 ++ (((List.range (ps.length - (i + 1))).filter (p19 ps i j)).filter (p20 ps i j)).map (fun k => (i, j, i + 1 + k)), s.2) (.v (.int ((gp ps i).1 - (gp ps j).1)), .v (.int ((gp ps i).2 - (gp ps j).2)), .v (nD i), .v (nD j), .v (.lst (((List.range (ps.length - (i + 1))).filter (p19 ps i j)).map fun k => nD (i + 1 + k))))) st := by
  obtain ⟨R, hR⟩ : ∃ R, R = (List.range (ps.length - (i + 1))).filter (p19 ps i j) := ⟨_, rfl⟩
  have hRm : ∀ k ∈ R, i + 1 + k < ps.length := fun k hk => by
    rw [hR] at hk
    have := List.mem_range.mp (List.mem_filter.mp hk).1
    omega
  have hRl : R.length ≤ ps.length := by
    rw [hR]
    have := List.length_filter_le (p19 ps i j) (List.range (ps.length - (i + 1)))
    rw [List.length_range] at this
    omega
  rw [← hR]
  clear hR
  obtain ⟨T, hT⟩ : ∃ T : Tm, T = (.v (.int ((gp ps i).1 - (gp ps j).1)), .v (.int ((gp ps i).2 - (gp ps j).2)), .v (nD i), .v (nD j), .v (.lst (R.map fun k => nD (i + 1 + k)))) := ⟨_, rfl⟩
  have v7 : (mkA env s T)[7]? = some (.v (.int ((gp ps i).1 - (gp ps j).1))) := by rw [b7 s T h.len, hT]
  have v8 : (mkA env s T)[8]? = some (.v (.int ((gp ps i).2 - (gp ps j).2))) := by rw [b8 s T h.len, hT]
  have v24 : (mkA env s T)[24]? = some (.v (nD i)) := by rw [b24 s T h.len, hT]
  have v25 : (mkA env s T)[25]? = some (.v (nD j)) := by rw [b25 s T h.len, hT]
  have v26 : (mkA env s T)[26]? = some (.v (.lst (R.map fun k => nD (i + 1 + k)))) := by rw [b26 s T h.len, hT]
  rw [← hT]
  have g29 (y : Sl) : ((mkA env s T).set 29 y)[29]? = some y := set_g (by rw [(A1 s _ h).len]; omega)
  have n29 (y : Sl) (k : Nat) (hk : 29 ≠ k) : ((mkA env s T).set 29 y)[k]? = (mkA env s T)[k]? := List.getElem?_set_ne hk
  have lc := lc_pure (env := (mkA env s T).set 29 .un) (st := st) (t := gN 29) (c := (tCmpD (hEq) (eOp hAdd (eOp hMul (eVar 7) (eOp hSub (eOp hIx (eOp hIx (eVar 2) (eVar 29)) (eC (.int 0))) (eOp hIx (eOp hIx (eVar 2) (eVar 25)) (eC (.int 0))))) (eOp hMul (eVar 8) (eOp hSub (eOp hIx (eOp hIx (eVar 2) (eVar 29)) (eC (.int 1))) (eOp hIx (eOp hIx (eVar 2) (eVar 25)) (eC (.int 1)))))) (eC (.int 0)))) (e := (eTup (aCons (eVar 24) (aCons (eVar 25) (aCons (eVar 29) (aNil))))))
    (fun k => nD (i + 1 + k)) (p20 ps i j) (fun k => tr3 (i, j, i + 1 + k)) R fun k hk => ⟨_, rfl, by
      have hk2 := hRm k hk
      have s1 := gp_sm hs i
      have s2 := gp_sm hs j
      have s3 := gp_sm hs (i + 1 + k)
      unfold Sm at s1 s2 s3
      simp only [x_cmp, x_op, x_var, x_gN, List.set_set, g29, n29 _ 2 (by decide), n29 _ 25 (by decide), n29 _ 7 (by decide), n29 _ 8 (by decide), v7, v8, v25, (A1 s _ h).d2, bind_ok, ix_lst, at_gp hk2, at_gp hj, of_some, x_c, ix_tup, at_0, at_1, h_sub]
      simp (disch := omega) only [h_mul_l, of_some, bind_ok, h_add, h_eqi]
      rfl, fun _ => by
      simp only [x_gN, List.set_set, x_tup, x_cons, x_nil, x_var, g29, n29 _ 24 (by decide), n29 _ 25 (by decide), v24, v25, bind_ok, List.length_cons, List.length_nil]
      rw [if_pos (by omega)]⟩
  have el : (R.filter (p20 ps i j)).length ≤ ps.length := Nat.le_trans (List.length_filter_le _ _) hRl
  have sz : szOk (s.1.length + (R.filter (p20 ps i j)).length) = true := by unfold szOk; rw [decide_eq_true_eq]; omega
  simp only [s_law_20, x_set, x_op, x_var, b22 s _ h.len, v26, bind_ok, x_lc, x_it, x_itL, List.length_map, show R.length ≤ 100000 by omega, if_true, x_wipe, x_wipe0, lc, hAdd, sz, of_some, ofR_ok]
  have em : s.1.map tr3 ++ (R.filter (p20 ps i j)).map (fun k => tr3 (i, j, i + 1 + k)) = (s.1 ++ (R.filter (p20 ps i j)).map fun k => (i, j, i + 1 + k)).map tr3 := by rw [List.map_append, List.map_map]; rfl
  rw [em, a22]
theorem nbody (hN : s.1.length + ps.length ≤ 50000) (t4 : Sl) : ∃ t' : Sl × Sl × Sl, ibody ((mkA env s (t1, t2, .v (nD i), t4, t5)).set 25 (.v (nD j))) st = .nx (mkA env (st1 ps i s j) (t'.1, t'.2.1, .v (nD i), .v (nD j), t'.2.2)) st := by
  rw [a25]
  have f (x : P) : D.fit 60 (pt x) = true := fit_pt x
  have e (x y : P) : D.eqb (pt x) (pt y) = decide (x = y) := eqb_pt x y
  have hc : (tAnd2 (tCmpD (hNe) (eVar 25) (eVar 24)) (tCmpD (hNe) (eOp hIx (eVar 2) (eVar 24)) (eOp hIx (eVar 2) (eVar 25)))) (mkA env s (t1, t2, .v (nD i), .v (nD j), t5)) st = .ok (lok ps i j) st := by
    simp only [x_and2, x_cmp, x_op, x_var, (A1 s _ h).d2, b24 s _ h.len, b25 s _ h.len, bind_ok, ix_lst, at_gp hi, at_gp hj, of_some, h_nei, h_ne (f _) (f _), e, lok]
    by_cases q : j = i
    · simp [q]
    · have q' : ¬ (j : Int) = (i : Int) := by omega
      simp [q, q']
  have e3 := la3_ra3 ps i j
  rw [ibody, x_sif, hc, ofR_ok]
  unfold st1
  rw [← e3]
  unfold la3
  cases q : lok ps i j with
  | false =>
    simp only [Bool.false_eq_true, if_false, List.append_nil, x_nx]
    exact ⟨(t1, t2, t5), rfl⟩
  | true =>
    simp only [if_true]
    rw [seq_nx (n17 h hs hl hi hj s t1 t2 t5), seq_nx (n18 h hs hl hi hj _ t1 t2 t5), seq_nx (n19 h hs hl hi hj _ _ _ t5), n20 h hs hl hi hj (s.1, max s.2 (cnt ps (gp ps i) (gp ps j))) hN]
    exact ⟨(_, _, _), rfl⟩
end
end K01

set_option Elab.async false
set_option linter.all false
set_option maxRecDepth 100000
set_option maxHeartbeats 1000000
namespace K01
open PySem DV
variable {st : List O} {env : List Sl} {ps rest : List P} {a b c : P}
section
variable (h : E1 ps a b c env) (hs : ∀ p ∈ ps, Sm p) (hl : ps.length ≤ 12)
include h hs hl
theorem m21 {i : Nat} (hi : i < ps.length) (s : List T3 × Int) (t1 t2 t4 t5 : Sl) (hN : s.1.length + ps.length * ps.length + ps.length ≤ 50000) : ∃ t' : Sl × Sl × Sl × Sl, s_law_21 (mkA env s (t1, t2, .v (nD i), t4, t5)) st = .nx (mkA env (s.1 ++ ra2 ps i, (List.range ps.length).foldl (fun best j => if lok ps i j then max best (cnt ps (gp ps i) (gp ps j)) else best) s.2) (t'.1, t'.2.1, .v (nD i), t'.2.2.1, t'.2.2.2)) st := by
  have key := for_foldR (st := st) (t := gN 25) (b := ibody) nD (fun s (t : Sl × Sl × Sl × Sl) => mkA env s (t.1, t.2.1, .v (nD i), t.2.2.1, t.2.2.2)) (st1 ps i) (fun s rest => (∀ j ∈ rest, j < ps.length) ∧ s.1.length + ps.length * rest.length + ps.length ≤ 50000)
    (fun j rest s t ⟨q1, q2⟩ => by
      have hj := q1 j List.mem_cons_self
      rw [List.length_cons, Nat.mul_succ] at q2
      have hr := ra3_len ps i j
      refine ⟨⟨fun k hk => q1 k (List.mem_cons_of_mem _ hk), ?_⟩, ?_⟩
      · unfold st1
        rw [List.length_append]
        omega
      · obtain ⟨t', e⟩ := nbody (st := st) h hs hl hi hj s t.1 t.2.1 t.2.2.2 (by omega) t.2.2.1
        exact ⟨_, (t'.1, t'.2.1, .v (nD j), t'.2.2), rfl, e⟩) (List.range ps.length) s (t1, t2, t4, t5) ⟨fun j hj => List.mem_range.mp hj, by rw [List.length_range]; exact hN⟩
  obtain ⟨t', e⟩ := key
  have i2 : inRg (ps.length : Int) = true := inRg_lo (by omega) (by omega)
  have i3 : ((ps.length : Int)).toNat = ps.length := by omega
  refine ⟨t', ?_⟩
  have ef : (List.range ps.length).foldl (st1 ps i) s = (s.1 ++ ra2 ps i, (List.range ps.length).foldl (fun best j => if lok ps i j then max best (cnt ps (gp ps i) (gp ps j)) else best) s.2) :=
    fold_pair (ra3 ps i) (fun best j => if lok ps i j then max best (cnt ps (gp ps i) (gp ps j)) else best) (List.range ps.length) s
  rw [ef] at e
  dsimp only at e
  simp only [s_law_21, x_for, x_rg1, x_cons, x_nil, x_n, x_var, (A1 s _ h).d2, bind_ok, len_map, of_some, i2, if_true, i3, ofR_ok, up_map0]
  exact e
theorem m22 (best : Int) (h22 : env[22]? = some (.v (.lst []))) (h23 : env[23]? = some (.v (.int best))) (hb : best = mxI (ps.map fun p => (ps.count p : Int))) : ∃ t : Tm, (sFor (aRg1 (aCons (eN hLen (aCons (eVar 2) (aNil))) (aNil))) (gN 24) (s_law_21)) env st = .nx (mkA env (ra ps, lbest ps) t) st := by
  obtain ⟨t, et⟩ := mkA_ex (env := env) h.len [] best h22 h23
  have h2 : ps.length * ps.length ≤ 12 * 12 := Nat.mul_le_mul hl hl
  have key := for_foldR (st := st) (t := gN 24) (b := s_law_21) nD (fun s (t : Tm) => mkA env s t) (fun s i => (s.1 ++ ra2 ps i, (List.range ps.length).foldl (fun best j => if lok ps i j then max best (cnt ps (gp ps i) (gp ps j)) else best) s.2)) (fun s rest => (∀ j ∈ rest, j < ps.length) ∧ s.1.length + (ps.length * ps.length) * rest.length + ps.length ≤ 20000)
    (fun i rest s t ⟨q1, q2⟩ => by
      have hi := q1 i List.mem_cons_self
      rw [List.length_cons, Nat.mul_succ] at q2
      have hr := ra2_len ps i
      refine ⟨⟨fun k hk => q1 k (List.mem_cons_of_mem _ hk), ?_⟩, ?_⟩
      · dsimp only
        rw [List.length_append]
        omega
      · obtain ⟨t', e⟩ := m21 (st := st) h hs hl hi s t.1 t.2.1 t.2.2.2.1 t.2.2.2.2 (by omega)
        exact ⟨_, (t'.1, t'.2.1, .v (nD i), t'.2.2.1, t'.2.2.2), by rw [x_gN, a24], e⟩) (List.range ps.length) ([], best) t ⟨fun j hj => List.mem_range.mp hj, by
          rw [List.length_range]
          have h3 : ps.length * ps.length * ps.length ≤ 12 * 12 * 12 := Nat.mul_le_mul (Nat.mul_le_mul hl hl) hl
          simp only [List.length_nil]
          omega⟩
  obtain ⟨t', e⟩ := key
  have i2 : inRg (ps.length : Int) = true := inRg_lo (by omega) (by omega)
  have i3 : ((ps.length : Int)).toNat = ps.length := by omega
  refine ⟨t', ?_⟩
  have ef := fold_pair (ra2 ps) (fun best i => (List.range ps.length).foldl (fun best j => if lok ps i j then max best (cnt ps (gp ps i) (gp ps j)) else best) best) (List.range ps.length) (([], best) : List T3 × Int)
  rw [ef] at e
  simp only [x_for, x_rg1, x_cons, x_nil, x_n, x_var, h.d2, bind_ok, len_map, of_some, i2, if_true, i3, ofR_ok, up_map0]
  rw [← et] at e
  rw [e]
  unfold lbest ra
  rw [← hb, List.nil_append]
theorem l21a (h0 : ps ≠ []) : (sPar 22 23 (aCons (eLst (aNil)) (aCons (eN hMax (aCons (eLc (aIt (eVar 2)) (gN 14) (tYes1) (eM "list" hCount (eVar 2) (aCons (eVar 14) (aNil))) [14]) (aNil))) (aNil)))) env st = .nx ((env.set 22 (.v (.lst []))).set 23 (.v (.int (mxI (ps.map fun p => (ps.count p : Int)))))) st := by
  have n1 : ps.map (fun p => (ps.count p : Int)) ≠ [] := by simpa using h0
  have g (y : Sl) : (env.set 14 y)[14]? = some y := set_g (by rw [h.len]; omega)
  have d2 (y : Sl) : (env.set 14 y)[2]? = some (.v (.lst (ps.map pt))) := by rw [List.getElem?_set_ne (by decide), h.d2]
  have lc := lc_map (env := env.set 14 .un) (st := st) (t := gN 14) (e := (eM "list" hCount (eVar 2) (aCons (eVar 14) (aNil)))) pt (fun p => .int (ps.count p : Nat)) ps fun p _ => ⟨_, rfl, by simp [g, d2, D.isT, h_cnt]⟩
  have em : (ps.map fun p => D.int (ps.count p : Nat)) = (ps.map fun p => (ps.count p : Int)).map .int := by rw [List.map_map]; rfl
  have m1 := h_maxL (st := st) n1
  have le0 : (if ([] : List D).length ≤ 100000 then (R.ok (D.lst []) st) else .bad) = R.ok (D.lst []) st := rfl
  simp only [x_par, x_cons, x_nil, x_lst, x_n, bind_ok, le0, x_lc, x_it, x_var, h.d2, x_itL, List.length_map, show ps.length ≤ 100000 by omega, if_true, x_wipe, x_wipe0, lc, em, m1, of_some]
  rfl
theorem l22 (h0 : ps ≠ []) (h22 : env[22]? = some (.v (.lst ((ra ps).map tr3)))) (h23 : env[23]? = some (.v (.int (lbest ps)))) : s_law_22 env st = .nx env st := by
  have f1 : D.fit 60 (.lst ((ra ps).map tr3)) = true := by rw [fit_lst]; exact fits_map _ (fun x => by simp) _
  have c1 (st) := ne_self (st := st) f1
  have r1 (st) := r_ra (st := st) hs hl
  have r2 (st) := r_mil (st := st) hs h0 (by omega)
  rw [mil_lbest ps h0] at r2
  simp only [s_law_22, x_sif, x_or2, x_cmp, x_op, x_n, x_call, x_cons, x_nil, x_var, h.d2, h22, h23, bind_ok, List.append_nil, r1, r2, list_t, of_some, c1, h_nei]
  simp
end
theorem r_points (s : Dc) {env : List Sl} (hl : env.length = 30) (h1 : env[1]? = some (.v (.ref 0))) : ∃ (ps : List P) (s' : Dc), (sSet 2 (eLc (aRg1 (aCons (eOp hAdd (eC (.int 3)) (eCallD f__law_roll [] (aCons (eVar 1) (aCons (eC (.int 6)) (aNil))))) (aNil))) (gN 27) (tYes1) (eCallD f__law_point [] (aCons (eVar 1) (aNil))) [27])) env (dO s) = .nx (env.set 2 (.v (.lst (ps.map pt)))) (dO s') ∧ 3 ≤ ps.length ∧ ps.length ≤ 8 ∧ ∀ p ∈ ps, Dr p := by
  obtain ⟨r, s1, q1, q2, q3⟩ := r_roll (m := 6) s (by omega) (by omega)
  have d1 (y : Sl) : (env.set 27 y)[1]? = some (.v (.ref 0)) := by rw [List.getElem?_set_ne (by decide), h1]
  obtain ⟨ps, s', e, el, hp⟩ := lc_eff (env := env.set 27 .un) (t := gN 27) (e := eCallD f__law_point [] (aCons (eVar 1) (aNil))) dO (fun k : Nat => D.int (k : Nat)) pt Dr (List.range (3 + r).toNat) (fun k _ s => by
    obtain ⟨p, s2, e, d⟩ := r_point s
    exact ⟨_, p, s2, rfl, by simp only [x_gN, List.set_set, x_call, x_cons, x_nil, x_var, d1, bind_ok, List.append_nil, e], d⟩) s1
  rw [List.length_range] at el
  have i1 : inRg (3 + r) = true := inRg_lo (by omega) (by omega)
  refine ⟨ps, s', ?_, by omega, by omega, hp⟩
  simp only [x_set, x_lc, x_rg1, x_cons, x_nil, x_op, x_c, x_call, x_var, h1, bind_ok, List.append_nil, q1, h_add, of_some, i1, if_true, up_map0, List.length_map, List.length_range, x_wipe, x_wipe0]
  rw [if_pos (by omega), e]
  simp only [bind_ok, ofR_ok]
end K01

set_option Elab.async false
set_option linter.all false
set_option maxRecDepth 100000
set_option maxHeartbeats 1000000
namespace K01
open PySem DV
theorem E1.up {ps : List P} {a b c : P} {env : List Sl} (hl : env.length = 30) (h1 : env[1]? = some (.v (.ref 0))) : E1 ps a b c ((((env.set 2 (.v (.lst (ps.map pt)))).set 3 (.v (pt a))).set 4 (.v (pt b))).set 5 (.v (pt c))) where
  len := by simp [hl]
  d1 := by rw [List.getElem?_set_ne (by decide), List.getElem?_set_ne (by decide), List.getElem?_set_ne (by decide), List.getElem?_set_ne (by decide), h1]
  d2 := by rw [List.getElem?_set_ne (by decide), List.getElem?_set_ne (by decide), List.getElem?_set_ne (by decide)]; exact set_g (by omega)
  d3 := by rw [List.getElem?_set_ne (by decide), List.getElem?_set_ne (by decide)]; exact set_g (by simp; omega)
  d4 := by rw [List.getElem?_set_ne (by decide)]; exact set_g (by simp; omega)
  d5 := set_g (by simp; omega)
abbrev lawbody : SF := (sSeq (sSet 2 (eLc (aRg1 (aCons (eOp hAdd (eC (.int 3)) (eCallD f__law_roll [] (aCons (eVar 1) (aCons (eC (.int 6)) (aNil))))) (aNil))) (gN 27) (tYes1) (eCallD f__law_point [] (aCons (eVar 1) (aNil))) [27])) (sSeq (sAsg (eSl (eVar 2) (oNone) (oSome (eC (.int 3)))) (gT [gN 3, gN 4, gN 5])) (sSeq (s_law_0) (sSeq (s_law_1) (sSeq (s_law_2) (sSeq (sSet 9 (eLst (aCons (eN hMax (aCons (eVar 7) (aCons (eUn hNeg (eVar 7)) (aNil)))) (aCons (eN hMax (aCons (eVar 8) (aCons (eUn hNeg (eVar 8)) (aNil)))) (aNil))))) (sSeq (s_law_3) (sSeq (s_law_4) (sSeq (s_law_5) (sSeq (s_law_6) (sSeq (sSet 12 (eLc (aIt (eVar 2)) (gN 14) (tCmpD (hNe) (eVar 14) (eVar 3)) (eVar 14) [14])) (sSeq (sSet 13 (eCallD f_in_round [] (aCons (eVar 3) (aCons (eVar 12) (aNil))))) (sSeq (s_law_7) (sSeq (s_law_8) (sSeq (s_law_9) (sSeq (sFor (aIt (eVar 2)) (gN 14) (sSeq (s_law_10) (sSeq (s_law_11) (s_law_12)))) (sSeq (s_law_13) (sSeq (s_law_14) (sSeq (sIf (tOr2 (tCmpD (hNe) (eCallD f_box_of [] (aCons (eVar 2) (aNil))) (eVar 17)) (tCmpD (hNe) (eCallD f_middle_of [] (aCons (eVar 2) (aNil))) (eVar 18))) (sRet (eC (.bl false))) (sNx)) (sSeq (sSet 19 (eCallD f_box_of [] (aCons (eLst (aCons (eCallD f__law_point [] (aCons (eVar 1) (aNil))) (aCons (eCallD f__law_point [] (aCons (eVar 1) (aNil))) (aNil)))) (aNil)))) (sSeq (sSet 20 (eCallD f__law_shared [] (aCons (eVar 17) (aCons (eVar 19) (aNil))))) (sSeq (sIf (tCmpD (hNe) (eCallD f_boxes_meet [] (aCons (eVar 17) (aCons (eVar 19) (aNil)))) (eOp (hNe) (eVar 20) (eLst (aNil)))) (sRet (eC (.bl false))) (sNx)) (sSeq (s_law_15) (sSeq (s_law_16) (sSeq (sIf (tCmpD (hNe) (eOp hIx (eCallD f_steps_between [] (aCons (eVar 3) (aCons (eVar 4) (aNil)))) (eUn hNeg (eC (.int 1)))) (eVar 4)) (sRet (eC (.bl false))) (sNx)) (sSeq (sPar 22 23 (aCons (eLst (aNil)) (aCons (eN hMax (aCons (eLc (aIt (eVar 2)) (gN 14) (tYes1) (eM "list" hCount (eVar 2) (aCons (eVar 14) (aNil))) [14]) (aNil))) (aNil)))) (sSeq (sFor (aRg1 (aCons (eN hLen (aCons (eVar 2) (aNil))) (aNil))) (gN 24) (s_law_21)) (s_law_22))))))))))))))))))))))))))))
theorem law_turn (s : Dc) (env : List Sl) (hl : env.length = 30) (h1 : env[1]? = some (.v (.ref 0))) : ∃ env' s', lawbody env (dO s) = .nx env' (dO s') := by
  obtain ⟨ps, s1, e1, n3, n8, hd⟩ := r_points s hl h1
  have hs : ∀ p ∈ ps, Sm p := fun p hp => (hd p hp).sm
  obtain ⟨a, b, c, r, ep⟩ : ∃ a b c r, ps = a :: b :: c :: r := by
    match ps, n3 with
    | a :: b :: c :: r, _ => exact ⟨a, b, c, r, rfl⟩
  have h0 : ps ≠ [] := by rw [ep]; simp
  have da : Dr a := hd a (by rw [ep]; simp)
  have db : Dr b := hd b (by rw [ep]; simp)
  have dc : Dr c := hd c (by rw [ep]; simp)
  rw [lawbody, seq_nx e1]
  -- one, two, three
  have e2 : (sAsg (eSl (eVar 2) (oNone) (oSome (eC (.int 3)))) (gT [gN 3, gN 4, gN 5])) (env.set 2 (.v (.lst (ps.map pt)))) (dO s1) = .nx ((((env.set 2 (.v (.lst (ps.map pt)))).set 3 (.v (pt a))).set 4 (.v (pt b))).set 5 (.v (pt c))) (dO s1) := by
    have g2 : (env.set 2 (.v (.lst (ps.map pt))))[2]? = some (.v (.lst (ps.map pt))) := set_g (by omega)
    have ec : cutD (ps.map pt) none (some (3 : Int)) = [pt a, pt b, pt c] := by
      have := cut_hi (ps.map pt) 3
      rw [ep] at this ⊢
      simpa using this
    simp only [x_asg, x_sl, x_var, g2, x_none, x_some, x_c, bind_ok, sl_lst, of_some, ec, ofR_ok, x_gTl, x_gAll, x_gN, Option.bind_some, x_gAll0]
  rw [seq_nx e2]
  have E := E1.up (ps := ps) (a := a) (b := b) (c := c) hl h1
  generalize (((env.set 2 (.v (.lst (ps.map pt)))).set 3 (.v (pt a))).set 4 (.v (pt b))).set 5 (.v (pt c)) = env1 at E
  clear e1 e2 hl h1 env
  rw [seq_nx (l0 E da.sm db.sm dc.sm)]
  have E2 : E1 ps a b c (((env1.set 6 (.v (.int (cr a b c)))).set 7 (.v (.int (a.1 - b.1)))).set 8 (.v (.int (a.2 - b.2)))) := ((E.set (by omega)).set (by omega)).set (by omega)
  have g6 : (((env1.set 6 (.v (.int (cr a b c)))).set 7 (.v (.int (a.1 - b.1)))).set 8 (.v (.int (a.2 - b.2))))[6]? = some (.v (.int (cr a b c))) := by
    rw [List.getElem?_set_ne (by decide), List.getElem?_set_ne (by decide)]; exact set_g (by rw [E.len]; omega)
  have g7 : (((env1.set 6 (.v (.int (cr a b c)))).set 7 (.v (.int (a.1 - b.1)))).set 8 (.v (.int (a.2 - b.2))))[7]? = some (.v (.int (a.1 - b.1))) := by
    rw [List.getElem?_set_ne (by decide)]; exact set_g (by rw [List.length_set, E.len]; omega)
  have g8 : (((env1.set 6 (.v (.int (cr a b c)))).set 7 (.v (.int (a.1 - b.1)))).set 8 (.v (.int (a.2 - b.2))))[8]? = some (.v (.int (a.2 - b.2))) := set_g (by rw [List.length_set, List.length_set, E.len]; omega)
  generalize ((env1.set 6 (.v (.int (cr a b c)))).set 7 (.v (.int (a.1 - b.1)))).set 8 (.v (.int (a.2 - b.2))) = env2 at E2 g6 g7 g8
  clear E env1
  rw [seq_nx (l1 E2 da.sm db.sm dc.sm g6), seq_nx (l2 E2 da.sm db.sm dc.sm)]
  have e9 : (sSet 9 (eLst (aCons (eN hMax (aCons (eVar 7) (aCons (eUn hNeg (eVar 7)) (aNil)))) (aCons (eN hMax (aCons (eVar 8) (aCons (eUn hNeg (eVar 8)) (aNil)))) (aNil))))) env2 (dO s1) = .nx (env2.set 9 (.v (.lst [.int (max (a.1 - b.1) (-(a.1 - b.1))), .int (max (a.2 - b.2) (-(a.2 - b.2)))]))) (dO s1) := by
    simp only [x_set, x_lst, x_cons, x_nil, x_n, x_un, x_var, g7, g8, bind_ok, h_neg, of_some, h_max2, List.length_cons, List.length_nil]
    rw [if_pos (by omega)]
    rfl
  rw [seq_nx e9]
  have E3 : E1 ps a b c (env2.set 9 (.v (.lst [.int (max (a.1 - b.1) (-(a.1 - b.1))), .int (max (a.2 - b.2) (-(a.2 - b.2)))]))) := E2.set (by omega)
  rw [seq_nx (l3 da.sm db.sm E3 (by rw [List.getElem?_set_ne (by decide), g7]) (by rw [List.getElem?_set_ne (by decide), g8]) (set_g (by rw [E2.len]; omega)))]
  generalize env2.set 9 (.v (.lst [.int (max (a.1 - b.1) (-(a.1 - b.1))), .int (max (a.2 - b.2) (-(a.2 - b.2)))])) = env3 at E3
  clear E2 g6 g7 g8 e9 env2
  obtain ⟨t, u, s2, e4, t1, t2, u1, u2⟩ := l4 E3 s1
  rw [seq_nx e4]
  have E4 : E1 ps a b c ((env3.set 10 (.v (.int t))).set 11 (.v (.int u))) := (E3.set (by omega)).set (by omega)
  have g10 : ((env3.set 10 (.v (.int t))).set 11 (.v (.int u)))[10]? = some (.v (.int t)) := by rw [List.getElem?_set_ne (by decide)]; exact set_g (by rw [E3.len]; omega)
  have g11 : ((env3.set 10 (.v (.int t))).set 11 (.v (.int u)))[11]? = some (.v (.int u)) := set_g (by rw [List.length_set, E3.len]; omega)
  rw [seq_nx (l5 g10 g11 u1 u2), seq_nx (l6 E4.len g10 g11 t1 t2 u1 u2)]
  generalize (env3.set 10 (.v (.int t))).set 11 (.v (.int u)) = env4 at E4
  clear E3 e4 g10 g11 env3
  -- the rest, in order
  obtain ⟨rest, hrest⟩ : ∃ rest, rest = ps.filter fun p => decide (p ≠ a) := ⟨_, rfl⟩
  have hr : ∀ p ∈ rest, Sm p ∧ p ≠ a := fun p hp => by
    rw [hrest] at hp
    exact ⟨hs p (List.mem_filter.mp hp).1, by simpa using (List.mem_filter.mp hp).2⟩
  have hrl : rest.length ≤ 1000 := by
    have := List.length_filter_le (fun p => decide (p ≠ a)) ps
    rw [hrest]
    omega
  have e12 : (sSet 12 (eLc (aIt (eVar 2)) (gN 14) (tCmpD (hNe) (eVar 14) (eVar 3)) (eVar 14) [14])) env4 (dO s2) = .nx (env4.set 12 (.v (.lst (rest.map pt)))) (dO s2) := by
    rw [x_set, lrest E4 (by omega), ofR_ok, ← hrest]
  rw [seq_nx e12]
  have E5 : E1 ps a b c (env4.set 12 (.v (.lst (rest.map pt)))) := E4.set (by omega)
  have g12 : (env4.set 12 (.v (.lst (rest.map pt))))[12]? = some (.v (.lst (rest.map pt))) := set_g (by rw [E4.len]; omega)
  generalize env4.set 12 (.v (.lst (rest.map pt))) = env5 at E5 g12
  clear e12 E4 env4
  have e13 : (sSet 13 (eCallD f_in_round [] (aCons (eVar 3) (aCons (eVar 12) (aNil))))) env5 (dO s2) = .nx (env5.set 13 (.v (.tup ((rnd a rest).map pt)))) (dO s2) := by
    have rr := r_round (st := dO s2) da.sm hr (by omega)
    simp only [x_set, x_call, x_cons, x_nil, x_var, E5.d3, g12, bind_ok, List.append_nil, rr, ofR_ok]
  rw [seq_nx e13]
  have E6 : E1 ps a b c (env5.set 13 (.v (.tup ((rnd a rest).map pt)))) := E5.set (by omega)
  have g12' : (env5.set 13 (.v (.tup ((rnd a rest).map pt))))[12]? = some (.v (.lst (rest.map pt))) := by rw [List.getElem?_set_ne (by decide), g12]
  rw [seq_nx (l7 E6 da.sm hr hrl g12' (set_g (by rw [E5.len]; omega))), seq_nx (l8 E6 da.sm hr hrl g12'), seq_nx (l9 E6 da.sm hr hrl g12')]
  generalize env5.set 13 (.v (.tup ((rnd a rest).map pt))) = env6 at E6
  clear e13 E5 g12 g12' env5
  -- each point
  obtain ⟨t0, et0⟩ := mk3_ex E6.len
  obtain ⟨t1', ef⟩ := for_see (st := dO s2) (t := gN 14) (b := lbody) pt (fun t => mk3 env6 t) ps t0 fun p hp t => by
    obtain ⟨t', e⟩ := lloop (st := dO s2) E6 da.sm db.sm (hs p hp) t
    exact ⟨_, t', rfl, e⟩
  have e14 : (sFor (aIt (eVar 2)) (gN 14) (sSeq (s_law_10) (sSeq (s_law_11) (s_law_12)))) env6 (dO s2) = .nx (mk3 env6 t1') (dO s2) := by
    rw [← et0] at ef
    simp only [x_for, x_it, x_var, E6.d2, bind_ok, x_itL, ofR_ok]
    exact ef
  rw [seq_nx e14]
  have E7 : E1 ps a b c (mk3 env6 t1') := ((E6.set (by omega)).set (by omega)).set (by omega)
  generalize mk3 env6 t1' = env7 at E7
  clear e14 ef et0 E6 env6
  -- boxes
  rw [seq_nx (l13 E7 h0 (by omega))]
  have E8 : E1 ps a b c (env7.set 17 (.v (boxD ps))) := E7.set (by omega)
  rw [seq_nx (l14 E8 h0 (by omega))]
  have E9 : E1 ps a b c ((env7.set 17 (.v (boxD ps))).set 18 (.v (meanD ps))) := E8.set (by omega)
  have g17 : ((env7.set 17 (.v (boxD ps))).set 18 (.v (meanD ps)))[17]? = some (.v (boxD ps)) := by rw [List.getElem?_set_ne (by decide)]; exact set_g (by rw [E7.len]; omega)
  rw [seq_nx (l14b E9 h0 (by omega) hs g17 (set_g (by rw [E8.len]; omega)))]
  generalize (env7.set 17 (.v (boxD ps))).set 18 (.v (meanD ps)) = env8 at E9 g17
  clear E7 E8 env7
  obtain ⟨p, q, s3, e19, dp, dq⟩ := lother E9 s2
  rw [seq_nx e19]
  have E10 : E1 ps a b c (env8.set 19 (.v (boxD [p, q]))) := E9.set (by omega)
  have g17' : (env8.set 19 (.v (boxD [p, q])))[17]? = some (.v (boxD ps)) := by rw [List.getElem?_set_ne (by decide), g17]
  have g19 : (env8.set 19 (.v (boxD [p, q])))[19]? = some (.v (boxD [p, q])) := set_g (by rw [E9.len]; omega)
  generalize env8.set 19 (.v (boxD [p, q])) = env9 at E10 g17' g19
  clear e19 E9 g17 env8
  have e20 : (sSet 20 (eCallD f__law_shared [] (aCons (eVar 17) (aCons (eVar 19) (aNil))))) env9 (dO s3) = .nx (env9.set 20 (.v (.lst ((sh (bxl ps) (bxb ps) (bxr ps) (bxt ps) (bxl [p, q]) (bxb [p, q]) (bxr [p, q]) (bxt [p, q])).map pt)))) (dO s3) := by
    simp only [x_set, x_call, x_cons, x_nil, x_var, g17', g19, bind_ok, List.append_nil, boxD, r_shared, ofR_ok]
    rfl
  rw [seq_nx e20]
  have E11 := E10.set (k := 20) (x := .v (.lst ((sh (bxl ps) (bxb ps) (bxr ps) (bxt ps) (bxl [p, q]) (bxb [p, q]) (bxr [p, q]) (bxt [p, q])).map pt))) (by omega)
  rw [seq_nx (lmeet (box_ok ps h0 hd) (box_ok [p, q] (by simp) (by intro z hz; rcases List.mem_cons.mp hz with rfl | hz; exact dp; rw [List.mem_singleton.mp hz]; exact dq)) (by rw [List.getElem?_set_ne (by decide), g17']) (by rw [List.getElem?_set_ne (by decide), g19]) (set_g (by rw [E10.len]; omega)))]
  generalize env9.set 20 (.v (.lst ((sh (bxl ps) (bxb ps) (bxr ps) (bxt ps) (bxl [p, q]) (bxb [p, q]) (bxr [p, q]) (bxt [p, q])).map pt))) = env10 at E11
  clear e20 E10 g17' g19 env9
  -- steps
  rw [seq_nx (l15 E11 da.sm db.sm)]
  have E12 : E1 ps a b c (env10.set 21 (.v (.lst ((stF a b).map pt)))) := E11.set (by omega)
  rw [seq_nx (l16 E12 da db (set_g (by rw [E11.len]; omega))), seq_nx (l16b E12 da db)]
  generalize env10.set 21 (.v (.lst ((stF a b).map pt))) = env11 at E12
  clear E11 env10
  -- rows
  rw [seq_nx (l21a E12 hs (by omega) h0)]
  have E13 : E1 ps a b c ((env11.set 22 (.v (.lst []))).set 23 (.v (.int (mxI (ps.map fun p => (ps.count p : Int)))))) := (E12.set (by omega)).set (by omega)
  obtain ⟨t', e24⟩ := m22 (st := dO s3) E13 hs (by omega) _ (by rw [List.getElem?_set_ne (by decide)]; exact set_g (by rw [E12.len]; omega)) (set_g (by rw [List.length_set, E12.len]; omega)) rfl
  rw [seq_nx e24, l22 (A1 _ _ E13) hs (by omega) h0 (b22 _ _ E13.len) (b23 _ _ E13.len)]
  exact ⟨_, _, rfl⟩
theorem plain_law : ∀ ns : List Int, ns.length ≤ 63 → (∀ z ∈ ns, Builtin.Int.intBits z ≤ 1048576) → ∃ st, f_law [.frz (ns.map .int)] [] = .ok (.bl true) st := by
  intro ns _ _
  obtain ⟨s, hr⟩ := r_rounds (ns := ns)
  obtain ⟨env', s', ht⟩ := law_turn s ((startE 30 [.frz (ns.map .int)]).set 1 (.v (.ref 0))) rfl rfl
  refine ⟨dO s', ?_⟩
  have e0 : s_law_23 (startE 30 [.frz (ns.map .int)]) [] = .nx env' (dO s') := by
    have g0 : (startE 30 [.frz (ns.map .int)])[0]? = some (.v (.frz (ns.map .int))) := rfl
    simp only [s_law_23, x_for, x_it, x_call, x_cons, x_nil, x_var, g0, x_c, bind_ok, List.append_nil, hr, x_itL, ofR_ok, forD, x_gN]
    rw [lawbody] at ht
    rw [ht]
  simp only [f_law, x_run, b_law]
  rw [seq_nx e0]
  simp only [x_ret, x_call, x_nil, bind_ok, List.nil_append, r_plain, ofR_ok]
  rfl
end K01

set_option Elab.async false
set_option linter.all false
set_option maxRecDepth 100000
open PySem PySem.W PyProof.Rows
set_option pp.maxSteps 200 in
set_option pp.deepTerms false in
set_option maxHeartbeats 0 in
theorem PySem.Challenge.cw_flatstack_k01_points_and_their_sides_holds : PySem.Challenge.rw_flatstack_k01_points_and_their_sides.Holds := by
  w_on; o_law; k_head; (case hw => w_witness2)
  k_fill
  refine DV.walk_ofTop (l := PySem.Challenge.rw_flatstack_k01_points_and_their_sides) (n := 63) (k := 9) (x := "script") (CX := fun w => L2.CX PySem.Challenge.pw_flatstack_k01_points_and_their_sides w) rfl (by decide) rfl ⟨rfl, by decide, by decide⟩ (fun w h Y => PySem.W.km_in_of Y) ?F ?hCX
  case F =>
    intro w s0 s1 mg mb fa Y KX G hmg
    refine' K01.law_end (w := w) KX G.T hmg ?a_check_point ?l_check_point ?q_check_point ?k_check_point ?a_cross_of ?l_cross_of ?q_cross_of ?k_cross_of ?a_side_of ?l_side_of ?q_side_of ?k_side_of ?a_dot_of ?l_dot_of ?q_dot_of ?k_dot_of ?a_square_far ?l_square_far ?q_square_far ?k_square_far ?a_block_far ?l_block_far ?q_block_far ?k_block_far ?a_king_far ?l_king_far ?q_king_far ?k_king_far ?a_whole_common ?l_whole_common ?q_whole_common ?k_whole_common ?a_broken ?l_broken ?q_broken ?k_broken ?a_half_of ?l_half_of ?q_half_of ?k_half_of ?a_turns_ahead ?l_turns_ahead ?q_turns_ahead ?k_turns_ahead ?a_in_round ?l_in_round ?q_in_round ?k_in_round ?a_is_between ?l_is_between ?q_is_between ?k_is_between ?a_box_of ?l_box_of ?q_box_of ?k_box_of ?a_boxes_meet ?l_boxes_meet ?q_boxes_meet ?k_boxes_meet ?a_middle_of ?l_middle_of ?q_middle_of ?k_middle_of ?a_steps_between ?l_steps_between ?q_steps_between ?k_steps_between ?a_right_angles ?l_right_angles ?q_right_angles ?k_right_angles ?a_most_in_line ?l_most_in_line ?q_most_in_line ?k_most_in_line ?a__law_dice ?l__law_dice ?q__law_dice ?k__law_dice ?a__law_roll ?l__law_roll ?q__law_roll ?k__law_roll ?a__law_rounds ?l__law_rounds ?q__law_rounds ?k__law_rounds ?a__law_told ?l__law_told ?q__law_told ?k__law_told ?a__law_low ?l__law_low ?q__law_low ?k__law_low ?a__law_turn ?l__law_turn ?q__law_turn ?k__law_turn ?a__law_point ?l__law_point ?q__law_point ?k__law_point ?a__law_quarter ?l__law_quarter ?q__law_quarter ?k__law_quarter ?a__law_ahead ?l__law_ahead ?q__law_ahead ?k__law_ahead ?a__law_board ?l__law_board ?q__law_board ?k__law_board ?a__law_shared ?l__law_shared ?q__law_shared ?k__law_shared ?a__law_plain ?l__law_plain ?q__law_plain ?k__law_plain ?a_law ?l_law ?q_law ?k_law ?lc_middle_of ?p_middle_of ?r_middle_of ?n_middle_of ?lc_steps_between ?p_steps_between ?r_steps_between ?n_steps_between ?lc_most_in_line ?p_most_in_line ?r_most_in_line ?n_most_in_line ?lc__law_plain ?p__law_plain ?r__law_plain ?n__law_plain ?lc_law ?p_law ?r_law ?n_law ?z_abs ?z_enumerate ?z_int ?z_len ?z_list ?z_max ?z_min ?z_range ?z_sorted ?z_sum ?z_tuple ?z_zip ?c_FAR ?e1 ?e2 ?e3 ?e4 ?e5 ?e6 ?u_ K01.plain_law
    case a_check_point => k_is
    case l_check_point => k_is
    case q_check_point => k_is
    case k_check_point => k_is
    case a_cross_of => k_is
    case l_cross_of => k_is
    case q_cross_of => k_is
    case k_cross_of => k_is
    case a_side_of => k_is
    case l_side_of => k_is
    case q_side_of => k_is
    case k_side_of => k_is
    case a_dot_of => k_is
    case l_dot_of => k_is
    case q_dot_of => k_is
    case k_dot_of => k_is
    case a_square_far => k_is
    case l_square_far => k_is
    case q_square_far => k_is
    case k_square_far => k_is
    case a_block_far => k_is
    case l_block_far => k_is
    case q_block_far => k_is
    case k_block_far => k_is
    case a_king_far => k_is
    case l_king_far => k_is
    case q_king_far => k_is
    case k_king_far => k_is
    case a_whole_common => k_is
    case l_whole_common => k_is
    case q_whole_common => k_is
    case k_whole_common => k_is
    case a_broken => k_is
    case l_broken => k_is
    case q_broken => k_is
    case k_broken => k_is
    case a_half_of => k_is
    case l_half_of => k_is
    case q_half_of => k_is
    case k_half_of => k_is
    case a_turns_ahead => k_is
    case l_turns_ahead => k_is
    case q_turns_ahead => k_is
    case k_turns_ahead => k_is
    case a_in_round => k_is
    case l_in_round => k_is
    case q_in_round => k_is
    case k_in_round => k_is
    case a_is_between => k_is
    case l_is_between => k_is
    case q_is_between => k_is
    case k_is_between => k_is
    case a_box_of => k_is
    case l_box_of => k_is
    case q_box_of => k_is
    case k_box_of => k_is
    case a_boxes_meet => k_is
    case l_boxes_meet => k_is
    case q_boxes_meet => k_is
    case k_boxes_meet => k_is
    case a_middle_of => k_is
    case l_middle_of => k_is
    case q_middle_of => k_is
    case k_middle_of => k_is
    case a_steps_between => k_is
    case l_steps_between => k_is
    case q_steps_between => k_is
    case k_steps_between => k_is
    case a_right_angles => k_is
    case l_right_angles => k_is
    case q_right_angles => k_is
    case k_right_angles => k_is
    case a_most_in_line => k_is
    case l_most_in_line => k_is
    case q_most_in_line => k_is
    case k_most_in_line => k_is
    case a__law_dice => k_is
    case l__law_dice => k_is
    case q__law_dice => k_is
    case k__law_dice => k_is
    case a__law_roll => k_is
    case l__law_roll => k_is
    case q__law_roll => k_is
    case k__law_roll => k_is
    case a__law_rounds => k_is
    case l__law_rounds => k_is
    case q__law_rounds => k_is
    case k__law_rounds => k_is
    case a__law_told => k_is
    case l__law_told => k_is
    case q__law_told => k_is
    case k__law_told => k_is
    case a__law_low => k_is
    case l__law_low => k_is
    case q__law_low => k_is
    case k__law_low => k_is
    case a__law_turn => k_is
    case l__law_turn => k_is
    case q__law_turn => k_is
    case k__law_turn => k_is
    case a__law_point => k_is
    case l__law_point => k_is
    case q__law_point => k_is
    case k__law_point => k_is
    case a__law_quarter => k_is
    case l__law_quarter => k_is
    case q__law_quarter => k_is
    case k__law_quarter => k_is
    case a__law_ahead => k_is
    case l__law_ahead => k_is
    case q__law_ahead => k_is
    case k__law_ahead => k_is
    case a__law_board => k_is
    case l__law_board => k_is
    case q__law_board => k_is
    case k__law_board => k_is
    case a__law_shared => k_is
    case l__law_shared => k_is
    case q__law_shared => k_is
    case k__law_shared => k_is
    case a__law_plain => k_is
    case l__law_plain => k_is
    case q__law_plain => k_is
    case k__law_plain => k_is
    case a_law => k_is
    case l_law => k_is
    case q_law => k_is
    case k_law => k_is
    case lc_middle_of => k_is
    case p_middle_of => rfl
    case r_middle_of => kernel_rfl
    case n_middle_of => kernel_rfl
    case lc_steps_between => k_is
    case p_steps_between => rfl
    case r_steps_between => kernel_rfl
    case n_steps_between => kernel_rfl
    case lc_most_in_line => k_is
    case p_most_in_line => rfl
    case r_most_in_line => kernel_rfl
    case n_most_in_line => kernel_rfl
    case lc__law_plain => k_is
    case p__law_plain => rfl
    case r__law_plain => kernel_rfl
    case n__law_plain => kernel_rfl
    case lc_law => k_is
    case p_law => rfl
    case r_law => kernel_rfl
    case n_law => kernel_rfl
    case z_abs => k_is
    case z_enumerate => k_is
    case z_int => k_is
    case z_len => k_is
    case z_list => k_is
    case z_max => k_is
    case z_min => k_is
    case z_range => k_is
    case z_sorted => k_is
    case z_sum => k_is
    case z_tuple => k_is
    case z_zip => k_is
    case c_FAR => k_is
    case e1 => k_is
    case e2 => k_exc
    case e3 => k_is
    case e4 => k_is
    case e5 => k_is
    case e6 => kernel_rfl
    case u_ => decide
  case hCX =>
    intro w H s e s' h
    obtain ⟨_, _, _, _, _, _, _, _, _, _, _, _, z⟩ := h
    exact z
