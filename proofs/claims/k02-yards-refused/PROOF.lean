import PyProof.Rows.All
import Wide.All
import OpenK.AllK
import Wide.FinOn
import HandS.ForMost
import HandS.ForExc
import HandS.ExcInit
import HandS.ExcField
import HandS.CallSlots
import HandS.Wide
import HandS.Style
import HandS.TryMany
import HandS.Deep
import HandS.Defaults
import HandS.TupAny
import HandS.MakeKwOnly
import KE.GoesEnum
import HandS.SortInts
import HandS.IsInst
import HandS.Conv
import HandS.IterVal
import HandS.ReCall
import KE.KIndexOf
import PyProof.ReprRoads
import HandS.Ends
import HandS.SetFor
import HandS.TupSets
import HandS.Strs
import HandS.Codes
import PySem.Challenge.RW_cellyards_k02_yards_refused
set_option Elab.async false
set_option linter.all false
set_option maxRecDepth 100000
set_option maxHeartbeats 4000000
/-! ZA: data as trees, slots, the monad of mirrors, the bridge to the hand layer. -/
namespace Z
open PySem PySem.Spec PyProof.Rows L2

/-- data, without a heap -/
inductive D where
  | non | bl (b : Bool) | int (i : Int) | str (x : Str)
  | lst (xs : List D) | tup (xs : List D) | pr (xs : List D)
  | dic (ks : List Key) (xs : List D)
  | ins (c : Str) (ns : List Str) (xs : List D)

/-- the module: its written part, its names -/
structure Amb where
  K : PySem.W.Frag
  mg : Str → Option Value

/-- a tuple of which it is known that it has no dict: laid so, or the module's -/
def PlT (K : PySem.W.Frag) (H : Hp) (a : Addr) (xs : List V) : Prop :=
  (∃ o, H a = some (.frz o (.tup xs)) ∧ o.dict = none) ∨ ∃ (o : Obj) (its : Array Value) (n : Nat), K.lookup a = some o ∧ o.dict = none ∧ o.cls = .type "tuple" ∧ o.data = .seq its n ∧ its.size ≤ sizeLine ∧ Vals xs its.toList
theorem PlT.sq {K : PySem.W.Frag} {H : Hp} {a : Addr} {xs : List V} (h : PlT K H a xs) : SqT K H a xs := by
  rcases h with ⟨o, h, _⟩ | ⟨o, its, n, h1, _, h2, h3, h4, h5⟩
  · exact .inl (.inr ⟨o, h⟩)
  · exact .inr ⟨o, its, n, h1, h2, h3, h4, h5⟩
theorem same_plT {K : PySem.W.Frag} {H H' : Hp} {a : Addr} {xs : List V} (e : Same H H') (h : PlT K H a xs) : PlT K H' a xs := by
  rcases h with ⟨o, h, d⟩ | h
  · exact .inl ⟨o, e _ _ h, d⟩
  · exact .inr h
mutual
/-- v shows d, in the part G of the heap that stays -/
inductive Im (A : Amb) (G : Hp) : V → D → Prop
  | non : Im A G .non .non
  | bl (b : Bool) : Im A G (.bl b) (.bl b)
  | int (i : Int) : Im A G (.int i) (.int i)
  | str (x : Str) : Im A G (.str x) (.str x)
  | lst {a : Addr} {vs : List V} {ds : List D} : SqL A.K G a vs → Ims A G vs ds → Im A G (.ref a) (.lst ds)
  | tup {a : Addr} {vs : List V} {ds : List D} : PlT A.K G a vs → Ims A G vs ds → Im A G (.ref a) (.tup ds)
  | pr {a : Addr} {vs : List V} {ds : List D} : SqT A.K G a vs → Ims A G vs ds → Im A G (.ref a) (.pr ds)
  | dic {a : Addr} {kvs : List (Key × V)} {ks : List Key} {ds : List D} : G a = some (.dK kvs) → kvs.map (·.1) = ks → Ims A G (kvs.map (·.2)) ds → Im A G (.ref a) (.dic ks ds)
  | ins {a C dx : Addr} {fs : List (Str × V)} {c : Str} {ns : List Str} {ds : List D} : A.mg c = some (.ref C) → G a = some (.ins C dx fs) → fs.map (·.1) = ns → Ims A G (fs.map (·.2)) ds → Im A G (.ref a) (.ins c ns ds)
inductive Ims (A : Amb) (G : Hp) : List V → List D → Prop
  | nil : Ims A G [] []
  | cons {v : V} {d : D} {vs : List V} {ds : List D} : Im A G v d → Ims A G vs ds → Ims A G (v :: vs) (d :: ds)
end

section
variable {A : Amb} {G G' H : Hp}
theorem same_sqT {K : PySem.W.Frag} {H H' : Hp} {a : Addr} {xs : List V} (e : Same H H') (h : SqT K H a xs) : SqT K H' a xs := by
  rcases h with (h | ⟨o, h⟩) | h
  · exact .inl (.inl (e _ _ h))
  · exact .inl (.inr ⟨o, e _ _ h⟩)
  · exact .inr h
mutual
theorem Im.mono (e : Same G G') : ∀ {v : V} {d : D}, Im A G v d → Im A G' v d
  | _, _, .non => .non
  | _, _, .bl b => .bl b
  | _, _, .int i => .int i
  | _, _, .str x => .str x
  | _, _, .lst h r => .lst (e.seq h) (Ims.mono e r)
  | _, _, .tup h r => .tup (same_plT e h) (Ims.mono e r)
  | _, _, .pr h r => .pr (same_sqT e h) (Ims.mono e r)
  | _, _, .dic h n r => .dic (e _ _ h) n (Ims.mono e r)
  | _, _, .ins m h n r => .ins m (e _ _ h) n (Ims.mono e r)
theorem Ims.mono (e : Same G G') : ∀ {vs : List V} {ds : List D}, Ims A G vs ds → Ims A G' vs ds
  | _, _, .nil => .nil
  | _, _, .cons h r => .cons (Im.mono e h) (Ims.mono e r)
end
theorem Ims.length : ∀ {vs : List V} {ds : List D}, Ims A G vs ds → vs.length = ds.length
  | _, _, .nil => rfl
  | _, _, .cons _ r => congrArg Nat.succ (Ims.length r)
theorem Ims.get : ∀ {vs : List V} {ds : List D} {i : Nat} {d : D}, Ims A G vs ds → ds[i]? = some d → ∃ v, vs[i]? = some v ∧ Im A G v d
  | _, _, _, _, .nil, e => by simp at e
  | _, _, 0, _, .cons h _, e => by
    simp at e
    subst e
    exact ⟨_, rfl, h⟩
  | _, _, i + 1, _, .cons _ r, e => by
    obtain ⟨v, h1, h2⟩ := Ims.get (i := i) r (by simpa using e)
    exact ⟨v, by simpa using h1, h2⟩
theorem Ims.getV : ∀ {vs : List V} {ds : List D} {i : Nat} {v : V}, Ims A G vs ds → vs[i]? = some v → ∃ d, ds[i]? = some d ∧ Im A G v d
  | _, _, _, _, .nil, e => by simp at e
  | _, _, 0, _, .cons h _, e => by
    simp at e
    subst e
    exact ⟨_, rfl, h⟩
  | _, _, i + 1, _, .cons _ r, e => by
    obtain ⟨v, h1, h2⟩ := Ims.getV (i := i) r (by simpa using e)
    exact ⟨v, by simpa using h1, h2⟩
theorem Ims.append : ∀ {vs ws : List V} {ds es : List D}, Ims A G vs ds → Ims A G ws es → Ims A G (vs ++ ws) (ds ++ es)
  | _, _, _, _, .nil, s => s
  | _, _, _, _, .cons h r, s => .cons h (Ims.append r s)
theorem Ims.take : ∀ {vs : List V} {ds : List D} (n : Nat), Ims A G vs ds → Ims A G (vs.take n) (ds.take n)
  | _, _, 0, _ => .nil
  | _, _, _ + 1, .nil => .nil
  | _, _, n + 1, .cons h r => .cons h (Ims.take n r)
theorem Ims.drop : ∀ {vs : List V} {ds : List D} (n : Nat), Ims A G vs ds → Ims A G (vs.drop n) (ds.drop n)
  | _, _, 0, r => r
  | _, _, _ + 1, .nil => .nil
  | _, _, n + 1, .cons _ r => Ims.drop n r
theorem Ims.reverse {vs : List V} {ds : List D} (h : Ims A G vs ds) : Ims A G vs.reverse ds.reverse := by
  induction vs generalizing ds with
  | nil => cases h; exact .nil
  | cons v vs ih =>
    cases h with
    | cons h r =>
      rw [List.reverse_cons, List.reverse_cons]
      exact (ih r).append (.cons h .nil)
theorem Ims.set {v : V} {d : D} (h : Im A G v d) : ∀ {vs : List V} {ds : List D} (i : Nat), Ims A G vs ds → Ims A G (vs.set i v) (ds.set i d)
  | _, _, _, .nil => .nil
  | _, _, 0, .cons _ r => .cons h r
  | _, _, i + 1, .cons q r => .cons q (Ims.set h i r)
theorem Ims.erase : ∀ {vs : List V} {ds : List D} (i : Nat), Ims A G vs ds → Ims A G (vs.eraseIdx i) (ds.eraseIdx i)
  | _, _, _, .nil => .nil
  | _, _, 0, .cons _ r => r
  | _, _, i + 1, .cons q r => .cons q (Ims.erase i r)
theorem Ims.dropLast {vs : List V} {ds : List D} (h : Ims A G vs ds) : Ims A G vs.dropLast ds.dropLast := by
  rw [List.dropLast_eq_take, List.dropLast_eq_take, h.length]
  exact h.take _
theorem Ims.one {v : V} {d : D} (h : Im A G v d) : Ims A G [v] [d] := .cons h .nil
end

/-- what a slot that changes holds -/
inductive Cell where
  | lst (ds : List D)
  | ins (c : Str) (ns : List Str) (ds : List D)
  | dct (kvs : List (D × D))

/-- at l, in H, stands c; what is within stays (G) -/
def CellAt (A : Amb) (G H : Hp) (l : Addr) : Cell → Prop
  | .lst ds => ∃ vs, H l = some (.lst vs) ∧ Ims A G vs ds
  | .ins c ns ds => ∃ (C dx : Addr) (fs : List (Str × V)), A.mg c = some (.ref C) ∧ H l = some (.ins C dx fs) ∧ fs.map (·.1) = ns ∧ Ims A G (fs.map (·.2)) ds
  | .dct _ => False
theorem CellAt.mono {A : Amb} {G G' H H' : Hp} {l : Addr} (e : Same G G') (eh : H' l = H l) : ∀ {c : Cell}, CellAt A G H l c → CellAt A G' H' l c
  | .lst ds, ⟨vs, h, r⟩ => ⟨vs, eh.trans h, r.mono e⟩
  | .ins c ns ds, ⟨C, dx, fs, m, h, n, r⟩ => ⟨C, dx, fs, m, eh.trans h, n, r.mono e⟩
theorem CellAt.some {A : Amb} {G H : Hp} {l : Addr} : ∀ {c : Cell}, CellAt A G H l c → ∃ o, H l = some o
  | .lst ds, ⟨vs, h, r⟩ => ⟨_, h⟩
  | .ins c ns ds, ⟨C, dx, fs, m, h, n, r⟩ => ⟨_, h⟩
theorem CellAt.mut {A : Amb} {G H : Hp} {l : Addr} : ∀ {c : Cell}, CellAt A G H l c → Mut (H l)
  | .lst ds, ⟨vs, h, r⟩ => by rw [h]; exact True.intro
  | .ins c ns ds, ⟨C, dx, fs, m, h, n, r⟩ => by rw [h]; exact True.intro

/-- an exception: its class, its fields -/
structure Ex where
  c : Str
  ns : List Str
  ds : List D
/-- a slot: nothing known; a datum; an object of ours alone (p: a parameter's) -/
inductive Sl where
  | no
  | val (d : D)
  | cel (p : Bool) (c : Cell)
  | err (x : Ex)

abbrev E := List Sl
/-- the entry of a def: the heap, what of it stays, the parameters' objects, the exception at hand -/
structure Fx where
  H : Hp
  G : Hp
  C : List Addr
  er : Option (Addr × Value × Option Addr)
/-- an exception of x, its own dict d -/
def ExAt (A : Amb) (G : Hp) (cls : Value) (d : Option Addr) (x : Ex) : Prop :=
  ∃ C, A.mg x.c = some (.ref C) ∧ cls = .ref C ∧ ((x.ns = [] ∧ x.ds = []) ∨ ∃ dd fs, d = some dd ∧ G dd = some (.xd fs) ∧ fs.map (·.1) = x.ns ∧ Ims A G (fs.map (·.2)) x.ds)
theorem ExAt.mono {A : Amb} {G G' : Hp} {cls : Value} {d : Option Addr} {x : Ex} (e : Same G G') (h : ExAt A G cls d x) : ExAt A G' cls d x := by
  obtain ⟨C, h1, h2, h⟩ := h
  refine ⟨C, h1, h2, ?_⟩
  rcases h with h | ⟨dd, fs, a, b, c, f⟩
  · exact .inl h
  · exact .inr ⟨dd, fs, a, e _ _ b, c, f.mono e⟩

structure EnvG (A : Amb) (F : Fx) (P : List (Nat × Addr)) (σ : L2.St) (G H : Hp) (ρ : E) : Prop where
  fr : ∀ a o, a ∉ F.C → F.H a = some o → H a = some o
  gg : Same F.G G
  gh : Same G H
  gn : ∀ a o, G a = some o → F.G a = some o ∨ F.H a = none
  ca : ∀ a ∈ F.C, H a ≠ none
  len : ρ.length = σ.length
  val : ∀ (i : Nat) d, ρ[i]? = some (.val d) → ∃ v, σ[i]? = some (some v) ∧ Im A G v d
  cel : ∀ (i : Nat) p c, ρ[i]? = some (.cel p c) → ∃ l, σ[i]? = some (some (.ref l)) ∧ CellAt A G H l c ∧ G l = none ∧ (if p = true then l ∈ F.C else F.H l = none)
  ap : ∀ (i j : Nat) p q c c' l, ρ[i]? = some (.cel p c) → ρ[j]? = some (.cel q c') → σ[i]? = some (some (.ref l)) → σ[j]? = some (some (.ref l)) → i = j
  pin : ∀ i l, (i, l) ∈ P → σ[i]? = some (some (.ref l)) ∧ ∃ c, ρ[i]? = some (.cel true c)
  err : ∀ (i : Nat) x, ρ[i]? = some (.err x) → ∃ a cls d, F.er = some (a, cls, d) ∧ σ[i]? = some (some (.ref a)) ∧ ExAt A G cls d x

section
variable {A : Amb} {F : Fx} {P : List (Nat × Addr)} {σ σ' : L2.St} {G G' H H' : Hp} {ρ ρ' : E}
/-- the heap grows; of what is new, some stays for ever -/
theorem EnvG.grow (e : EnvG A F P σ G H ρ) (hH : Same H H') (hG : Same G G') (gh : Same G' H') (gn : ∀ a o, G' a = some o → G a = some o ∨ H a = none) : EnvG A F P σ G' H' ρ where
  fr := fun a o n h => hH a o (e.fr a o n h)
  gg := e.gg.trans hG
  gh := gh
  gn := fun a o h => by
    rcases gn a o h with h | h
    · exact e.gn a o h
    · refine .inr ?_
      cases q : F.H a with
      | none => rfl
      | some u =>
        by_cases hc : a ∈ F.C
        · exact absurd h (e.ca a hc)
        · rw [e.fr a u hc q] at h
          cases h
  ca := fun a hc => by
    cases q : H a with
    | none => exact absurd q (e.ca a hc)
    | some o =>
      rw [hH a o q]
      simp
  len := e.len
  val := fun i d h => let ⟨v, h1, h2⟩ := e.val i d h; ⟨v, h1, h2.mono hG⟩
  cel := fun i p c h => by
    obtain ⟨l, h1, h2, h3, h4⟩ := e.cel i p c h
    obtain ⟨o, ho⟩ := h2.some
    refine ⟨l, h1, h2.mono hG ((hH l o ho).trans ho.symm), ?_, h4⟩
    cases q : G' l with
    | none => rfl
    | some u =>
      rcases gn l u q with z | z
      · rw [h3] at z
        cases z
      · rw [ho] at z
        cases z
  ap := e.ap
  pin := e.pin
  err := fun i x h => let ⟨a, cls, d, h1, h2, h3⟩ := e.err i x h; ⟨a, cls, d, h1, h2, h3.mono hG⟩
theorem EnvG.more (e : EnvG A F P σ G H ρ) (hH : Same H H') : EnvG A F P σ G H' ρ :=
  e.grow hH (Same.refl G) (fun a o h => hH a o (e.gh a o h)) fun _ _ h => .inl h
/-- a new thing that stays -/
theorem EnvG.new {a : Addr} {o : HO} (e : EnvG A F P σ G H ρ) (n : H a = none) : EnvG A F P σ (upd G a o) (upd H a o) ρ ∧ Same G (upd G a o) := by
  have ng : G a = none := by
    cases q : G a with
    | none => rfl
    | some u =>
      rw [e.gh a u q] at n
      cases n
  have sG : Same G (upd G a o) := fun b u q => by
    rw [upd_ne (ne_of_none q ng)]
    exact q
  refine ⟨e.grow (fun b u q => by rw [upd_ne (ne_of_none q n)]; exact q) sG (fun b u q => ?_) (fun b u q => ?_), sG⟩
  · by_cases h : b = a
    · subst h
      rw [upd_same] at q ⊢
      exact q
    · rw [upd_ne h] at q ⊢
      exact e.gh b u q
  · by_cases h : b = a
    · subst h
      exact .inr n
    · rw [upd_ne h] at q
      exact .inl q
/-- a slot is given a datum -/
theorem EnvG.setVal {i : Nat} {v : V} {d : D} (e : EnvG A F P σ G H ρ) (hP : ∀ l, (i, l) ∉ P) (h : Im A G v d) : EnvG A F P (σ.set i (some v)) G H (ρ.set i (.val d)) where
  fr := e.fr
  gg := e.gg
  gh := e.gh
  gn := e.gn
  ca := e.ca
  len := by rw [List.length_set, List.length_set]; exact e.len
  val := fun j u q => by
    by_cases hj : i = j
    · subst hj
      rw [List.getElem?_set] at q
      rw [List.getElem?_set]
      by_cases hl : i < ρ.length
      · rw [if_pos rfl, if_pos hl] at q
        rw [if_pos rfl, if_pos (e.len ▸ hl)]
        cases q
        exact ⟨v, rfl, h⟩
      · rw [if_pos rfl, if_neg hl] at q
        cases q
    · rw [List.getElem?_set_ne hj] at q ⊢
      exact e.val j u q
  cel := fun j p c q => by
    by_cases hj : i = j
    · subst hj
      rw [List.getElem?_set] at q
      by_cases hl : i < ρ.length
      · rw [if_pos rfl, if_pos hl] at q
        cases q
      · rw [if_pos rfl, if_neg hl] at q
        cases q
    · rw [List.getElem?_set_ne hj] at q ⊢
      exact e.cel j p c q
  ap := fun j k p q c c' l h1 h2 h3 h4 => by
    have go : ∀ {m : Nat} {r : Bool} {b : Cell}, (ρ.set i (.val d))[m]? = some (.cel r b) → i ≠ m ∧ ρ[m]? = some (.cel r b) := fun {m r b} z => by
      by_cases hm : i = m
      · subst hm
        rw [List.getElem?_set] at z
        by_cases hl : i < ρ.length
        · rw [if_pos rfl, if_pos hl] at z
          cases z
        · rw [if_pos rfl, if_neg hl] at z
          cases z
      · rw [List.getElem?_set_ne hm] at z
        exact ⟨hm, z⟩
    obtain ⟨n1, g1⟩ := go h1
    obtain ⟨n2, g2⟩ := go h2
    rw [List.getElem?_set_ne n1] at h3
    rw [List.getElem?_set_ne n2] at h4
    exact e.ap j k p q c c' l g1 g2 h3 h4
  pin := fun j l m => by
    have hj : i ≠ j := fun z => hP l (z ▸ m)
    rw [List.getElem?_set_ne hj, List.getElem?_set_ne hj]
    exact e.pin j l m
  err := fun j x q => by
    by_cases hj : i = j
    · subst hj
      rw [List.getElem?_set] at q
      by_cases hl : i < ρ.length
      · rw [if_pos rfl, if_pos hl] at q
        cases q
      · rw [if_pos rfl, if_neg hl] at q
        cases q
    · rw [List.getElem?_set_ne hj] at q ⊢
      exact e.err j x q
/-- a slot's object, which is ours alone, is changed -/
theorem EnvG.write {i : Nat} {p : Bool} {c c' : Cell} {l : Addr} {o : HO} (e : EnvG A F P σ G H ρ) (hi : ρ[i]? = some (.cel p c)) (hl : σ[i]? = some (some (.ref l))) (h : CellAt A G (upd H l o) l c') :
    EnvG A F P σ G (upd H l o) (ρ.set i (.cel p c')) := by
  obtain ⟨l', h1, h2, h3, h4⟩ := e.cel i p c hi
  have el : l' = l := by
    rw [hl] at h1
    cases h1
    rfl
  subst el
  have hlt : i < ρ.length := (List.getElem?_eq_some_iff.mp hi).1
  have at_ : ∀ {m : Nat} {s : Sl}, (ρ.set i (.cel p c'))[m]? = some s → (i = m ∧ s = .cel p c') ∨ (i ≠ m ∧ ρ[m]? = some s) := fun {m s} z => by
    by_cases hm : i = m
    · subst hm
      rw [List.getElem?_set_self hlt] at z
      cases z
      exact .inl ⟨rfl, rfl⟩
    · rw [List.getElem?_set_ne hm] at z
      exact .inr ⟨hm, z⟩
  refine ⟨fun a u n q => ?_, e.gg, fun a u q => ?_, e.gn, fun a hc => ?_, by rw [List.length_set]; exact e.len, fun j d q => ?_, fun j q c2 z => ?_, fun j k p1 q1 c1 c2 m z1 z2 z3 z4 => ?_, fun j m z => ?_, fun j x z => ?_⟩
  · have ne : a ≠ l' := fun z => by
      subst z
      cases p with
      | true => exact n h4
      | false =>
        rw [show F.H a = none from h4] at q
        cases q
    rw [upd_ne ne]
    exact e.fr a u n q
  · have ne : a ≠ l' := fun z => by
      subst z
      rw [h3] at q
      cases q
    rw [upd_ne ne]
    exact e.gh a u q
  · by_cases z : a = l'
    · subst z
      rw [upd_same]
      simp
    · rw [upd_ne z]
      exact e.ca a hc
  · rcases at_ q with ⟨_, z⟩ | ⟨_, z⟩
    · cases z
    · exact e.val j d z
  · rcases at_ z with ⟨y, z5⟩ | ⟨y, z⟩
    · subst y
      cases z5
      exact ⟨l', h1, h, h3, h4⟩
    · obtain ⟨m, k1, k2, k3, k4⟩ := e.cel j q c2 z
      refine ⟨m, k1, k2.mono (Same.refl G) (upd_ne fun w => ?_), k3, k4⟩
      subst w
      exact y (e.ap i j p q c c2 m hi z h1 k1)
  · have old : ∀ {m : Nat} {r : Bool} {b : Cell}, (ρ.set i (.cel p c'))[m]? = some (.cel r b) → ∃ r' b', ρ[m]? = some (.cel r' b') := fun {m r b} z => by
      rcases at_ z with ⟨y, _⟩ | ⟨_, z⟩
      · subst y
        exact ⟨p, c, hi⟩
      · exact ⟨r, b, z⟩
    obtain ⟨r1, b1, g1⟩ := old z1
    obtain ⟨r2, b2, g2⟩ := old z2
    exact e.ap j k r1 r2 b1 b2 m g1 g2 z3 z4
  · obtain ⟨y1, c2, y2⟩ := e.pin j m z
    refine ⟨y1, ?_⟩
    by_cases hj : i = j
    · subst hj
      rw [hi] at y2
      cases y2
      exact ⟨c', List.getElem?_set_self hlt⟩
    · exact ⟨c2, (List.getElem?_set_ne hj).trans y2⟩
  · rcases at_ z with ⟨_, y⟩ | ⟨_, y⟩
    · cases y
    · exact e.err j x y
/-- a new object of ours comes to a slot -/
theorem EnvG.setCel {i : Nat} {l : Addr} {c : Cell} (e : EnvG A F P σ G H ρ) (hP : ∀ l, (i, l) ∉ P) (h : CellAt A G H l c) (hg : G l = none) (hF : F.H l = none)
    (hn : ∀ (j : Nat) p c', ρ[j]? = some (.cel p c') → σ[j]? ≠ some (some (.ref l))) : EnvG A F P (σ.set i (some (.ref l))) G H (ρ.set i (.cel false c)) where
  fr := e.fr
  gg := e.gg
  gh := e.gh
  gn := e.gn
  ca := e.ca
  len := by rw [List.length_set, List.length_set]; exact e.len
  val := fun j u q => by
    by_cases hj : i = j
    · subst hj
      rw [List.getElem?_set] at q
      by_cases hl : i < ρ.length
      · rw [if_pos rfl, if_pos hl] at q
        cases q
      · rw [if_pos rfl, if_neg hl] at q
        cases q
    · rw [List.getElem?_set_ne hj] at q ⊢
      exact e.val j u q
  cel := fun j p c2 q => by
    by_cases hj : i = j
    · subst hj
      rw [List.getElem?_set] at q
      rw [List.getElem?_set]
      by_cases hl : i < ρ.length
      · rw [if_pos rfl, if_pos hl] at q
        rw [if_pos rfl, if_pos (e.len ▸ hl)]
        cases q
        exact ⟨l, rfl, h, hg, hF⟩
      · rw [if_pos rfl, if_neg hl] at q
        cases q
    · rw [List.getElem?_set_ne hj] at q ⊢
      exact e.cel j p c2 q
  ap := fun j k p q c1 c2 m h1 h2 h3 h4 => by
    have go : ∀ {n : Nat} {r : Bool} {b : Cell}, (ρ.set i (.cel false c))[n]? = some (.cel r b) → (σ.set i (some (.ref l)))[n]? = some (some (.ref m)) → (i = n ∧ l = m) ∨ (i ≠ n ∧ ρ[n]? = some (.cel r b) ∧ σ[n]? = some (some (.ref m))) := fun {n r b} z y => by
      by_cases hm : i = n
      · subst hm
        rw [List.getElem?_set] at z y
        by_cases hl : i < σ.length
        · rw [if_pos rfl, if_pos hl] at y
          cases y
          exact .inl ⟨rfl, rfl⟩
        · rw [if_pos rfl, if_neg hl] at y
          cases y
      · rw [List.getElem?_set_ne hm] at z y
        exact .inr ⟨hm, z, y⟩
    rcases go h1 h3 with ⟨a1, b1⟩ | ⟨a1, b1, d1⟩
    · rcases go h2 h4 with ⟨a2, b2⟩ | ⟨a2, b2, d2⟩
      · exact a1.symm.trans a2
      · subst b1
        exact absurd d2 (hn k q c2 b2)
    · rcases go h2 h4 with ⟨a2, b2⟩ | ⟨a2, b2, d2⟩
      · subst b2
        exact absurd d1 (hn j p c1 b1)
      · exact e.ap j k p q c1 c2 m b1 b2 d1 d2
  pin := fun j m z => by
    have hj : i ≠ j := fun y => hP m (y ▸ z)
    rw [List.getElem?_set_ne hj, List.getElem?_set_ne hj]
    exact e.pin j m z
  err := fun j x q => by
    by_cases hj : i = j
    · subst hj
      rw [List.getElem?_set] at q
      by_cases hl : i < ρ.length
      · rw [if_pos rfl, if_pos hl] at q
        cases q
      · rw [if_pos rfl, if_neg hl] at q
        cases q
    · rw [List.getElem?_set_ne hj] at q ⊢
      exact e.err j x q
/-- a list of ours is ours no longer: it stays as it is -/
theorem EnvG.freeze {i : Nat} {ds : List D} (e : EnvG A F P σ G H ρ) (hi : ρ[i]? = some (.cel false (.lst ds))) :
    ∃ l G', σ[i]? = some (some (.ref l)) ∧ Same G G' ∧ EnvG A F P σ G' H (ρ.set i (.val (.lst ds))) ∧ Im A G' (.ref l) (.lst ds) := by
  obtain ⟨l, h1, ⟨vs, h2, hv⟩, h3, h4⟩ := e.cel i false (.lst ds) hi
  have h4 : F.H l = none := h4
  have sG : Same G (upd G l (.lst vs)) := fun b u q => by
    rw [upd_ne (ne_of_none q h3)]
    exact q
  have im : Im A (upd G l (.lst vs)) (.ref l) (.lst ds) := .lst (SqL.of upd_same) (hv.mono sG)
  have hlt : i < ρ.length := (List.getElem?_eq_some_iff.mp hi).1
  have at_ : ∀ {m : Nat} {s : Sl}, (ρ.set i (.val (.lst ds)))[m]? = some s → (i = m ∧ s = .val (.lst ds)) ∨ (i ≠ m ∧ ρ[m]? = some s) := fun {m s} z => by
    by_cases hm : i = m
    · subst hm
      rw [List.getElem?_set_self hlt] at z
      cases z
      exact .inl ⟨rfl, rfl⟩
    · rw [List.getElem?_set_ne hm] at z
      exact .inr ⟨hm, z⟩
  refine ⟨l, _, h1, sG, ⟨e.fr, e.gg.trans sG, fun b u q => ?_, fun b u q => ?_, e.ca, by rw [List.length_set]; exact e.len, fun j d q => ?_, fun j p c q => ?_, fun j k p q c c' m z1 z2 z3 z4 => ?_, fun j m z => ?_, fun j x z => ?_⟩, im⟩
  · by_cases hb : b = l
    · subst hb
      rw [upd_same] at q
      rw [h2]
      exact q
    · rw [upd_ne hb] at q
      exact e.gh b u q
  · by_cases hb : b = l
    · subst hb
      exact .inr h4
    · rw [upd_ne hb] at q
      exact e.gn b u q
  · rcases at_ q with ⟨y, z⟩ | ⟨y, z⟩
    · subst y
      cases z
      exact ⟨_, h1, im⟩
    · obtain ⟨v, k1, k2⟩ := e.val j d z
      exact ⟨v, k1, k2.mono sG⟩
  · rcases at_ q with ⟨y, z⟩ | ⟨y, z⟩
    · cases z
    · obtain ⟨m, k1, k2, k3, k4⟩ := e.cel j p c z
      refine ⟨m, k1, k2.mono sG rfl, ?_, k4⟩
      have ne : m ≠ l := fun w => by
        subst w
        exact y (e.ap i j false p _ c m hi z h1 k1)
      rw [upd_ne ne]
      exact k3
  · rcases at_ z1 with ⟨_, y⟩ | ⟨_, y1⟩
    · cases y
    · rcases at_ z2 with ⟨_, y⟩ | ⟨_, y2⟩
      · cases y
      · exact e.ap j k p q c c' m y1 y2 z3 z4
  · obtain ⟨y1, c2, y2⟩ := e.pin j m z
    refine ⟨y1, c2, ?_⟩
    have hj : i ≠ j := fun w => by
      subst w
      rw [hi] at y2
      cases y2
    exact (List.getElem?_set_ne hj).trans y2
  · rcases at_ z with ⟨_, y⟩ | ⟨_, y⟩
    · cases y
    · obtain ⟨a, cls, d, k1, k2, k3⟩ := e.err j x y
      exact ⟨a, cls, d, k1, k2, k3.mono sG⟩
/-- a slot is forgotten -/
theorem EnvG.forget {i : Nat} (e : EnvG A F P σ G H ρ) (hP : ∀ l, (i, l) ∉ P) (o : Option V) : EnvG A F P (σ.set i o) G H (ρ.set i .no) where
  fr := e.fr
  gg := e.gg
  gh := e.gh
  gn := e.gn
  ca := e.ca
  len := by rw [List.length_set, List.length_set]; exact e.len
  val := fun j u q => by
    by_cases hj : i = j
    · subst hj
      rw [List.getElem?_set] at q
      by_cases hl : i < ρ.length
      · rw [if_pos rfl, if_pos hl] at q
        cases q
      · rw [if_pos rfl, if_neg hl] at q
        cases q
    · rw [List.getElem?_set_ne hj] at q ⊢
      exact e.val j u q
  cel := fun j p c q => by
    by_cases hj : i = j
    · subst hj
      rw [List.getElem?_set] at q
      by_cases hl : i < ρ.length
      · rw [if_pos rfl, if_pos hl] at q
        cases q
      · rw [if_pos rfl, if_neg hl] at q
        cases q
    · rw [List.getElem?_set_ne hj] at q ⊢
      exact e.cel j p c q
  ap := fun j k p q c c' l h1 h2 h3 h4 => by
    have go : ∀ {m : Nat} {r : Bool} {b : Cell}, (ρ.set i .no)[m]? = some (.cel r b) → i ≠ m ∧ ρ[m]? = some (.cel r b) := fun {m r b} z => by
      by_cases hm : i = m
      · subst hm
        rw [List.getElem?_set] at z
        by_cases hl : i < ρ.length
        · rw [if_pos rfl, if_pos hl] at z
          cases z
        · rw [if_pos rfl, if_neg hl] at z
          cases z
      · rw [List.getElem?_set_ne hm] at z
        exact ⟨hm, z⟩
    obtain ⟨n1, g1⟩ := go h1
    obtain ⟨n2, g2⟩ := go h2
    rw [List.getElem?_set_ne n1] at h3
    rw [List.getElem?_set_ne n2] at h4
    exact e.ap j k p q c c' l g1 g2 h3 h4
  pin := fun j l m => by
    have hj : i ≠ j := fun z => hP l (z ▸ m)
    rw [List.getElem?_set_ne hj, List.getElem?_set_ne hj]
    exact e.pin j l m
  err := fun j x q => by
    by_cases hj : i = j
    · subst hj
      rw [List.getElem?_set] at q
      by_cases hl : i < ρ.length
      · rw [if_pos rfl, if_pos hl] at q
        cases q
      · rw [if_pos rfl, if_neg hl] at q
        cases q
    · rw [List.getElem?_set_ne hj] at q ⊢
      exact e.err j x q
end
end Z

set_option Elab.async false
set_option linter.all false
set_option maxRecDepth 100000
set_option maxHeartbeats 4000000
/-! ZB: the monad of mirrors, judgements over the hand layer's. -/
namespace Z
open PySem PySem.Spec PyProof.Rows L2

inductive R (α : Type) where
  | ok (a : α) (ρ : E)
  | ex (x : Ex) (ρ : E)
abbrev M (α : Type) := E → Option (R α)
def pureM {α : Type} (a : α) : M α := fun ρ => some (.ok a ρ)
def failM {α : Type} : M α := fun _ => none
def bindM {α β : Type} (m : M α) (k : α → M β) : M β := fun ρ => match m ρ with
  | none => none
  | some (.ex x ρ') => some (.ex x ρ')
  | some (.ok a ρ') => k a ρ'
def optM {α : Type} : Option α → M α
  | none => failM
  | some a => pureM a
theorem bindM_ok {α β : Type} {m : M α} {k : α → M β} {ρ ρ' : E} {a : α} (h : m ρ = some (.ok a ρ')) : bindM m k ρ = k a ρ' := by
  unfold bindM
  rw [h]
theorem bindM_ex {α β : Type} {m : M α} {k : α → M β} {ρ ρ' : E} {x : Ex} (h : m ρ = some (.ex x ρ')) : bindM m k ρ = some (.ex x ρ') := by
  unfold bindM
  rw [h]
theorem bindM_none {α β : Type} {m : M α} {k : α → M β} {ρ : E} (h : m ρ = none) : bindM m k ρ = none := by
  unfold bindM
  rw [h]

/-- what an expression hands on: a datum that stays; the object of a slot; a new list -/
inductive Rf where
  | dat (d : D)
  | cel (i : Nat)
  | new (ds : List D)
def stl : Rf → Rf
  | .new ds => .dat (.lst ds)
  | r => r
def mk : D → Rf
  | .lst ds => .new ds
  | d => .dat d
/-- what is wished of exceptions, the exception at hand -/
structure Yc where
  W : WX
  er : Option (Addr × Value × Option Addr)

def RfOk (A : Amb) (F : Fx) (σ : L2.St) (G H : Hp) (ρ : E) (v : V) : Rf → Prop
  | .dat d => Im A G v d
  | .cel i => σ[i]? = some (some v)
  | .new ds => ∃ l vs, v = .ref l ∧ H l = some (.lst vs) ∧ G l = none ∧ F.H l = none ∧ Ims A G vs ds ∧ ∀ (j : Nat) p c, ρ[j]? = some (.cel p c) → σ[j]? ≠ some (some (.ref l))
/-- settled -/
def SOk (A : Amb) (σ : L2.St) (G : Hp) (v : V) : Rf → Prop
  | .dat d => Im A G v d
  | .cel i => σ[i]? = some (some v)
  | .new _ => False
theorem SOk.mono {A : Amb} {σ : L2.St} {G G' : Hp} {v : V} (e : Same G G') : ∀ {x : Rf}, SOk A σ G v x → SOk A σ G' v x
  | .dat _, h => Im.mono e h
  | .cel _, h => h
inductive SOks (A : Amb) (σ : L2.St) (G : Hp) : List V → List Rf → Prop
  | nil : SOks A σ G [] []
  | cons {v : V} {x : Rf} {vs : List V} {xs : List Rf} : SOk A σ G v x → SOks A σ G vs xs → SOks A σ G (v :: vs) (x :: xs)
theorem SOks.mono {A : Amb} {σ : L2.St} {G G' : Hp} (e : Same G G') : ∀ {vs : List V} {xs : List Rf}, SOks A σ G vs xs → SOks A σ G' vs xs
  | _, _, .nil => .nil
  | _, _, .cons h r => .cons (h.mono e) (SOks.mono e r)

abbrev Rel (α β : Type) := Fx → L2.St → Hp → Hp → E → β → α → Prop
abbrev relE (A : Amb) : Rel Rf V := fun F σ G H ρ v x => RfOk A F σ G H ρ v x
abbrev relA (A : Amb) : Rel (List Rf) (List V) := fun _ σ G _ _ vs xs => SOks A σ G vs xs
abbrev relB : Rel Bool Bool := fun _ _ _ _ _ b c => b = c
abbrev relO : Rel (Option Int) (Option Int) := fun _ _ _ _ _ b c => b = c
def Post (A : Amb) (Y : Yc) {α β : Type} (Re : Rel α β) (F : Fx) (P : List (Nat × Addr)) (σ : L2.St) (Q : β → Hp → Prop) (G : Hp) : R α → Prop
  | .ok a ρ => ∀ b G' H', Same G G' → EnvG A F P σ G' H' ρ → Re F σ G' H' ρ b a → Q b H'
  | .ex x ρ => ∀ cls d G' H', Same G G' → EnvG A F P σ G' H' ρ → ExAt A G' cls d x → Y.W cls d σ H'
def tG (A : Amb) (Y : Yc) {α β : Type} (Re : Rel α β) (m : M α) : L2.St → Hp → (β → Hp → Prop) → Prop := fun σ H Q =>
  ∃ F P G ρ r, F.er = Y.er ∧ EnvG A F P σ G H ρ ∧ m ρ = some r ∧ Post A Y Re F P σ Q G r
theorem Post.mono {A : Amb} {Y : Yc} {α β : Type} {Re : Rel α β} {F : Fx} {P : List (Nat × Addr)} {σ : L2.St} {Q : β → Hp → Prop} {G G' : Hp} (e : Same G G') : ∀ {r : R α}, Post A Y Re F P σ Q G r → Post A Y Re F P σ Q G' r
  | .ok a ρ, h => fun b G2 H2 s => h b G2 H2 (e.trans s)
  | .ex x ρ, h => fun c d G2 H2 s => h c d G2 H2 (e.trans s)
section
variable {A : Amb} {Y : Yc} {F : Fx} {P : List (Nat × Addr)} {σ : L2.St} {G H : Hp} {ρ : E}
theorem tG_bind {α β γ δ : Type} {Re : Rel α β} {Re' : Rel γ δ} {ma : M α} {k : α → M γ} {r : R γ} {Q : δ → Hp → Prop} {T : β → Hp → Prop} (er : F.er = Y.er) (e : EnvG A F P σ G H ρ) (hm : bindM ma k ρ = some r) (hp : Post A Y Re' F P σ Q G r)
    (hT : ∀ G1 H1 ρ1 x v, Same G G1 → EnvG A F P σ G1 H1 ρ1 → Re F σ G1 H1 ρ1 v x → k x ρ1 = some r → T v H1) : tG A Y Re ma σ H T := by
  cases h : ma ρ with
  | none =>
    rw [bindM_none h] at hm
    cases hm
  | some r1 =>
    refine ⟨F, P, G, ρ, r1, er, e, h, ?_⟩
    cases r1 with
    | ok a ρ' =>
      rw [bindM_ok h] at hm
      exact fun v G1 H1 s e1 ra => hT G1 H1 ρ' a v s e1 ra hm
    | ex x ρ' =>
      rw [bindM_ex h] at hm
      cases hm
      exact hp
theorem settle {v : V} {x : Rf} (e : EnvG A F P σ G H ρ) (h : RfOk A F σ G H ρ v x) : ∃ G', Same G G' ∧ EnvG A F P σ G' H ρ ∧ SOk A σ G' v (stl x) := by
  cases x with
  | dat d => exact ⟨G, Same.refl G, e, h⟩
  | cel i => exact ⟨G, Same.refl G, e, h⟩
  | new ds =>
    obtain ⟨l, vs, rfl, h1, h2, h3, h4, h5⟩ := h
    have sG : Same G (upd G l (.lst vs)) := fun b u q => by
      rw [upd_ne (ne_of_none q h2)]
      exact q
    refine ⟨_, sG, ⟨e.fr, e.gg.trans sG, fun b u q => ?_, fun b u q => ?_, e.ca, e.len, fun j d q => ?_, fun j p c q => ?_, e.ap, e.pin, fun j x q => ?_⟩, .lst (SqL.of upd_same) (h4.mono sG)⟩
    · by_cases hb : b = l
      · subst hb
        rw [upd_same] at q
        rw [h1]
        exact q
      · rw [upd_ne hb] at q
        exact e.gh b u q
    · by_cases hb : b = l
      · subst hb
        exact .inr h3
      · rw [upd_ne hb] at q
        exact e.gn b u q
    · obtain ⟨v, k1, k2⟩ := e.val j d q
      exact ⟨v, k1, k2.mono sG⟩
    · obtain ⟨m, k1, k2, k3, k4⟩ := e.cel j p c q
      refine ⟨m, k1, k2.mono sG rfl, ?_, k4⟩
      have ne : m ≠ l := fun w => by
        subst w
        exact h5 j p c q k1
      rw [upd_ne ne]
      exact k3
    · obtain ⟨a, cls, d, k1, k2, k3⟩ := e.err j x q
      exact ⟨a, cls, d, k1, k2, k3.mono sG⟩
/-- an operand: settled at once -/
theorem tE_bind {γ δ : Type} {Re' : Rel γ δ} {ma : M Rf} {k : Rf → M γ} {r : R γ} {Q : δ → Hp → Prop} {T : V → Hp → Prop} (er : F.er = Y.er) (e : EnvG A F P σ G H ρ) (hm : bindM ma k ρ = some r) (hp : Post A Y Re' F P σ Q G r)
    (hT : ∀ G1 H1 ρ1 x v, Same G G1 → EnvG A F P σ G1 H1 ρ1 → SOk A σ G1 v (stl x) → k x ρ1 = some r → Post A Y Re' F P σ Q G1 r → T v H1) : tG A Y (relE A) ma σ H T :=
  tG_bind er e hm hp fun G1 H1 ρ1 x v s e1 ra hk => by
    obtain ⟨G2, s2, e2, so⟩ := settle e1 ra
    exact hT G2 H1 ρ1 x v (s.trans s2) e2 so hk (hp.mono (s.trans s2))
end

/-- what a settled result is now -/
def deref (ρ : E) : Rf → Option D
  | .dat d => some d
  | .cel i => match ρ[i]? with
    | some (.cel _ (.lst ds)) => some (.lst ds)
    | some (.cel _ (.ins c ns ds)) => some (.ins c ns ds)
    | _ => none
  | .new ds => some (.lst ds)
def drf (x : Rf) : M D := fun ρ => match deref ρ x with
  | some d => some (.ok d ρ)
  | none => none
def derefs (ρ : E) : List Rf → Option (List D)
  | [] => some []
  | x :: xs => match deref ρ x, derefs ρ xs with
    | some d, some ds => some (d :: ds)
    | _, _ => none
def drfs (xs : List Rf) : M (List D) := fun ρ => match derefs ρ xs with
  | some d => some (.ok d ρ)
  | none => none
def Top (A : Amb) (G H : Hp) (v : V) (d : D) : Prop :=
  Im A G v d ∨ (∃ l vs ds, v = .ref l ∧ d = .lst ds ∧ H l = some (.lst vs) ∧ Ims A G vs ds) ∨
    ∃ l C dx fs c ns ds, v = .ref l ∧ d = .ins c ns ds ∧ A.mg c = some (.ref C) ∧ H l = some (.ins C dx fs) ∧ fs.map (·.1) = ns ∧ Ims A G (fs.map (·.2)) ds
inductive Tops (A : Amb) (G H : Hp) : List V → List D → Prop
  | nil : Tops A G H [] []
  | cons {v : V} {d : D} {vs : List V} {ds : List D} : Top A G H v d → Tops A G H vs ds → Tops A G H (v :: vs) (d :: ds)
theorem top_of {A : Amb} {F : Fx} {P : List (Nat × Addr)} {σ : L2.St} {G H : Hp} {ρ : E} {v : V} {x : Rf} {d : D} (e : EnvG A F P σ G H ρ) (h : SOk A σ G v x) (hd : deref ρ x = some d) : Top A G H v d := by
  cases x with
  | dat d' =>
    cases hd
    exact .inl h
  | new ds => exact h.elim
  | cel i =>
    have h : σ[i]? = some (some v) := h
    unfold deref at hd
    simp only at hd
    cases q : ρ[i]? with
    | none =>
      rw [q] at hd
      cases hd
    | some s =>
      rw [q] at hd
      cases s with
      | no => cases hd
      | val d' => cases hd
      | err x => cases hd
      | cel p c =>
        obtain ⟨l, h1, h2, _⟩ := e.cel i p c q
        rw [h] at h1
        cases h1
        cases c with
        | lst ds =>
          cases hd
          obtain ⟨vs, h2, h3⟩ := h2
          exact .inr (.inl ⟨l, vs, ds, rfl, rfl, h2, h3⟩)
        | ins c ns ds =>
          cases hd
          obtain ⟨C, dx, fs, m, h2, h3, h4⟩ := h2
          exact .inr (.inr ⟨l, C, dx, fs, c, ns, ds, rfl, rfl, m, h2, h3, h4⟩)
        | dct kvs => cases hd
theorem tops_of {A : Amb} {F : Fx} {P : List (Nat × Addr)} {σ : L2.St} {G H : Hp} {ρ : E} (e : EnvG A F P σ G H ρ) : ∀ {vs : List V} {xs : List Rf} {ds : List D}, SOks A σ G vs xs → derefs ρ xs = some ds → Tops A G H vs ds
  | _, _, _, .nil, h => by
    cases h
    exact .nil
  | _, x :: xs, _, .cons h r, hd => by
    unfold derefs at hd
    cases h1 : deref ρ x with
    | none =>
      rw [h1] at hd
      cases hd
    | some d =>
      cases h2 : derefs ρ xs with
      | none =>
        rw [h1, h2] at hd
        cases hd
      | some ds =>
        rw [h1, h2] at hd
        cases hd
        exact .cons (top_of e h h1) (tops_of e r h2)
theorem Top.scal {A : Amb} {G H : Hp} {v : V} : ∀ {d : D}, Top A G H v d → (∀ ds, d ≠ .lst ds) → (∀ c ns ds, d ≠ .ins c ns ds) → Im A G v d
  | _, .inl h, _, _ => h
  | _, .inr (.inl ⟨l, vs, ds, _, h, _⟩), n, _ => absurd h (n ds)
  | _, .inr (.inr ⟨_, _, _, _, c, ns, ds, _, h, _⟩), _, n => absurd h (n c ns ds)
theorem Top.int {A : Amb} {G H : Hp} {v : V} {i : Int} (h : Top A G H v (.int i)) : v = .int i := by
  cases h.scal (fun _ => by simp) (fun _ _ _ => by simp)
  rfl
theorem Top.bl {A : Amb} {G H : Hp} {v : V} {i : Bool} (h : Top A G H v (.bl i)) : v = .bl i := by
  cases h.scal (fun _ => by simp) (fun _ _ _ => by simp)
  rfl
theorem Top.str {A : Amb} {G H : Hp} {v : V} {i : Str} (h : Top A G H v (.str i)) : v = .str i := by
  cases h.scal (fun _ => by simp) (fun _ _ _ => by simp)
  rfl
theorem Top.non {A : Amb} {G H : Hp} {v : V} (h : Top A G H v .non) : v = .non := by
  cases h.scal (fun _ => by simp) (fun _ _ _ => by simp)
  rfl
theorem Top.lst {A : Amb} {G H : Hp} {v : V} {ds : List D} (g : Same G H) (h : Top A G H v (.lst ds)) : ∃ l vs, v = .ref l ∧ SqL A.K H l vs ∧ Ims A G vs ds := by
  rcases h with h | ⟨l, vs, ds', hv, hd, h1, h2⟩ | ⟨_, _, _, _, _, _, _, _, hd, _⟩
  · cases h with
    | lst h r => exact ⟨_, _, rfl, g.seq h, r⟩
  · cases hd
    exact ⟨l, vs, hv, SqL.of h1, h2⟩
  · cases hd
theorem Top.tup {A : Amb} {G H : Hp} {v : V} {ds : List D} (g : Same G H) (h : Top A G H v (.tup ds)) : ∃ l vs, v = .ref l ∧ SqT A.K H l vs ∧ Ims A G vs ds := by
  cases h.scal (fun _ => by simp) (fun _ _ _ => by simp) with
  | tup h1 r => exact ⟨_, _, rfl, same_sqT g h1.sq, r⟩

section
variable {A : Amb} {Y : Yc} {F : Fx} {P : List (Nat × Addr)} {σ : L2.St} {G H : Hp} {ρ : E}
theorem EnvG.free (e : EnvG A F P σ G H ρ) {p : Addr} (n : H p = none) : F.H p = none := by
  cases q : F.H p with
  | none => rfl
  | some u =>
    by_cases hc : p ∈ F.C
    · exact absurd n (e.ca p hc)
    · rw [e.fr p u hc q] at n
      cases n
theorem EnvG.freeG (e : EnvG A F P σ G H ρ) {p : Addr} (n : H p = none) : G p = none := by
  cases q : G p with
  | none => rfl
  | some u =>
    rw [e.gh p u q] at n
    cases n
theorem same_new {H : Hp} {p : Addr} {o : HO} (n : H p = none) : Same H (upd H p o) := fun b u q => by
  rw [upd_ne (ne_of_none q n)]
  exact q
theorem EnvG.newL (e : EnvG A F P σ G H ρ) {p : Addr} {vs : List V} {ds : List D} (n : H p = none) (hv : Ims A G vs ds) : EnvG A F P σ G (upd H p (.lst vs)) ρ ∧ RfOk A F σ G (upd H p (.lst vs)) ρ (.ref p) (.new ds) :=
  ⟨e.more (same_new n), p, vs, rfl, upd_same, e.freeG n, e.free n, hv, fun j q c h z => by
    obtain ⟨l, h1, h2, _⟩ := e.cel j q c h
    obtain ⟨o, ho⟩ := h2.some
    rw [z] at h1
    cases h1
    rw [n] at ho
    cases ho⟩
theorem EnvG.newT (e : EnvG A F P σ G H ρ) {p : Addr} {o : Obj} {vs : List V} {ds : List D} (n : H p = none) (hd : o.dict = none) (hv : Ims A G vs ds) :
    ∃ G', Same G G' ∧ EnvG A F P σ G' (upd H p (.frz o (.tup vs))) ρ ∧ RfOk A F σ G' (upd H p (.frz o (.tup vs))) ρ (.ref p) (.dat (.tup ds)) := by
  obtain ⟨e1, s⟩ := e.new (o := .frz o (.tup vs)) n
  exact ⟨_, s, e1, .tup (.inl ⟨o, upd_same, hd⟩) (hv.mono s)⟩
theorem EnvG.newP (e : EnvG A F P σ G H ρ) {p : Addr} {vs : List V} {ds : List D} (n : H p = none) (hv : Ims A G vs ds) : ∃ G', Same G G' ∧ EnvG A F P σ G' (upd H p (.tup vs)) ρ ∧ RfOk A F σ G' (upd H p (.tup vs)) ρ (.ref p) (.dat (.pr ds)) := by
  obtain ⟨e1, s⟩ := e.new (o := .tup vs) n
  exact ⟨_, s, e1, .pr (SqT.of upd_same) (hv.mono s)⟩
end

/-! ### judgements -/
abbrev amb (X : Cx) : Amb := ⟨X.K, X.mg⟩
def DE (X : Cx) (Y : Yc) (e : Expr) (m : M Rf) : Prop := PE X e (tG (amb X) Y (relE (amb X)) m)
def DT (X : Cx) (Y : Yc) (e : Expr) (m : M Bool) : Prop := PT X e (tG (amb X) Y relB m)
def DW (X : Cx) (Y : Yc) (e : Expr) (m : M Bool) : Prop := PW X e (tG (amb X) Y relB m)
def DA (X : Cx) (Y : Yc) (es : List Expr) (m : M (List Rf)) : Prop := PA X es (tG (amb X) Y (relA (amb X)) m)
def DO (X : Cx) (Y : Yc) (e : Option Expr) (m : M (Option Int)) : Prop := PO X e (tG (amb X) Y relO m)
theorem PE.weak {X : Cx} {e : Expr} {t t' : TE} (h : PE X e t) (w : ∀ σ H Q, t' σ H Q → t σ H Q) : PE X e t' := ⟨fun pins s σ H Q I q => h.run pins s σ H Q I (w _ _ _ q)⟩
theorem PT.weak {X : Cx} {e : Expr} {t t' : TT} (h : PT X e t) (w : ∀ σ H Q, t' σ H Q → t σ H Q) : PT X e t' := ⟨fun pins s σ H Q I q => h.run pins s σ H Q I (w _ _ _ q)⟩
theorem PW.weak {X : Cx} {e : Expr} {t t' : TT} (h : PW X e t) (w : ∀ σ H Q, t' σ H Q → t σ H Q) : PW X e t' := ⟨fun wh pins s σ H Q I q => h.run wh pins s σ H Q I (w _ _ _ q)⟩
theorem PA.weak {X : Cx} {e : List Expr} {t t' : TA} (h : PA X e t) (w : ∀ σ H Q, t' σ H Q → t σ H Q) : PA X e t' := ⟨fun pos pins s σ H Q I q => h.run pos pins s σ H Q I (w _ _ _ q)⟩
theorem PO.weak {X : Cx} {e : Option Expr} {t t' : TO} (h : PO X e t) (w : ∀ σ H Q, t' σ H Q → t σ H Q) : PO X e t' := ⟨fun pins s σ H Q I q => h.run pins s σ H Q I (w _ _ _ q)⟩

section
variable {X : Cx} {Y : Yc} {a b c : Expr} {es : List Expr} {ma mb mc : M Rf} {ms : M (List Rf)} {pos : Pos}
/-! names, constants -/
def eVar (i : Nat) : M Rf := fun ρ => match ρ[i]? with
  | some (.val d) => some (.ok (.dat d) ρ)
  | some (.cel _ _) => some (.ok (.cel i) ρ)
  | _ => none
def eC (d : D) : M Rf := pureM (.dat d)
theorem de_var {i : Nat} {x : Str} {pos : Pos} (h : PE X (.Name x pos) (tVar i)) : DE X Y (.Name x pos) (eVar i) := PE.weak h fun σ H Q ⟨F, P, G, ρ, r, er, e, hm, hp⟩ => by
  unfold eVar at hm
  cases q : ρ[i]? with
  | none =>
    rw [q] at hm
    cases hm
  | some s =>
    rw [q] at hm
    cases s with
    | no => cases hm
    | err x => cases hm
    | val d =>
      cases hm
      obtain ⟨v, h1, h2⟩ := e.val i d q
      exact ⟨v, h1, hp v G H (Same.refl G) e h2⟩
    | cel p c =>
      cases hm
      obtain ⟨l, h1, _⟩ := e.cel i p c q
      exact ⟨_, h1, hp _ G H (Same.refl G) e h1⟩
theorem de_c {v : V} {d : D} (h : PE X a (tC v)) (hi : ∀ G, Im (amb X) G v d) : DE X Y a (eC d) := PE.weak h fun σ H Q ⟨F, P, G, ρ, r, er, e, hm, hp⟩ => by
  cases hm
  exact hp v G H (Same.refl G) e (hi G)
theorem de_int {i : Int} {j pos} : DE X Y (.Constant (.int i) j pos) (eC (.int i)) := de_c pe_int fun _ => .int i
theorem de_bl {b : Bool} {j pos} : DE X Y (.Constant (.bool b) j pos) (eC (.bl b)) := de_c pe_bl fun _ => .bl b
theorem de_non {j pos} : DE X Y (.Constant .none j pos) (eC .non) := de_c pe_non fun _ => .non
theorem de_str {x : Str} {j pos} : DE X Y (.Constant (.str x) j pos) (eC (.str x)) := de_c pe_str fun _ => .str x

/-! two operands -/
def eOp2 (f : D → D → Option D) (a b : M Rf) : M Rf := bindM a fun x => bindM b fun y => bindM (drf (stl x)) fun p => bindM (drf (stl y)) fun q => optM ((f p q).map mk)
/-- a rule by values does what f says -/
def RO (A : Amb) (r : R2) (f : D → D → Option D) : Prop := ∀ F P σ G H ρ x y p q d (Q : VK), EnvG A F P σ G H ρ → Top A G H x p → Top A G H y q → f p q = some d →
  (∀ v G' H', Same G G' → EnvG A F P σ G' H' ρ → RfOk A F σ G' H' ρ v (mk d) → Q v H') → r x y H Q
theorem drf_ok {x : Rf} {α : Type} {k : D → M α} {ρ : E} {r : R α} (h : bindM (drf x) k ρ = some r) : ∃ d, deref ρ x = some d ∧ k d ρ = some r := by
  unfold bindM drf at h
  cases q : deref ρ x with
  | none =>
    rw [q] at h
    cases h
  | some d =>
    rw [q] at h
    exact ⟨d, rfl, h⟩
theorem drfs_ok {x : List Rf} {α : Type} {k : List D → M α} {ρ : E} {r : R α} (h : bindM (drfs x) k ρ = some r) : ∃ d, derefs ρ x = some d ∧ k d ρ = some r := by
  unfold bindM drfs at h
  cases q : derefs ρ x with
  | none =>
    rw [q] at h
    cases h
  | some d =>
    rw [q] at h
    exact ⟨d, rfl, h⟩
theorem optM_ok {α : Type} {o : Option α} {ρ : E} {r : R α} (h : optM o ρ = some r) : ∃ a, o = some a ∧ r = .ok a ρ := by
  cases o with
  | none => cases h
  | some a =>
    cases h
    exact ⟨a, rfl, rfl⟩
theorem map_some' {α β : Type} {f : α → β} {o : Option α} {b : β} (h : o.map f = some b) : ∃ a, o = some a ∧ b = f a := by
  cases o with
  | none => cases h
  | some a =>
    cases h
    exact ⟨a, rfl, rfl⟩
theorem op2_tail {r : R2} {f : D → D → Option D} (hr : RO (amb X) r f) {σ : L2.St} {H : Hp} {Q : VK} (h : tG (amb X) Y (relE (amb X)) (eOp2 f ma mb) σ H Q) : tOp r (tG (amb X) Y (relE (amb X)) ma) (tG (amb X) Y (relE (amb X)) mb) σ H Q := by
  obtain ⟨F, P, G, ρ, r', er, e, hm, hp⟩ := h
  refine tE_bind er e hm hp fun G1 H1 ρ1 x v s1 e1 so1 hm1 hp1 => tE_bind er e1 hm1 hp1 fun G2 H2 ρ2 y u s2 e2 so2 hm2 hp2 => ?_
  obtain ⟨p, d1, hm3⟩ := drf_ok hm2
  obtain ⟨q, d2, hm4⟩ := drf_ok hm3
  obtain ⟨z, hz, rfl⟩ := optM_ok hm4
  obtain ⟨d, hd, rfl⟩ := map_some' hz
  exact hr F P σ G2 H2 ρ2 v u p q d Q e2 (top_of e2 (so1.mono s2) d1) (top_of e2 so2 d2) hd fun v' G' H' s e' ro => hp2 v' G' H' s e' ro
theorem de_op2 {op : Operator} {r : R2} {f : D → D → Option D} (ho : OpR X (binaryOp op) r) (hr : RO (amb X) r f) (ha : DE X Y a ma) (hb : DE X Y b mb) : DE X Y (.BinOp a op b pos) (eOp2 f ma mb) :=
  PE.weak (pe_op ho ha hb) fun _ _ _ h => op2_tail hr h
theorem de_cmp {op : CmpOp} {r : R2} {f : D → D → Option D} (ho : OpR X (compareOp op) r) (hr : RO (amb X) r f) (ha : DE X Y a ma) (hb : DE X Y b mb) (hm : behindInMarks op b = false) : DE X Y (.Compare a [op] [b] pos) (eOp2 f ma mb) :=
  PE.weak (pe_cmpR ho ha hb hm) fun _ _ _ h => op2_tail hr h
/-- a value that is True or False, as a test -/
def tst (m : M Rf) : M Bool := bindM m fun x => match x with
  | .dat (.bl b) => pureM b
  | _ => failM
theorem tst_ok {A : Amb} {x : Rf} {ρ : E} {r : R Bool} (h : (match x with | .dat (.bl b) => pureM b | _ => failM : M Bool) ρ = some r) : ∃ b, x = .dat (.bl b) ∧ r = .ok b ρ := by
  cases x with
  | dat d =>
    cases d with
    | bl b =>
      cases h
      exact ⟨b, rfl, rfl⟩
    | _ => cases h
  | _ => cases h
theorem tst_tail {te : TE} {m : M Rf} {σ : L2.St} {H : Hp} {Q : Bool → Hp → Prop} (w : ∀ Q, tG (amb X) Y (relE (amb X)) m σ H Q → te σ H Q) (h : tG (amb X) Y relB (tst m) σ H Q) : te σ H fun x H' => ∃ k, x = .bl k ∧ Q k H' := by
  obtain ⟨F, P, G, ρ, r', er, e, hm, hp⟩ := h
  refine w _ (tG_bind er e hm hp fun G1 H1 ρ1 x v s1 e1 ro hm1 => ?_)
  obtain ⟨b, rfl, rfl⟩ := tst_ok (A := amb X) hm1
  have ro : Im (amb X) G1 v (.bl b) := ro
  cases ro
  exact ⟨b, rfl, hp b G1 H1 s1 e1 rfl⟩
theorem dt_cmp {op : CmpOp} {r : R2} {f : D → D → Option D} (ho : OpR X (compareOp op) r) (hr : RO (amb X) r f) (ha : DE X Y a ma) (hb : DE X Y b mb) (hm : behindInMarks op b = false) : DT X Y (.Compare a [op] [b] pos) (tst (eOp2 f ma mb)) :=
  PT.weak (pt_cmpR ho ha hb hm) fun _ _ _ h => tst_tail (fun _ => op2_tail hr) h
theorem dt_val (ha : DE X Y a ma) (he : ∀ whole, isTrue a X.env whole = (do let v ← whole; standAt a.pos; holding [v] (truthy v)) := by intro _; rfl) : DT X Y a (tst ma) :=
  PT.weak (pt_val ha he) fun _ _ _ h => tst_tail (fun _ q => q) h

/-! and, or, not -/
variable {ta tb : M Bool} {rest : List Expr}
def bAnd (a b : M Bool) : M Bool := bindM a fun x => if x = true then b else pureM false
def bOr (a b : M Bool) : M Bool := bindM a fun x => if x = true then pureM true else b
def bNot (a : M Bool) : M Bool := bindM a fun x => pureM (!x)
theorem dw_and1 (ha : DT X Y a ta) : DW X Y (.BoolOp .And [a] pos) ta := pw_and1 ha
theorem dw_or1 (ha : DT X Y a ta) : DW X Y (.BoolOp .Or [a] pos) ta := pw_or1 ha
theorem dw_and (ha : DT X Y a ta) (hb : DW X Y (.BoolOp .And (b :: rest) pos) tb) : DW X Y (.BoolOp .And (a :: b :: rest) pos) (bAnd ta tb) :=
  PW.weak (pw_and ha hb) fun σ H Q ⟨F, P, G, ρ, r', er, e, hm, hp⟩ => tG_bind (Re := relB) er e hm hp fun G1 H1 ρ1 x v s1 e1 (ro : v = x) hm1 => by
    subst ro
    cases v with
    | true =>
      rw [if_pos rfl] at hm1 ⊢
      exact ⟨F, P, G1, ρ1, r', er, e1, hm1, hp.mono s1⟩
    | false =>
      rw [if_neg Bool.false_ne_true] at hm1 ⊢
      cases hm1
      exact hp false G1 H1 s1 e1 rfl
theorem dw_or (ha : DT X Y a ta) (hb : DW X Y (.BoolOp .Or (b :: rest) pos) tb) : DW X Y (.BoolOp .Or (a :: b :: rest) pos) (bOr ta tb) :=
  PW.weak (pw_or ha hb) fun σ H Q ⟨F, P, G, ρ, r', er, e, hm, hp⟩ => tG_bind (Re := relB) er e hm hp fun G1 H1 ρ1 x v s1 e1 (ro : v = x) hm1 => by
    subst ro
    cases v with
    | true =>
      rw [if_pos rfl] at hm1 ⊢
      cases hm1
      exact hp true G1 H1 s1 e1 rfl
    | false =>
      rw [if_neg Bool.false_ne_true] at hm1 ⊢
      exact ⟨F, P, G1, ρ1, r', er, e1, hm1, hp.mono s1⟩
theorem DW.dt {e : Expr} (h : DW X Y e ta) : DT X Y e ta := PW.pt h
theorem dt_not (ha : DT X Y a ta) : DT X Y (.UnaryOp .Not a pos) (bNot ta) :=
  PT.weak (pt_not ha) fun σ H Q ⟨F, P, G, ρ, r', er, e, hm, hp⟩ => tG_bind (Re := relB) er e hm hp fun G1 H1 ρ1 x v s1 e1 (ro : v = x) hm1 => by
    subst ro
    cases hm1
    exact hp _ G1 H1 s1 e1 rfl
def eAnd (a b : M Rf) : M Rf := bindM a fun x => match x with
  | .dat (.bl true) => b
  | .dat (.bl false) => pureM (.dat (.bl false))
  | _ => failM
def eOr (a b : M Rf) : M Rf := bindM a fun x => match x with
  | .dat (.bl true) => pureM (.dat (.bl true))
  | .dat (.bl false) => b
  | _ => failM
def eNot (a : M Rf) : M Rf := bindM a fun x => match x with
  | .dat (.bl b) => pureM (.dat (.bl (!b)))
  | _ => failM
theorem de_one {op} (h : DE X Y a ma) : DE X Y (.BoolOp op [a] pos) ma := pe_one h
theorem de_and (ha : DE X Y a ma) (hb : DE X Y (.BoolOp .And (b :: rest) pos) mb) : DE X Y (.BoolOp .And (a :: b :: rest) pos) (eAnd ma mb) :=
  PE.weak (pe_and ha hb) fun σ H Q ⟨F, P, G, ρ, r', er, e, hm, hp⟩ => tG_bind er e hm hp fun G1 H1 ρ1 x v s1 e1 ro hm1 => by
    cases x with
    | cel i => cases hm1
    | new ds => cases hm1
    | dat d =>
      cases d with
      | bl k =>
        have ro : Im (amb X) G1 v (.bl k) := ro
        cases ro
        refine ⟨k, rfl, ?_⟩
        cases k with
        | true =>
          rw [if_pos rfl]
          exact ⟨F, P, G1, ρ1, r', er, e1, hm1, hp.mono s1⟩
        | false =>
          rw [if_neg Bool.false_ne_true]
          cases hm1
          exact hp _ G1 H1 s1 e1 (.bl false)
      | _ => cases hm1
theorem de_or (ha : DE X Y a ma) (hb : DE X Y (.BoolOp .Or (b :: rest) pos) mb) : DE X Y (.BoolOp .Or (a :: b :: rest) pos) (eOr ma mb) :=
  PE.weak (pe_or ha hb) fun σ H Q ⟨F, P, G, ρ, r', er, e, hm, hp⟩ => tG_bind er e hm hp fun G1 H1 ρ1 x v s1 e1 ro hm1 => by
    cases x with
    | cel i => cases hm1
    | new ds => cases hm1
    | dat d =>
      cases d with
      | bl k =>
        have ro : Im (amb X) G1 v (.bl k) := ro
        cases ro
        refine ⟨k, rfl, ?_⟩
        cases k with
        | true =>
          rw [if_pos rfl]
          cases hm1
          exact hp _ G1 H1 s1 e1 (.bl true)
        | false =>
          rw [if_neg Bool.false_ne_true]
          exact ⟨F, P, G1, ρ1, r', er, e1, hm1, hp.mono s1⟩
      | _ => cases hm1
theorem de_not (ha : DE X Y a ma) : DE X Y (.UnaryOp .Not a pos) (eNot ma) :=
  PE.weak (pe_not ha) fun σ H Q ⟨F, P, G, ρ, r', er, e, hm, hp⟩ => tG_bind er e hm hp fun G1 H1 ρ1 x v s1 e1 ro hm1 => by
    cases x with
    | cel i => cases hm1
    | new ds => cases hm1
    | dat d =>
      cases d with
      | bl k =>
        have ro : Im (amb X) G1 v (.bl k) := ro
        cases ro
        cases hm1
        exact ⟨k, rfl, hp _ G1 H1 s1 e1 (.bl _)⟩
      | _ => cases hm1
def eIf (t : M Bool) (a b : M Rf) : M Rf := bindM t fun x => if x = true then a else b
theorem de_if (hc : DT X Y c ta) (ha : DE X Y a ma) (hb : DE X Y b mb) : DE X Y (.IfExp c a b pos) (eIf ta ma mb) :=
  PE.weak (pe_ifExp hc ha hb) fun σ H Q ⟨F, P, G, ρ, r', er, e, hm, hp⟩ => tG_bind (Re := relB) er e hm hp fun G1 H1 ρ1 x v s1 e1 (ro : v = x) hm1 => by
    subst ro
    cases v with
    | true =>
      rw [if_pos rfl] at hm1 ⊢
      exact ⟨F, P, G1, ρ1, r', er, e1, hm1, hp.mono s1⟩
    | false =>
      rw [if_neg Bool.false_ne_true] at hm1 ⊢
      exact ⟨F, P, G1, ρ1, r', er, e1, hm1, hp.mono s1⟩

/-! chains: a op b op' c -/
def eChain (f g : D → D → Option D) (a b c : M Rf) : M Rf := bindM a fun x => bindM b fun y => bindM (drf (stl x)) fun p => bindM (drf (stl y)) fun q => match f p q with
  | some (.bl true) => bindM c fun z => bindM (drf (stl y)) fun q' => bindM (drf (stl z)) fun w => optM ((g q' w).map mk)
  | some (.bl false) => pureM (.dat (.bl false))
  | _ => failM
theorem chain_tail {r r' : R2} {f g : D → D → Option D} (hr : RO (amb X) r f) (hg : RO (amb X) r' g) {σ : L2.St} {H : Hp} {Q : VK} (h : tG (amb X) Y (relE (amb X)) (eChain f g ma mb mc) σ H Q) :
    tChain r r' (tG (amb X) Y (relE (amb X)) ma) (tG (amb X) Y (relE (amb X)) mb) (tG (amb X) Y (relE (amb X)) mc) σ H Q := by
  obtain ⟨F, P, G, ρ, r0, er, e, hm, hp⟩ := h
  refine tE_bind er e hm hp fun G1 H1 ρ1 x v s1 e1 so1 hm1 hp1 => tE_bind er e1 hm1 hp1 fun G2 H2 ρ2 y u s2 e2 so2 hm2 hp2 => ?_
  obtain ⟨p, d1, hm3⟩ := drf_ok hm2
  obtain ⟨q, d2, hm4⟩ := drf_ok hm3
  cases hf : f p q with
  | none =>
    simp only [hf] at hm4
    cases hm4
  | some d =>
    simp only [hf] at hm4
    cases d with
    | bl k =>
      refine hr F P σ G2 H2 ρ2 v u p q _ _ e2 (top_of e2 (so1.mono s2) d1) (top_of e2 so2 d2) hf fun v' G3 H3 s3 e3 ro => ?_
      have ro : Im (amb X) G3 v' (.bl k) := ro
      cases ro
      refine ⟨k, rfl, ?_⟩
      cases k with
      | false =>
        rw [if_neg Bool.false_ne_true]
        cases hm4
        exact hp2 _ G3 H3 s3 e3 (.bl false)
      | true =>
        rw [if_pos rfl]
        refine tE_bind er e3 hm4 (hp2.mono s3) fun G4 H4 ρ4 z w s4 e4 so4 hm5 hp5 => ?_
        obtain ⟨q', d3, hm6⟩ := drf_ok hm5
        obtain ⟨w', d4, hm7⟩ := drf_ok hm6
        obtain ⟨z', hz, rfl⟩ := optM_ok hm7
        obtain ⟨d, hd, rfl⟩ := map_some' hz
        exact hg F P σ G4 H4 ρ4 u w q' w' d Q e4 (top_of e4 (so2.mono (s3.trans s4)) d3) (top_of e4 so4 d4) hd fun v' G' H' s e' ro => hp5 v' G' H' s e' ro
    | _ => cases hm4
theorem de_chain {op op' : CmpOp} {r r' : R2} {f g : D → D → Option D} (ho : OpR X (compareOp op) r) (ho' : OpR X (compareOp op') r') (hr : RO (amb X) r f) (hg : RO (amb X) r' g) (ha : DE X Y a ma) (hb : DE X Y b mb) (hc : DE X Y c mc)
    (hm : lastMarks [op, op'] [b, c] = false := by with_unfolding_all rfl) : DE X Y (.Compare a [op, op'] [b, c] pos) (eChain f g ma mb mc) :=
  PE.weak (pe_chain ho ho' ha hb hc hm) fun _ _ _ h => chain_tail hr hg h
theorem dt_chain {op op' : CmpOp} {r r' : R2} {f g : D → D → Option D} (ho : OpR X (compareOp op) r) (ho' : OpR X (compareOp op') r') (hr : RO (amb X) r f) (hg : RO (amb X) r' g) (ha : DE X Y a ma) (hb : DE X Y b mb) (hc : DE X Y c mc)
    (hm : lastMarks [op, op'] [b, c] = false := by with_unfolding_all rfl) : DT X Y (.Compare a [op, op'] [b, c] pos) (tst (eChain f g ma mb mc)) :=
  PT.weak (pt_chain ho ho' ha hb hc hm) fun _ _ _ h => tst_tail (fun _ => chain_tail hr hg) h

/-! argument lists, displays -/
def aNil : M (List Rf) := pureM []
def aCons (a : M Rf) (r : M (List Rf)) : M (List Rf) := bindM a fun x => bindM r fun xs => pureM (stl x :: xs)
theorem da_nil : DA X Y [] aNil := PA.weak pa_nil fun σ H Q ⟨F, P, G, ρ, r, er, e, hm, hp⟩ => by
  cases hm
  exact hp [] G H (Same.refl G) e .nil
theorem da_cons (ha : DE X Y a ma) (hr : DA X Y es ms) (hs : starEach (a :: es) X.env = (false, eval a X.env) :: starEach es X.env := by rfl) : DA X Y (a :: es) (aCons ma ms) :=
  PA.weak (pa_cons ha hr hs) fun σ H Q ⟨F, P, G, ρ, r, er, e, hm, hp⟩ => tE_bind er e hm hp fun G1 H1 ρ1 x v s1 e1 so1 hm1 hp1 => tG_bind (Re := relA (amb X)) er e1 hm1 hp1 fun G2 H2 ρ2 xs vs s2 e2 so2 hm2 => by
    cases hm2
    exact hp1 (v :: vs) G2 H2 s2 e2 (.cons (so1.mono s2) so2)
/-- the items of a display are ours no longer -/
def frz (x : Rf) : M D := fun ρ => match x with
  | .dat d => some (.ok d ρ)
  | .new ds => some (.ok (.lst ds) ρ)
  | .cel i => match ρ[i]? with
    | some (.cel false (.lst ds)) => some (.ok (.lst ds) (ρ.set i (.val (.lst ds))))
    | some (.val d) => some (.ok d ρ)
    | _ => none
def frzs : List Rf → M (List D)
  | [] => pureM []
  | x :: xs => bindM (frz x) fun d => bindM (frzs xs) fun ds => pureM (d :: ds)
theorem frz_ok {A : Amb} {F : Fx} {P : List (Nat × Addr)} {σ : L2.St} {G H : Hp} {ρ : E} {v : V} {x : Rf} {r : R D} (e : EnvG A F P σ G H ρ) (h : SOk A σ G v x) (hm : frz x ρ = some r) :
    ∃ d ρ' G', r = .ok d ρ' ∧ Same G G' ∧ EnvG A F P σ G' H ρ' ∧ Im A G' v d := by
  cases x with
  | dat d =>
    cases hm
    exact ⟨d, ρ, G, rfl, Same.refl G, e, h⟩
  | new ds => exact h.elim
  | cel i =>
    have h : σ[i]? = some (some v) := h
    unfold frz at hm
    simp only at hm
    cases q : ρ[i]? with
    | none =>
      rw [q] at hm
      cases hm
    | some s =>
      rw [q] at hm
      cases s with
      | no => cases hm
      | err x => cases hm
      | val d =>
        cases hm
        obtain ⟨u, h1, h2⟩ := e.val i d q
        rw [h] at h1
        cases h1
        exact ⟨d, ρ, G, rfl, Same.refl G, e, h2⟩
      | cel p c =>
        cases p with
        | true => cases hm
        | false =>
          cases c with
          | lst ds =>
            cases hm
            obtain ⟨l, G', h1, s, e', im⟩ := e.freeze q
            rw [h] at h1
            cases h1
            exact ⟨_, _, G', rfl, s, e', im⟩
          | _ => cases hm
theorem frzs_ok {A : Amb} {F : Fx} {P : List (Nat × Addr)} {σ : L2.St} {H : Hp} : ∀ {vs : List V} {xs : List Rf} {G : Hp} {ρ : E} {r : R (List D)}, EnvG A F P σ G H ρ → SOks A σ G vs xs → frzs xs ρ = some r →
    ∃ ds ρ' G', r = .ok ds ρ' ∧ Same G G' ∧ EnvG A F P σ G' H ρ' ∧ Ims A G' vs ds
  | _, _, G, ρ, _, e, .nil, h => by
    cases h
    exact ⟨[], ρ, G, rfl, Same.refl G, e, .nil⟩
  | _, x :: xs, G, ρ, r, e, .cons h t, hm => by
    unfold frzs at hm
    cases q : frz x ρ with
    | none =>
      rw [bindM_none q] at hm
      cases hm
    | some r1 =>
      obtain ⟨d, ρ1, G1, rfl, s1, e1, i1⟩ := frz_ok e h q
      rw [bindM_ok q] at hm
      cases q2 : frzs xs ρ1 with
      | none =>
        rw [bindM_none q2] at hm
        cases hm
      | some r2 =>
        obtain ⟨ds, ρ2, G2, rfl, s2, e2, i2⟩ := frzs_ok e1 (t.mono s1) q2
        rw [bindM_ok q2] at hm
        cases hm
        exact ⟨d :: ds, ρ2, G2, rfl, s1.trans s2, e2, .cons (i1.mono s2) i2⟩
def eTup (ms : M (List Rf)) : M Rf := bindM ms fun xs => bindM (frzs xs) fun ds => if ds.length ≤ sizeLine then pureM (.dat (.tup ds)) else failM
def eLst (ms : M (List Rf)) : M Rf := bindM ms fun xs => bindM (frzs xs) fun ds => if ds.length ≤ sizeLine then pureM (.new ds) else failM
theorem disp_in {A : Amb} {F : Fx} {P : List (Nat × Addr)} {σ : L2.St} {G H : Hp} {ρ : E} {vs : List V} {xs : List Rf} {α : Type} {k : List D → M α} {r : R α} (e : EnvG A F P σ G H ρ) (h : SOks A σ G vs xs) (hm : bindM (frzs xs) k ρ = some r) :
    ∃ ds ρ' G', k ds ρ' = some r ∧ Same G G' ∧ EnvG A F P σ G' H ρ' ∧ Ims A G' vs ds := by
  cases q : frzs xs ρ with
  | none =>
    rw [bindM_none q] at hm
    cases hm
  | some r1 =>
    obtain ⟨ds, ρ1, G1, rfl, s1, e1, i1⟩ := frzs_ok e h q
    rw [bindM_ok q] at hm
    exact ⟨ds, ρ1, G1, hm, s1, e1, i1⟩
/-- a display, its object known -/
def tTupF (t : TA) : TE := fun σ H Q => t σ H fun xs H1 => xs.length ≤ sizeLine ∧ ∀ (p : Addr) (o : Obj), H1 p = none → o.dict = none → Q (.ref p) (upd H1 p (.frz o (.tup xs)))
theorem pe_tupF {x1} {t : TA} (h : PA X es t) : PE X (.Tuple es x1 pos) (tTupF t) := by
  refine ⟨fun pins s σ H Q I hq => wpAny_Tuple_spliced (thn (h.run pos pins s σ H _ I hq) ?_)⟩
  rintro us s1 ⟨xs, H1, I1, r, z, q⟩
  refine ⟨by rw [← r.length]; exact z, .ref s1.heap.objs.size, _, ?_, rfl, q s1.heap.objs.size { cls := .type "tuple", data := .seq us.toArray } (I1.hok.fresh (Nat.le_refl _)) rfl⟩
  exact I1.laid (t' := s1.toks) (fun _ _ e => Heap.get?_push_of_some _ e) (Nat.le_refl _) ⟨Heap.get?_push_size _ rfl, z, us, r, ⟨_, Heap.get?_push_size _ rfl, rfl, _, rfl⟩⟩
theorem de_tup {x1} (h : DA X Y es ms) : DE X Y (.Tuple es x1 pos) (eTup ms) :=
  PE.weak (pe_tupF h) fun σ H Q ⟨F, P, G, ρ, r, er, e, hm, hp⟩ => tG_bind (Re := relA (amb X)) er e hm hp fun G1 H1 ρ1 xs vs s1 e1 so1 hm1 => by
    obtain ⟨ds, ρ2, G2, hm2, s2, e2, i2⟩ := disp_in e1 so1 hm1
    by_cases hl : ds.length ≤ sizeLine
    · rw [if_pos hl] at hm2
      cases hm2
      refine ⟨by rw [i2.length]; exact hl, fun p o n dn => ?_⟩
      obtain ⟨G3, s3, e3, ro⟩ := e2.newT n dn i2
      exact hp _ G3 _ (s1.trans (s2.trans s3)) e3 ro
    · rw [if_neg hl] at hm2
      cases hm2
theorem de_lst (h : DA X Y es ms) : DE X Y (.List es pos) (eLst ms) :=
  PE.weak (pe_lst h) fun σ H Q ⟨F, P, G, ρ, r, er, e, hm, hp⟩ => tG_bind (Re := relA (amb X)) er e hm hp fun G1 H1 ρ1 xs vs s1 e1 so1 hm1 => by
    obtain ⟨ds, ρ2, G2, hm2, s2, e2, i2⟩ := disp_in e1 so1 hm1
    by_cases hl : ds.length ≤ sizeLine
    · rw [if_pos hl] at hm2
      cases hm2
      refine ⟨by rw [i2.length]; exact hl, fun p n => ?_⟩
      obtain ⟨e3, ro⟩ := e2.newL n i2
      exact hp _ G2 _ (s1.trans s2) e3 ro
    · rw [if_neg hl] at hm2
      cases hm2
/-! built-ins by values -/
def eCall (f : List D → Option D) (ms : M (List Rf)) : M Rf := bindM ms fun xs => bindM (drfs xs) fun ds => optM ((f ds).map mk)
def RCo (A : Amb) (r : List V → Hp → VK → Prop) (f : List D → Option D) : Prop := ∀ F P σ G H ρ xs ds d (Q : VK), EnvG A F P σ G H ρ → Tops A G H xs ds → f ds = some d →
  (∀ v G' H', Same G G' → EnvG A F P σ G' H' ρ → RfOk A F σ G' H' ρ v (mk d) → Q v H') → r xs H Q
theorem call_tail {r : List V → Hp → VK → Prop} {f : List D → Option D} (hr : RCo (amb X) r f) {σ : L2.St} {H : Hp} {Q : VK} (h : tG (amb X) Y (relE (amb X)) (eCall f ms) σ H Q) : tCB r (tG (amb X) Y (relA (amb X)) ms) σ H Q := by
  obtain ⟨F, P, G, ρ, r', er, e, hm, hp⟩ := h
  refine tG_bind (Re := relA (amb X)) er e hm hp fun G1 H1 ρ1 xs vs s1 e1 so1 hm1 => ?_
  obtain ⟨ds, d1, hm2⟩ := drfs_ok hm1
  obtain ⟨z, hz, rfl⟩ := optM_ok hm2
  obtain ⟨d, hd, rfl⟩ := map_some' hz
  exact hr F P σ G1 H1 ρ1 vs ds d Q e1 (tops_of e1 so1 d1) hd fun v' G' H' s e' ro => hp v' G' H' (s1.trans s) e' ro
theorem de_weak {t : TE} {m : M Rf} (h : PE X a t) (w : ∀ σ H Q, tG (amb X) Y (relE (amb X)) m σ H Q → t σ H Q) : DE X Y a m := PE.weak h w
end
end Z

set_option Elab.async false
set_option linter.all false
set_option maxRecDepth 100000
set_option maxHeartbeats 4000000
/-! ZC: statements, targets, loops. -/
namespace Z
open PySem PySem.Spec PyProof.Rows L2

inductive O where
  | nx (ρ : E)
  | rt (x : Rf) (ρ : E)
  | bk (ρ : E)
  | ct (ρ : E)
  | ex (x : Ex) (ρ : E)
abbrev S := E → Option O
def PostS (A : Amb) (Y : Yc) (F : Fx) (P : List (Nat × Addr)) (D : Ends) : O → Prop
  | .nx ρ => ∀ σ' G' H', EnvG A F P σ' G' H' ρ → D.nx σ' H'
  | .rt x ρ => ∀ v σ' G' H', EnvG A F P σ' G' H' ρ → RfOk A F σ' G' H' ρ v x → D.rt v H'
  | .bk ρ => ∀ σ' G' H', EnvG A F P σ' G' H' ρ → D.bk σ' H'
  | .ct ρ => ∀ σ' G' H', EnvG A F P σ' G' H' ρ → D.ct σ' H'
  | .ex x ρ => ∀ cls d σ' G' H', EnvG A F P σ' G' H' ρ → ExAt A G' cls d x → Y.W cls d σ' H'
def tS (A : Amb) (Y : Yc) (m : S) : TS := fun D σ H => ∃ F P G ρ o, F.er = Y.er ∧ EnvG A F P σ G H ρ ∧ m ρ = some o ∧ PostS A Y F P D o
def liftS {α : Type} (m : M α) (k : α → S) : S := fun ρ => match m ρ with
  | none => none
  | some (.ex x ρ') => some (.ex x ρ')
  | some (.ok a ρ') => k a ρ'
theorem liftS_ok {α : Type} {m : M α} {k : α → S} {ρ ρ' : E} {a : α} (h : m ρ = some (.ok a ρ')) : liftS m k ρ = k a ρ' := by
  unfold liftS
  rw [h]
theorem liftS_ex {α : Type} {m : M α} {k : α → S} {ρ ρ' : E} {x : Ex} (h : m ρ = some (.ex x ρ')) : liftS m k ρ = some (.ex x ρ') := by
  unfold liftS
  rw [h]
theorem liftS_none {α : Type} {m : M α} {k : α → S} {ρ : E} (h : m ρ = none) : liftS m k ρ = none := by
  unfold liftS
  rw [h]
section
variable {A : Amb} {Y : Yc} {F : Fx} {P : List (Nat × Addr)} {σ : L2.St} {G H : Hp} {ρ : E}
theorem tS_bind {α β : Type} {Re : Rel α β} {ma : M α} {k : α → S} {o : O} {D : Ends} {T : β → Hp → Prop} (er : F.er = Y.er) (e : EnvG A F P σ G H ρ) (hm : liftS ma k ρ = some o) (hp : PostS A Y F P D o)
    (hT : ∀ G1 H1 ρ1 x v, Same G G1 → EnvG A F P σ G1 H1 ρ1 → Re F σ G1 H1 ρ1 v x → k x ρ1 = some o → T v H1) : tG A Y Re ma σ H T := by
  cases h : ma ρ with
  | none =>
    rw [liftS_none h] at hm
    cases hm
  | some r1 =>
    refine ⟨F, P, G, ρ, r1, er, e, h, ?_⟩
    cases r1 with
    | ok a ρ' =>
      rw [liftS_ok h] at hm
      exact fun v G1 H1 s e1 ra => hT G1 H1 ρ' a v s e1 ra hm
    | ex x ρ' =>
      rw [liftS_ex h] at hm
      cases hm
      exact fun cls d G1 H1 _ e1 xa => hp cls d σ G1 H1 e1 xa
end

def DS (X : Cx) (Y : Yc) (st : Stmt) (m : S) : Prop := PS X st (tS (amb X) Y m)
def DSs (X : Cx) (Y : Yc) (sts : List Stmt) (m : S) : Prop := PSs X sts (tS (amb X) Y m)
theorem PS.weak {X : Cx} {st : Stmt} {t t' : TS} (h : PS X st t) (w : ∀ D σ H, t' D σ H → t D σ H) : PS X st t' := ⟨fun pins s σ H D I q => h.run pins s σ H D I (w _ _ _ q)⟩
theorem PSs.weak {X : Cx} {st : List Stmt} {t t' : TS} (h : PSs X st t) (w : ∀ D σ H, t' D σ H → t D σ H) : PSs X st t' := ⟨fun pins s σ H D I q => h.run pins s σ H D I (w _ _ _ q)⟩

def sNx : S := fun ρ => some (.nx ρ)
def sSeq (m n : S) : S := fun ρ => match m ρ with
  | none => none
  | some (.nx ρ') => n ρ'
  | some o => some o
def sExpr (m : M Rf) : S := liftS m fun _ ρ => some (.nx ρ)
def sRet (m : M Rf) : S := liftS m fun x ρ => some (.rt x ρ)
def sRetN : S := fun ρ => some (.rt (.dat .non) ρ)
def sIf (t : M Bool) (a b : S) : S := liftS t fun c => if c = true then a else b
def sBk : S := fun ρ => some (.bk ρ)
def sCt : S := fun ρ => some (.ct ρ)
section
variable {X : Cx} {Y : Yc} {st : Stmt} {rest body orelse : List Stmt} {m n : S} {e : Expr} {me : M Rf} {mt : M Bool} {pos : Pos}
theorem dss_nil : DSs X Y [] sNx := PSs.weak pss_nil fun D σ H ⟨F, P, G, ρ, o, er, e, hm, hp⟩ => by
  cases hm
  exact hp σ G H e
theorem seq_tail {D : Ends} {σ : L2.St} {H : Hp} (h : tS (amb X) Y (sSeq m n) D σ H) : tSeq (tS (amb X) Y m) (tS (amb X) Y n) D σ H := by
  obtain ⟨F, P, G, ρ, o, er, e, hm, hp⟩ := h
  unfold sSeq at hm
  cases q : m ρ with
  | none =>
    rw [q] at hm
    cases hm
  | some o1 =>
    rw [q] at hm
    refine ⟨F, P, G, ρ, o1, er, e, q, ?_⟩
    cases o1 with
    | nx ρ' => exact fun σ' G' H' e' => ⟨F, P, G', ρ', o, er, e', hm, hp⟩
    | rt x ρ' =>
      cases hm
      exact hp
    | bk ρ' =>
      cases hm
      exact hp
    | ct ρ' =>
      cases hm
      exact hp
    | ex x ρ' =>
      cases hm
      exact hp
theorem dss_cons (h1 : DS X Y st m) (h2 : DSs X Y rest n) : DSs X Y (st :: rest) (sSeq m n) := PSs.weak (pss_cons h1 h2) fun _ _ _ h => seq_tail h
theorem dss_one (h1 : DS X Y st m) : DSs X Y [st] m := pss_one h1
theorem ds_pass : DS X Y (.Pass pos) sNx := PS.weak ps_pass fun D σ H ⟨F, P, G, ρ, o, er, e, hm, hp⟩ => by
  cases hm
  exact hp σ G H e
theorem ds_break : DS X Y (.Break pos) sBk := PS.weak ps_break fun D σ H ⟨F, P, G, ρ, o, er, e, hm, hp⟩ => by
  cases hm
  exact hp σ G H e
theorem ds_continue : DS X Y (.Continue pos) sCt := PS.weak ps_continue fun D σ H ⟨F, P, G, ρ, o, er, e, hm, hp⟩ => by
  cases hm
  exact hp σ G H e
theorem ds_doc {x j pos'} : DS X Y (.Expr (.Constant (.str x) j pos) pos') sNx := PS.weak ps_doc fun D σ H ⟨F, P, G, ρ, o, er, e, hm, hp⟩ => by
  cases hm
  exact hp σ G H e
theorem ds_expr (he : DE X Y e me) (hs : swapsWith e none pos.line X.env = pure false := by rfl) : DS X Y (.Expr e pos) (sExpr me) := PS.weak (ps_expr he hs) fun D σ H ⟨F, P, G, ρ, o, er, e, hm, hp⟩ =>
  tS_bind er e hm hp fun G1 H1 ρ1 x v s1 e1 ro hk => by
    cases hk
    exact hp σ G1 H1 e1
theorem ds_ret (he : DE X Y e me) : DS X Y (.Return (some e) pos) (sRet me) := PS.weak (ps_ret he) fun D σ H ⟨F, P, G, ρ, o, er, e, hm, hp⟩ =>
  tS_bind er e hm hp fun G1 H1 ρ1 x v s1 e1 ro hk => by
    cases hk
    exact hp v σ G1 H1 e1 ro
theorem ds_retN : DS X Y (.Return none pos) sRetN := PS.weak ps_retN fun D σ H ⟨F, P, G, ρ, o, er, e, hm, hp⟩ => by
  cases hm
  exact hp .non σ G H e .non
theorem ds_if (hc : DT X Y e mt) (ha : DSs X Y body m) (hb : DSs X Y orelse n) : DS X Y (.If e body orelse pos) (sIf mt m n) := PS.weak (ps_if hc ha hb) fun D σ H ⟨F, P, G, ρ, o, er, e, hm, hp⟩ =>
  tS_bind (Re := relB) er e hm hp fun G1 H1 ρ1 x v s1 e1 (ro : v = x) hk => by
    subst ro
    cases v with
    | true =>
      rw [if_pos rfl] at hk ⊢
      exact ⟨F, P, G1, ρ1, o, er, e1, hk, hp⟩
    | false =>
      rw [if_neg Bool.false_ne_true] at hk ⊢
      exact ⟨F, P, G1, ρ1, o, er, e1, hk, hp⟩
end

/-! targets -/
abbrev Tg := Rf → E → Option E
def tgG (A : Amb) (Y : Yc) (t : Tg) : TG := fun v σ H Q => ∃ F P G ρ x ρ', F.er = Y.er ∧ EnvG A F P σ G H ρ ∧ RfOk A F σ G H ρ v x ∧ t x ρ = some ρ' ∧ ∀ σ' G' H', EnvG A F P σ' G' H' ρ' → Q σ' H'
def DG (X : Cx) (Y : Yc) (tg : Expr) (t : Tg) : Prop := PG X tg (tgG (amb X) Y t)
theorem PG.weak {X : Cx} {e : Expr} {t t' : TG} (h : PG X e t) (w : ∀ v σ H Q, t' v σ H Q → t v σ H Q) : PG X e t' := ⟨fun pins s σ H v u Q I r q => h.run pins s σ H v u Q I r (w _ _ _ _ q)⟩
theorem PGs.weak {X : Cx} {e : List Expr} {t t' : TGs} (h : PGs X e t) (w : ∀ v σ H Q, t' v σ H Q → t v σ H Q) : PGs X e t' := ⟨fun pins s σ H v u Q I r q => h.run pins s σ H v u Q I r (w _ _ _ _ q)⟩
/-- no parameter's object in that slot -/
def okSlot (ρ : E) (i : Nat) : Bool := match ρ[i]? with
  | some (.cel true _) => false
  | _ => true
theorem okSlot_pin {A : Amb} {F : Fx} {P : List (Nat × Addr)} {σ : L2.St} {G H : Hp} {ρ : E} {i : Nat} (e : EnvG A F P σ G H ρ) (h : okSlot ρ i = true) : ∀ l, (i, l) ∉ P := fun l m => by
  obtain ⟨_, c, q⟩ := e.pin i l m
  unfold okSlot at h
  rw [q] at h
  cases h
def tgName (i : Nat) : Tg := fun x ρ => if okSlot ρ i = true then (match x with
  | .dat d => some (ρ.set i (.val d))
  | .new ds => some (ρ.set i (.cel false (.lst ds)))
  | .cel j => match ρ[j]? with
    | some (.cel false (.lst ds)) => some ((ρ.set j (.val (.lst ds))).set i (.val (.lst ds)))
    | _ => none) else none
theorem okSlot_set {ρ : E} {i j : Nat} {d : D} (h : okSlot ρ i = true) : okSlot (ρ.set j (.val d)) i = true := by
  unfold okSlot
  by_cases hj : j = i
  · subst hj
    rw [List.getElem?_set]
    by_cases hl : j < ρ.length
    · rw [if_pos rfl, if_pos hl]
    · rw [if_pos rfl, if_neg hl]
  · rw [List.getElem?_set_ne hj]
    exact h
section
variable {A : Amb} {Y : Yc} {F : Fx} {P : List (Nat × Addr)} {σ : L2.St} {G H : Hp} {ρ ρ' : E}
theorem tgName_ok {i : Nat} {x : Rf} {v : V} (e : EnvG A F P σ G H ρ) (h : RfOk A F σ G H ρ v x) (hm : tgName i x ρ = some ρ') : ∃ G', Same G G' ∧ EnvG A F P (σ.set i (some v)) G' H ρ' := by
  unfold tgName at hm
  by_cases hk : okSlot ρ i = true
  · rw [if_pos hk] at hm
    have hP := okSlot_pin e hk
    cases x with
    | dat d =>
      cases hm
      exact ⟨G, Same.refl G, e.setVal hP h⟩
    | new ds =>
      cases hm
      obtain ⟨l, vs, rfl, h1, h2, h3, h4, h5⟩ := h
      exact ⟨G, Same.refl G, e.setCel hP ⟨vs, h1, h4⟩ h2 h3 h5⟩
    | cel j =>
      have h : σ[j]? = some (some v) := h
      simp only at hm
      cases q : ρ[j]? with
      | none =>
        rw [q] at hm
        cases hm
      | some s =>
        rw [q] at hm
        cases s with
        | no => cases hm
        | val d => cases hm
        | err x => cases hm
        | cel p c =>
          cases p with
          | true => cases hm
          | false =>
            cases c with
            | lst ds =>
              cases hm
              obtain ⟨l, G', h1, s, e', im⟩ := e.freeze q
              rw [h] at h1
              cases h1
              exact ⟨G', s, e'.setVal (okSlot_pin e' (okSlot_set hk)) im⟩
            | _ => cases hm
  · rw [if_neg hk] at hm
    cases hm
end
section
variable {X : Cx} {Y : Yc} {pos : Pos} {t1 t2 : Expr} {ts : List Expr}
theorem dg_name {i : Nat} {x : Str} (h : PG X (.Name x pos) (gName i)) : DG X Y (.Name x pos) (tgName i) := PG.weak h fun v σ H Q ⟨F, P, G, ρ, x, ρ', er, e, ro, hm, hQ⟩ => by
  obtain ⟨G', s, e'⟩ := tgName_ok e ro hm
  exact hQ _ G' H e'
/-- (a, b, ..) = a tuple -/
abbrev Tgs := List D → E → Option E
def tgsG (A : Amb) (Y : Yc) (t : Tgs) : TGs := fun vs σ H Q => ∃ F P G ρ ds ρ', F.er = Y.er ∧ EnvG A F P σ G H ρ ∧ Ims A G vs ds ∧ t ds ρ = some ρ' ∧ ∀ σ' G' H', EnvG A F P σ' G' H' ρ' → Q σ' H'
def DGs (X : Cx) (Y : Yc) (tg : List Expr) (t : Tgs) : Prop := PGs X tg (tgsG (amb X) Y t)
def tgNil : Tgs := fun ds ρ => match ds with
  | [] => some ρ
  | _ => none
def tgCons (t : Tg) (u : Tgs) : Tgs := fun ds ρ => match ds with
  | d :: ds => match t (.dat d) ρ with
    | some ρ' => u ds ρ'
    | none => none
  | [] => none
/-- a target that does not forget what stays -/
def keepsG (A : Amb) (Y : Yc) (t : Tg) (tg : TG) : Prop := ∀ F P σ G H ρ x v ρ' (Q : L2.St → Hp → Prop), F.er = Y.er → EnvG A F P σ G H ρ → RfOk A F σ G H ρ v x → t x ρ = some ρ' → (∀ σ' G' H', Same G G' → EnvG A F P σ' G' H' ρ' → Q σ' H') → tg v σ H Q
theorem dgs_nil : DGs X Y [] tgNil := PGs.weak pgs_nil fun v σ H Q ⟨F, P, G, ρ, ds, ρ', er, e, ro, hm, hQ⟩ => by
  cases ro with
  | nil =>
    cases hm
    exact ⟨rfl, hQ σ G H e⟩
  | cons _ _ => cases hm
theorem dgs_cons {t : Tg} {u : Tgs} {g : TG} (h1 : PG X t1 g) (hk : keepsG (amb X) Y t g) (h2 : DGs X Y ts u) (hs : (assignEach (t1 :: ts) X.env).map (·.2) = assign t1 X.env :: (assignEach ts X.env).map (·.2) := by rfl) : DGs X Y (t1 :: ts) (tgCons t u) :=
  PGs.weak (pgs_cons h1 h2 hs) fun v σ H Q ⟨F, P, G, ρ, ds, ρ', er, e, ro, hm, hQ⟩ => by
    cases ro with
    | nil => cases hm
    | @cons v d vs ds h r =>
      unfold tgCons at hm
      simp only at hm
      cases q : t (.dat d) ρ with
      | none =>
        rw [q] at hm
        cases hm
      | some ρ1 =>
        rw [q] at hm
        exact ⟨v, vs, rfl, hk F P σ G H ρ (.dat d) v ρ1 _ er e h q fun σ' G' H' s e' => ⟨F, P, G', ρ1, ds, ρ', er, e', r.mono s, hm, hQ⟩⟩
theorem keeps_name {A : Amb} {i : Nat} : keepsG A Y (tgName i) (gName i) := fun F P σ G H ρ x v ρ' Q er e ro hm hQ => by
  obtain ⟨G', s, e'⟩ := tgName_ok e ro hm
  exact hQ _ G' H s e'
def D.unp : D → Option (List D)
  | .tup ds => some ds
  | .pr ds => some ds
  | _ => none
theorem Im.unp {A : Amb} {G : Hp} {v : V} {d : D} {ds : List D} (h : Im A G v d) (e : d.unp = some ds) : ∃ a vs, v = .ref a ∧ SqT A.K G a vs ∧ Ims A G vs ds := by
  cases h with
  | tup h r =>
    cases e
    exact ⟨_, _, rfl, h.sq, r⟩
  | pr h r =>
    cases e
    exact ⟨_, _, rfl, h, r⟩
  | _ => cases e
def tgTup (n : Nat) (t : Tgs) : Tg := fun x ρ => match x with
  | .dat d => match d.unp with
    | some ds => if ds.length = n then t ds ρ else none
    | none => none
  | _ => none
theorem tgTup_ok {A : Amb} {n : Nat} {t : Tgs} {u : TGs} (hu : ∀ F P σ G H ρ ds vs ρ' (Q : L2.St → Hp → Prop), F.er = Y.er → EnvG A F P σ G H ρ → Ims A G vs ds → t ds ρ = some ρ' → (∀ σ' G' H', Same G G' → EnvG A F P σ' G' H' ρ' → Q σ' H') → u vs σ H Q) : keepsG A Y (tgTup n t) (gTup A.K n u) :=
  fun F P σ G H ρ x v ρ' Q er e ro hm hQ => by
    cases x with
    | cel i => cases hm
    | new ds => cases hm
    | dat d =>
      unfold tgTup at hm
      cases q : d.unp with
      | none =>
        simp only [q] at hm
        cases hm
      | some ds =>
        simp only [q] at hm
        by_cases hl : ds.length = n
        · rw [if_pos hl] at hm
          obtain ⟨a, us, rfl, h, r⟩ := Im.unp (show Im A G v d from ro) q
          exact ⟨_, _, rfl, same_sqT e.gh h, r.length.trans hl, hu F P σ G H ρ ds _ ρ' Q er e r hm hQ⟩
        · rw [if_neg hl] at hm
          cases hm
theorem dg_tup {k n : Nat} {t : Tgs} (hc : X.calm = true) (h : DGs X Y ts t) (hn : (assignEach ts X.env).length = n := by rfl) (hst : (assignEach ts X.env).findIdx? (·.1) = none := by rfl) : DG X Y (.Tuple ts k pos) (tgTup n t) :=
  PG.weak (pg_tup hc h hn hst) fun v σ H Q ⟨F, P, G, ρ, x, ρ', er, e, ro, hm, hQ⟩ => by
    cases x with
    | cel i => cases hm
    | new ds => cases hm
    | dat d =>
      unfold tgTup at hm
      cases q : d.unp with
      | none =>
        simp only [q] at hm
        cases hm
      | some ds =>
        simp only [q] at hm
        by_cases hl : ds.length = n
        · rw [if_pos hl] at hm
          obtain ⟨a, us, rfl, h, r⟩ := Im.unp (show Im (amb X) G v d from ro) q
          exact ⟨_, _, rfl, same_sqT e.gh h, r.length.trans hl, F, P, G, ρ, ds, ρ', er, e, r, hm, hQ⟩
        · rw [if_neg hl] at hm
          cases hm
/-- target = e -/
def sAsg (m : M Rf) (t : Tg) : S := liftS m fun x ρ => match t x ρ with
  | some ρ' => some (.nx ρ')
  | none => none
theorem asg_tail {g : TG} {t : Tg} {me : M Rf} {D : Ends} {σ : L2.St} {H : Hp} (hg : ∀ v σ H Q, tgG (amb X) Y t v σ H Q → g v σ H Q) (h : tS (amb X) Y (sAsg me t) D σ H) : tAsg (tG (amb X) Y (relE (amb X)) me) g D σ H := by
  obtain ⟨F, P, G, ρ, o, er, e, hm, hp⟩ := h
  refine tS_bind er e hm hp fun G1 H1 ρ1 x v s1 e1 ro hk => hg _ _ _ _ ?_
  cases q : t x ρ1 with
  | none =>
    rw [q] at hk
    cases hk
  | some ρ' =>
    rw [q] at hk
    cases hk
    exact ⟨F, P, G1, ρ1, x, ρ', er, e1, ro, q, fun σ' G' H' e' => hp σ' G' H' e'⟩
theorem ds_asg {tg e : Expr} {t : Tg} {me : M Rf} (he : DE X Y e me) (hg : DG X Y tg t) (hs : swapsWithSole [tg] e pos.line X.env = pure false := by rfl) (hw : swappedStores [tg] e X.env = pure none := by rfl)
    (h1 : (assignEach [tg] X.env).map (·.2) = [assign tg X.env] := by rfl) : DS X Y (.Assign [tg] e pos) (sAsg me t) := PS.weak (ps_asg he hg hs hw h1) fun _ _ _ h => asg_tail (fun _ _ _ _ q => q) h
theorem ds_set {i : Nat} {x : Str} {e : Expr} {pos' : Pos} {me : M Rf} (he : DE X Y e me) (hN : X.N.Nodup) (hi : X.N[i]? = some x) (hx : Loc X.env.scope x) (hs : swapsWith e (some (.Name x pos')) pos.line X.env = pure false := by rfl)
    (hf : X.fn x = true ∨ X.env.scope.names.lookup x = some .local := by first | exact .inl rfl | exact .inr rfl | assumption) : DS X Y (.Assign [.Name x pos'] e pos) (sAsg me (tgName i)) :=
  PS.weak (ps_set hN hi hx he hs hf) fun _ _ _ h => asg_tail (fun v σ H Q ⟨F, P, G, ρ, x, ρ', er, e, ro, hm, hQ⟩ => by
    obtain ⟨G', s, e'⟩ := tgName_ok e ro hm
    exact hQ _ G' H e') h
end

/-! xs[i] = e : the value, the object, the place -/
def ixD (n : Nat) (i : Int) : Option Nat := ixN n i
def sSub (mv mo mi : M Rf) : S := liftS mv fun v => liftS (frz (stl v)) fun d => liftS mo fun o => liftS mi fun i => liftS (drf (stl i)) fun k ρ => match stl o, k with
  | .cel j, .int z => match ρ[j]? with
    | some (.cel p (.lst ds)) => match ixN ds.length z with
      | some q => some (.nx (ρ.set j (.cel p (.lst (ds.set q d)))))
      | none => none
    | _ => none
  | _, _ => none
section
variable {A : Amb} {Y : Yc} {F : Fx} {P : List (Nat × Addr)} {σ : L2.St} {G H : Hp} {ρ : E}
theorem tSE_bind {ma : M Rf} {k : Rf → S} {o : O} {D : Ends} {T : V → Hp → Prop} (er : F.er = Y.er) (e : EnvG A F P σ G H ρ) (hm : liftS ma k ρ = some o) (hp : PostS A Y F P D o)
    (hT : ∀ G1 H1 ρ1 x v, Same G G1 → EnvG A F P σ G1 H1 ρ1 → SOk A σ G1 v (stl x) → k x ρ1 = some o → T v H1) : tG A Y (relE A) ma σ H T :=
  tS_bind er e hm hp fun G1 H1 ρ1 x v s e1 ra hk => by
    obtain ⟨G2, s2, e2, so⟩ := settle e1 ra
    exact hT G2 H1 ρ1 x v (s.trans s2) e2 so hk
theorem liftS_frz {v : V} {x : Rf} {k : D → S} {o : O} (e : EnvG A F P σ G H ρ) (h : SOk A σ G v x) (hm : liftS (frz x) k ρ = some o) : ∃ d ρ' G', k d ρ' = some o ∧ Same G G' ∧ EnvG A F P σ G' H ρ' ∧ Im A G' v d := by
  cases q : frz x ρ with
  | none =>
    rw [liftS_none q] at hm
    cases hm
  | some r =>
    obtain ⟨d, ρ', G', rfl, s, e', im⟩ := frz_ok e h q
    rw [liftS_ok q] at hm
    exact ⟨d, ρ', G', hm, s, e', im⟩
theorem liftS_drf {x : Rf} {k : D → S} {o : O} (hm : liftS (drf x) k ρ = some o) : ∃ d, deref ρ x = some d ∧ k d ρ = some o := by
  unfold liftS drf at hm
  cases q : deref ρ x with
  | none =>
    rw [q] at hm
    cases hm
  | some d =>
    rw [q] at hm
    exact ⟨d, rfl, hm⟩
end
section
variable {X : Cx} {Y : Yc} {pos : Pos}
theorem ds_sub {o i e : Expr} {pos' : Pos} {mo mi me : M Rf} (he : DE X Y e me) (ho : DE X Y o mo) (hi : DE X Y i mi) (ha : ∀ v, assign (.Subscript o i pos') X.env v = (do
      let ov ← holding [v] (eval o X.env)
      let iv ← holding [v, ov] (eval i X.env)
      standAt pos'
      holding [v, ov, iv] (setItem ov iv v)
      release [v, ov, iv] []) := by intro _; rfl) (hs : swapsWithSole [.Subscript o i pos'] e pos.line X.env = pure false := by rfl) (hw : swappedStores [.Subscript o i pos'] e X.env = pure none := by rfl)
    (h1 : (assignEach [.Subscript o i pos'] X.env).map (·.2) = [assign (.Subscript o i pos') X.env] := by rfl) : DS X Y (.Assign [.Subscript o i pos'] e pos) (sSub me mo mi) :=
  PS.weak (ps_asg he (pg_sub ho hi set_list ha) hs hw h1) fun D σ H ⟨F, P, G, ρ, o, er, e, hm, hp⟩ => tSE_bind er e hm hp fun G1 H1 ρ1 x v s1 e1 so1 hk1 => by
    obtain ⟨d, ρ2, G2, hk2, s2, e2, im⟩ := liftS_frz e1 so1 hk1
    refine tSE_bind er e2 hk2 hp fun G3 H3 ρ3 y ov s3 e3 so3 hk3 => tSE_bind er e3 hk3 hp fun G4 H4 ρ4 z iv s4 e4 so4 hk4 => ?_
    obtain ⟨k, hd, hk5⟩ := liftS_drf hk4
    have tz := top_of e4 so4 hd
    have so3 := so3.mono s4
    cases hy : stl y with
    | dat d =>
      simp only [hy] at hk5
      cases hk5
    | new ds =>
      simp only [hy] at hk5
      cases hk5
    | cel j =>
      rw [hy] at so3
      have so3 : σ[j]? = some (some ov) := so3
      cases k with
      | int zi =>
        simp only [hy] at hk5
        have ti := tz.int
        subst ti
        cases q : ρ4[j]? with
        | none =>
          rw [q] at hk5
          cases hk5
        | some sl =>
          rw [q] at hk5
          cases sl with
          | no => cases hk5
          | val d => cases hk5
          | err x => cases hk5
          | cel p c =>
            cases c with
            | ins c ns ds => cases hk5
            | dct kvs => cases hk5
            | lst ds =>
              simp only at hk5
              cases hq : ixN ds.length zi with
              | none =>
                rw [hq] at hk5
                cases hk5
              | some qn =>
                rw [hq] at hk5
                cases hk5
                obtain ⟨l, h1, ⟨vs, h2, hv⟩, h3, h4⟩ := e4.cel j p (.lst ds) q
                rw [so3] at h1
                cases h1
                have im4 := im.mono (s3.trans s4)
                refine ⟨l, vs, zi, qn, rfl, rfl, h2, by rw [hv.length]; exact hq, hp _ G4 _ (e4.write (c' := .lst (ds.set qn d)) q so3 ⟨_, upd_same, Ims.set im4 qn hv⟩)⟩
      | _ =>
        simp only [hy] at hk5
        cases hk5
end

/-! loops -/
def whileN (t : M Bool) (b : S) : Nat → S
  | 0 => fun _ => none
  | n + 1 => liftS t fun c => if c = true then (fun ρ => match b ρ with
    | none => none
    | some (.nx ρ') => whileN t b n ρ'
    | some (.ct ρ') => whileN t b n ρ'
    | some (.bk ρ') => some (.nx ρ')
    | some o => some o) else sNx
section
variable {X : Cx} {Y : Yc} {body : List Stmt} {m : S} {c : Expr} {mt : M Bool} {pos : Pos}
theorem ds_while (n : Nat) (hp : PassesOwn (model X.prog X.w) X.A X.env X.xe) (hc : DT X Y c mt) (hb : DSs X Y body m) : DS X Y (.While c body [] pos) (whileN mt m n) :=
  PS.weak (ps_while hp hc hb) fun D σ H ⟨F, P, G, ρ, o, er, e, hm, hp⟩ => by
    refine ⟨fun k σ' H' => ∃ G' ρ', EnvG (amb X) F P σ' G' H' ρ' ∧ whileN mt m k ρ' = some o, ⟨n, G, ρ, e, hm⟩, fun k σ1 H1 ⟨G1, ρ1, e1, hk⟩ => ?_⟩
    cases k with
    | zero => cases hk
    | succ k =>
      refine tS_bind (Re := relB) er e1 hk hp fun G2 H2 ρ2 x v s2 e2 (ro : v = x) hk2 => ?_
      subst ro
      cases v with
      | false =>
        rw [if_neg Bool.false_ne_true] at hk2 ⊢
        cases hk2
        exact hp σ1 G2 H2 e2
      | true =>
        rw [if_pos rfl] at hk2 ⊢
        refine ⟨fun σ' H' => ∃ G' ρ', EnvG (amb X) F P σ' G' H' ρ' ∧ whileN mt m k ρ' = some o, fun σ' H' h => ⟨k, Nat.lt_succ_self k, h⟩, ?_⟩
        cases q : m ρ2 with
        | none =>
          rw [q] at hk2
          cases hk2
        | some o1 =>
          rw [q] at hk2
          refine ⟨F, P, G2, ρ2, o1, er, e2, q, ?_⟩
          cases o1 with
          | nx ρ3 => exact fun σ' G' H' e' => ⟨G', ρ3, e', hk2⟩
          | ct ρ3 => exact fun σ' G' H' e' => ⟨G', ρ3, e', hk2⟩
          | bk ρ3 =>
            cases hk2
            exact fun σ' G' H' e' => hp σ' G' H' e'
          | rt x ρ3 =>
            cases hk2
            exact hp
          | ex x ρ3 =>
            cases hk2
            exact hp

/-- what is walked: the items, one by one -/
structure Wlk (A : Amb) (J : It) (G : Hp) (ds : List D) : Prop where
  go : ∀ i H, Same G H → i < ds.length → J.go i H
  stop : ∀ H, Same G H → J.stop ds.length H
  yld : ∀ (i : Nat) H x H' d, Same G H → ds[i]? = some d → J.yld i H x H' → (H' = H ∧ Im A G x d) ∨ ∃ T vs ds', x = .ref T ∧ H T = none ∧ H' = upd H T (.tup vs) ∧ d = .pr ds' ∧ Ims A G vs ds'
theorem Wlk.mono {A : Amb} {J : It} {G G' : Hp} {ds : List D} (h : Wlk A J G ds) (s : Same G G') : Wlk A J G' ds :=
  ⟨fun i H g => h.go i H (s.trans g), fun H g => h.stop H (s.trans g), fun i H x H' d g hd y => by
    rcases h.yld i H x H' d (s.trans g) hd y with ⟨a, b⟩ | ⟨T, vs, ds', a, b, c, f, g⟩
    · exact .inl ⟨a, b.mono s⟩
    · exact .inr ⟨T, vs, ds', a, b, c, f, g.mono s⟩⟩
abbrev relI (A : Amb) : Rel (List D) It := fun _ _ G _ _ J ds => Wlk A J G ds
def DI (X : Cx) (Y : Yc) (tg iter : Expr) (m : M (List D)) : Prop := PI X tg iter (tG (amb X) Y (relI (amb X)) m)
theorem PI.weak {X : Cx} {tg e : Expr} {t t' : TI} (h : PI X tg e t) (w : ∀ σ H Q, t' σ H Q → t σ H Q) : PI X tg e t' := ⟨fun pins s σ H Q I q => h.run pins s σ H Q I (w _ _ _ q)⟩
def forL (t : Tg) (b : S) : List D → S
  | [] => sNx
  | d :: ds => fun ρ => match t (.dat d) ρ with
    | none => none
    | some ρ1 => match b ρ1 with
      | none => none
      | some (.nx ρ') => forL t b ds ρ'
      | some (.ct ρ') => forL t b ds ρ'
      | some (.bk ρ') => some (.nx ρ')
      | some o => some o
def sFor (mi : M (List D)) (t : Tg) (b : S) : S := liftS mi fun ds => forL t b ds
/-- a turn's item comes -/
theorem Wlk.turn {A : Amb} {F : Fx} {P : List (Nat × Addr)} {σ : L2.St} {G G1 H H' : Hp} {ρ : E} {J : It} {ds : List D} {i : Nat} {d : D} {x : V} (h : Wlk A J G ds) (s : Same G G1) (e : EnvG A F P σ G1 H ρ) (hd : ds[i]? = some d) (y : J.yld i H x H') :
    ∃ G2, Same G1 G2 ∧ EnvG A F P σ G2 H' ρ ∧ Im A G2 x d := by
  rcases h.yld i H x H' d (s.trans e.gh) hd y with ⟨a, b⟩ | ⟨T, vs, ds', rfl, b, rfl, rfl, g⟩
  · subst a
    exact ⟨G1, Same.refl G1, e, b.mono s⟩
  · obtain ⟨G2, s2, e2, ro⟩ := e.newP b (g.mono s)
    exact ⟨G2, s2, e2, ro⟩
theorem ds_for {tg iter : Expr} {mi : M (List D)} {t : Tg} (hp : PassesOwn (model X.prog X.w) X.A X.env X.xe) (hc : X.calm = true) (hi : DI X Y tg iter mi) (hg : DG X Y tg t) (hb : DSs X Y body m) (hs : ∀ x, foldedSetIterable iter X.env x = pure x := by intro _; rfl) :
    DS X Y (.For tg iter body [] pos) (sFor mi t m) :=
  PS.weak (ps_for hp hc hi hg hb hs) fun D σ H ⟨F, P, G, ρ, o, er, e, hm, hp⟩ => tS_bind (Re := relI (amb X)) er e hm hp fun G1 H1 ρ1 ds J s1 e1 ro hk => by
    refine ⟨fun i k σ' H' => k = ds.length - i ∧ i ≤ ds.length ∧ ∃ G' ρ', Same G1 G' ∧ EnvG (amb X) F P σ' G' H' ρ' ∧ forL t m (ds.drop i) ρ' = some o, ⟨ds.length, by simp, Nat.zero_le _, G1, ρ1, Same.refl G1, e1, hk⟩, ?_⟩
    rintro i k σ2 H2 ⟨rfl, hi, G2, ρ2, s2, e2, hk2⟩
    by_cases hlt : i < ds.length
    · have hd : ds[i]? = some ds[i] := by simp [hlt]
      have hdrop : ds.drop i = ds[i] :: ds.drop (i + 1) := List.drop_eq_getElem_cons hlt
      rw [hdrop] at hk2
      unfold forL at hk2
      refine .inr ⟨ro.go i H2 (s2.trans e2.gh) hlt, fun σ' H' => i + 1 ≤ ds.length ∧ ∃ G' ρ', Same G1 G' ∧ EnvG (amb X) F P σ' G' H' ρ' ∧ forL t m (ds.drop (i + 1)) ρ' = some o, fun σ' H' h => ⟨ds.length - (i + 1), by omega, rfl, h.1, h.2⟩, fun x H3 y => ?_⟩
      obtain ⟨G3, s3, e3, im⟩ := ro.turn s2 e2 hd y
      cases q : t (.dat ds[i]) ρ2 with
      | none =>
        rw [q] at hk2
        cases hk2
      | some ρ3 =>
        rw [q] at hk2
        simp only at hk2
        -- what stays is kept by the heap behind the target: it is in the frame's record
        have e3' : EnvG (amb X) { F with G := G3 } P σ2 G3 H3 ρ2 := ⟨e3.fr, Same.refl G3, e3.gh, fun a u h => .inl h, e3.ca, e3.len, e3.val, e3.cel, e3.ap, e3.pin, e3.err⟩
        have back : ∀ {σ' G' H' ρ'}, EnvG (amb X) { F with G := G3 } P σ' G' H' ρ' → Same G3 G' ∧ EnvG (amb X) F P σ' G' H' ρ' := fun {σ' G' H' ρ'} e' =>
          ⟨e'.gg, e'.fr, e3.gg.trans e'.gg, e'.gh, fun a u h => by
            rcases e'.gn a u h with h | h
            · exact e3.gn a u h
            · exact .inr h, e'.ca, e'.len, e'.val, e'.cel, e'.ap, e'.pin, e'.err⟩
        refine ⟨{ F with G := G3 }, P, G3, ρ2, .dat ds[i], ρ3, er, e3', im, q, fun σ4 G4 H4 e4 => ?_⟩
        cases qb : m ρ3 with
        | none =>
          rw [qb] at hk2
          cases hk2
        | some o1 =>
          rw [qb] at hk2
          refine ⟨{ F with G := G3 }, P, G4, ρ3, o1, er, e4, qb, ?_⟩
          cases o1 with
          | nx ρ5 => exact fun σ5 G5 H5 e5 => ⟨hlt, G5, ρ5, (s2.trans s3).trans (back e5).1, (back e5).2, hk2⟩
          | ct ρ5 => exact fun σ5 G5 H5 e5 => ⟨hlt, G5, ρ5, (s2.trans s3).trans (back e5).1, (back e5).2, hk2⟩
          | bk ρ5 =>
            cases hk2
            exact fun σ5 G5 H5 e5 => hp σ5 G5 H5 (back e5).2
          | rt x ρ5 =>
            cases hk2
            exact fun v σ5 G5 H5 e5 ro5 => hp v σ5 G5 H5 (back e5).2 (by
              cases x with
              | dat d => exact ro5
              | cel j => exact ro5
              | new l => exact ro5)
          | ex x ρ5 =>
            cases hk2
            exact fun cls d σ5 G5 H5 e5 xa => hp cls d σ5 G5 H5 (back e5).2 xa
    · have ei : i = ds.length := by omega
      subst ei
      rw [List.drop_length] at hk2
      cases hk2
      exact .inl ⟨ro.stop H2 (s2.trans e2.gh), hp σ2 G2 H2 e2⟩
end
end Z

set_option Elab.async false
set_option linter.all false
set_option maxRecDepth 100000
set_option maxHeartbeats 4000000
/-! ZD: defs, their promises by mirrors, calls. -/
namespace Z
open PySem PySem.Spec PyProof.Rows L2

/-- an argument: a datum, or an object handed over to be changed -/
inductive Ar where
  | val (d : D)
  | cel (c : Cell)
/-- a call's end: n: the answer is a new list; the objects handed over, as they are then -/
inductive FR where
  | ret (n : Bool) (d : D) (cs : List Cell)
  | exc (x : Ex) (cs : List Cell)
abbrev Fn := List Ar → Option FR

/-- the addresses of the objects handed over -/
def cads : List V → List Ar → List Addr
  | .ref a :: vs, .cel _ :: as => a :: cads vs as
  | _ :: vs, _ :: as => cads vs as
  | _, _ => []
inductive ArgsOk (A : Amb) (G H : Hp) : List V → List Ar → Prop
  | nil : ArgsOk A G H [] []
  | val {v : V} {d : D} {vs : List V} {as : List Ar} : Im A G v d → ArgsOk A G H vs as → ArgsOk A G H (v :: vs) (.val d :: as)
  | cel {a : Addr} {c : Cell} {vs : List V} {as : List Ar} : CellAt A G H a c → G a = none → ArgsOk A G H vs as → ArgsOk A G H (.ref a :: vs) (.cel c :: as)
inductive CelsAt (A : Amb) (G H : Hp) : List Addr → List Cell → Prop
  | nil : CelsAt A G H [] []
  | cons {a : Addr} {c : Cell} {l : List Addr} {cs : List Cell} : CellAt A G H a c → G a = none → CelsAt A G H l cs → CelsAt A G H (a :: l) (c :: cs)
def RetOk (A : Amb) (G H H0 : Hp) (v : V) : Bool → D → Prop
  | true, .lst ds => ∃ l vs, v = .ref l ∧ H l = some (.lst vs) ∧ G l = none ∧ H0 l = none ∧ Ims A G vs ds
  | true, _ => False
  | false, d => Im A G v d
/-- how the heap behind a call stands to the one ahead of it -/
structure Beh (G H : Hp) (C : List Addr) (G' H' : Hp) : Prop where
  gg : Same G G'
  gh : Same G' H'
  gn : ∀ a o, G' a = some o → G a = some o ∨ H a = none
  fr : ∀ a o, a ∉ C → H a = some o → H' a = some o
def PostF (A : Amb) (G H : Hp) (C : List Addr) (Q : VK) (W : XK) : FR → Prop
  | .ret n d cs => ∀ v G' H', Beh G H C G' H' → CelsAt A G' H' C cs → RetOk A G' H' H v n d → Q v H'
  | .exc x cs => ∀ cls d G' H', Beh G H C G' H' → CelsAt A G' H' C cs → ExAt A G' cls d x → W cls d H'
def spZ (A : Amb) (f : Fn) : Sp := fun vs H Q W => ∃ G as r, Same G H ∧ ArgsOk A G H vs as ∧ (cads vs as).Nodup ∧ f as = some r ∧ PostF A G H (cads vs as) Q W r
theorem ArgsOk.length {A : Amb} {G H : Hp} : ∀ {vs : List V} {as : List Ar}, ArgsOk A G H vs as → vs.length = as.length
  | _, _, .nil => rfl
  | _, _, .val _ r => congrArg Nat.succ r.length
  | _, _, .cel _ _ r => congrArg Nat.succ r.length

/-- a def keeps a promise, wherever no text of an object is being made -/
structure FnZ (P : Program) (w : World) (K : PySem.W.Frag) (mg : Str → Option Value) (base : Heap) (k : Nat) (f : Addr) (fd : FuncData) (ps : List Str) (fn : Fn) : Prop where
  len : ∀ as r, fn as = some r → as.length = ps.length
  run : ∀ (A : Around) (outer : List Env) (s : Shared) (H : Hp) (args : Args) (us : List Value) (vs : List V) (Q : VK) (W : XK), A.guards = some [] → Room k A → Env0 P w K mg base A outer s H → BindsTo s fd args (ps.zip us) → Vals vs us →
    spZ ⟨K, mg⟩ fn vs H Q W → codeAny (model P w) A (.call (.ref f) args) (CR (L2.CX P w) outer P w H s Q W) s
theorem FnZ.mono {P : Program} {w : World} {K : PySem.W.Frag} {mg : Str → Option Value} {base : Heap} {j k : Nat} {f : Addr} {fd : FuncData} {ps : List Str} {fn : Fn} (F : FnZ P w K mg base j f fd ps fn) (h : j ≤ k) : FnZ P w K mg base k f fd ps fn :=
  ⟨F.len, fun A outer s H args us vs Q W hg hr => F.run A outer s H args us vs Q W hg (hr.mono h)⟩
/-- the same promise by another mirror that tells no less -/
theorem FnZ.imp {P : Program} {w : World} {K : PySem.W.Frag} {mg : Str → Option Value} {base : Heap} {k : Nat} {f : Addr} {fd : FuncData} {ps : List Str} {fn fn' : Fn} (F : FnZ P w K mg base k f fd ps fn) (h : ∀ as r, fn' as = some r → fn as = some r) : FnZ P w K mg base k f fd ps fn' :=
  ⟨fun as r q => F.len as r (h as r q), fun A outer s H args us vs Q W hg hr e0 hb r ⟨G, as, r', a, b, c, d, e⟩ => F.run A outer s H args us vs Q W hg hr e0 hb r ⟨G, as, r', a, b, c, h _ _ d, e⟩⟩

/-! the entry and the end of a body -/
def slOf : Ar → Sl
  | .val d => .val d
  | .cel c => .cel true c
/-- the objects handed over, at the end -/
def outs : List Ar → E → Option (List Cell)
  | [], _ => some []
  | .val _ :: as, _ :: ρ => outs as ρ
  | .cel _ :: as, .cel _ c :: ρ => (outs as ρ).map (c :: ·)
  | _, _ => none
def retOf (ρ : E) : Rf → Option (Bool × D)
  | .dat d => some (false, d)
  | .new ds => some (true, .lst ds)
  | .cel i => match ρ[i]? with
    | some (.cel false (.lst ds)) => some (true, .lst ds)
    | _ => none
def entry (n : Nat) (as : List Ar) : E := as.map slOf ++ List.replicate (n - as.length) .no
/-- a body with np parameters, n slots -/
def bodyF (np n : Nat) (m : S) : Fn := fun as => if as.length = np then (match m (entry n as) with
  | some (.nx ρ) => (outs as ρ).map fun cs => .ret false .non cs
  | some (.rt x ρ) => match retOf ρ x, outs as ρ with
    | some (b, d), some cs => some (.ret b d cs)
    | _, _ => none
  | some (.ex x ρ) => (outs as ρ).map fun cs => .exc x cs
  | _ => none) else none
def pinsOf : Nat → List V → List Ar → List (Nat × Addr)
  | i, .ref a :: vs, .cel _ :: as => (i, a) :: pinsOf (i + 1) vs as
  | i, _ :: vs, _ :: as => pinsOf (i + 1) vs as
  | _, _, _ => []
section
variable {A : Amb} {G H : Hp}
theorem pins_get : ∀ {vs : List V} {as : List Ar} {k i : Nat} {a : Addr}, (i, a) ∈ pinsOf k vs as → ∃ j c, i = k + j ∧ vs[j]? = some (.ref a) ∧ as[j]? = some (.cel c)
  | [], _, _, _, _, h => by
    unfold pinsOf at h
    cases h
  | v :: vs, [], _, _, _, h => by
    cases v <;> (unfold pinsOf at h; cases h)
  | v :: vs, .val d :: as, k, i, a, h => by
    have h' : (i, a) ∈ pinsOf (k + 1) vs as := by
      cases v <;> exact h
    obtain ⟨j, c, e, h1, h2⟩ := pins_get h'
    exact ⟨j + 1, c, by omega, by simpa using h1, by simpa using h2⟩
  | v :: vs, .cel c0 :: as, k, i, a, h => by
    have go : (i, a) ∈ pinsOf (k + 1) vs as → ∃ j c, i = k + j ∧ (v :: vs)[j]? = some (.ref a) ∧ (Ar.cel c0 :: as)[j]? = some (.cel c) := fun h' => by
      obtain ⟨j, c, e, h1, h2⟩ := pins_get h'
      exact ⟨j + 1, c, by omega, by simpa using h1, by simpa using h2⟩
    cases v with
    | ref b =>
      rcases List.mem_cons.mp h with e | h
      · cases e
        exact ⟨0, c0, rfl, rfl, rfl⟩
      · exact go h
    | _ => exact go h
theorem cads_get (h : ArgsOk A G H vs as) : ∀ {a : Addr}, a ∈ cads vs as ↔ ∃ (j : Nat) (c : Cell), vs[j]? = some (.ref a) ∧ as[j]? = some (.cel c) := by
  intro a
  induction h with
  | nil =>
    constructor
    · intro h
      cases h
    · rintro ⟨j, c, h, _⟩
      cases h
  | @val v d vs as h r ih =>
    have e : cads (v :: vs) (.val d :: as) = cads vs as := by cases v <;> rfl
    rw [e, ih]
    constructor
    · rintro ⟨j, c, h1, h2⟩
      exact ⟨j + 1, c, by simpa using h1, by simpa using h2⟩
    · rintro ⟨j, c, h1, h2⟩
      cases j with
      | zero => cases h2
      | succ j => exact ⟨j, c, by simpa using h1, by simpa using h2⟩
  | @cel b c vs as h1 h2 r ih =>
    show a ∈ b :: cads vs as ↔ _
    rw [List.mem_cons, ih]
    constructor
    · rintro (rfl | ⟨j, c', h1, h2⟩)
      · exact ⟨0, c, rfl, rfl⟩
      · exact ⟨j + 1, c', by simpa using h1, by simpa using h2⟩
    · rintro ⟨j, c', h1, h2⟩
      cases j with
      | zero =>
        cases h1
        exact .inl rfl
      | succ j => exact .inr ⟨j, c', by simpa using h1, by simpa using h2⟩
theorem cads_inj (h : ArgsOk A G H vs as) (nd : (cads vs as).Nodup) : ∀ {i j : Nat} {a : Addr} {c c' : Cell}, vs[i]? = some (.ref a) → as[i]? = some (.cel c) → vs[j]? = some (.ref a) → as[j]? = some (.cel c') → i = j := by
  induction h with
  | nil =>
    intro i j a c c' h
    cases h
  | @val v d vs as h r ih =>
    have e : cads (v :: vs) (.val d :: as) = cads vs as := by cases v <;> rfl
    rw [e] at nd
    intro i j a c c' h1 h2 h3 h4
    cases i with
    | zero => cases h2
    | succ i =>
      cases j with
      | zero => cases h4
      | succ j => exact congrArg Nat.succ (ih nd (by simpa using h1) (by simpa using h2) (by simpa using h3) (by simpa using h4))
  | @cel b c vs as h1 h2 r ih =>
    have nd : (b :: cads vs as).Nodup := nd
    obtain ⟨n1, n2⟩ := List.nodup_cons.mp nd
    intro i j a c1 c2 k1 k2 k3 k4
    cases i with
    | zero =>
      cases j with
      | zero => rfl
      | succ j =>
        cases k1
        exact absurd ((cads_get r).mpr ⟨j, c2, by simpa using k3, by simpa using k4⟩) n1
    | succ i =>
      cases j with
      | zero =>
        cases k3
        exact absurd ((cads_get r).mpr ⟨i, c1, by simpa using k1, by simpa using k2⟩) n1
      | succ j => exact congrArg Nat.succ (ih n2 (by simpa using k1) (by simpa using k2) (by simpa using k3) (by simpa using k4))
theorem args_at (h : ArgsOk A G H vs as) : ∀ {i : Nat} {s : Ar}, as[i]? = some s → ∃ v, vs[i]? = some v ∧ match s with
    | .val d => Im A G v d
    | .cel c => ∃ a, v = .ref a ∧ CellAt A G H a c ∧ G a = none := by
  induction h with
  | nil =>
    intro i s h
    cases h
  | @val v d vs as h r ih =>
    intro i s q
    cases i with
    | zero =>
      cases q
      exact ⟨v, rfl, h⟩
    | succ i =>
      obtain ⟨u, h1, h2⟩ := ih (by simpa using q)
      exact ⟨u, by simpa using h1, h2⟩
  | @cel b c vs as h1 h2 r ih =>
    intro i s q
    cases i with
    | zero =>
      cases q
      exact ⟨_, rfl, b, rfl, h1, h2⟩
    | succ i =>
      obtain ⟨u, h1, h2⟩ := ih (by simpa using q)
      exact ⟨u, by simpa using h1, h2⟩
theorem entry_get {n i : Nat} {as : List Ar} {s : Sl} (h : (entry n as)[i]? = some s) : (∃ a, as[i]? = some a ∧ s = slOf a) ∨ (as.length ≤ i ∧ s = .no) := by
  unfold entry at h
  by_cases hi : i < as.length
  · rw [List.getElem?_append_left (by simpa using hi), List.getElem?_map] at h
    cases q : as[i]? with
    | none =>
      rw [q] at h
      cases h
    | some a =>
      rw [q] at h
      cases h
      exact .inl ⟨a, rfl, rfl⟩
  · rw [List.getElem?_append_right (by simpa using hi), List.getElem?_replicate] at h
    split at h
    · cases h
      exact .inr ⟨by omega, rfl⟩
    · cases h
theorem start_get {N : List Str} {vs : List V} {i : Nat} {v : V} (h : vs[i]? = some v) : (L2.start N vs)[i]? = some (some v) := by
  unfold L2.start
  have hi : i < vs.length := (List.getElem?_eq_some_iff.mp h).1
  rw [List.getElem?_append_left (by simpa using hi), List.getElem?_map, h]
  rfl
/-- the entry of a body -/
theorem entry_ok {N : List Str} {vs : List V} {as : List Ar} (s : Same G H) (h : ArgsOk A G H vs as) (nd : (cads vs as).Nodup) (hn : as.length ≤ N.length) :
    EnvG A ⟨H, G, cads vs as, none⟩ (pinsOf 0 vs as) (L2.start N vs) G H (entry N.length as) where
  fr := fun a o _ q => q
  gg := Same.refl G
  gh := s
  gn := fun a o q => .inl q
  ca := fun a hc z => by
    obtain ⟨j, c, h1, h2⟩ := (cads_get h).mp hc
    obtain ⟨v, k1, b, rfl, k2, _⟩ := args_at h h2
    rw [h1] at k1
    cases k1
    obtain ⟨o, ho⟩ := k2.some
    rw [z] at ho
    cases ho
  len := by
    have e := h.length
    unfold entry L2.start
    rw [List.length_append, List.length_append, List.length_map, List.length_map, List.length_replicate, List.length_replicate]
    omega
  val := fun i d q => by
    rcases entry_get q with ⟨a, h1, h2⟩ | ⟨_, h2⟩
    · cases a with
      | val d' =>
        cases h2
        obtain ⟨v, k1, k2⟩ := args_at h h1
        exact ⟨v, start_get k1, k2⟩
      | cel c => cases h2
    · cases h2
  cel := fun i p c q => by
    rcases entry_get q with ⟨a, h1, h2⟩ | ⟨_, h2⟩
    · cases a with
      | val d' => cases h2
      | cel c' =>
        cases h2
        obtain ⟨v, k1, b, rfl, k2, k3⟩ := args_at h h1
        exact ⟨b, start_get k1, k2, k3, by rw [if_pos rfl]; exact (cads_get h).mpr ⟨i, c, k1, h1⟩⟩
    · cases h2
  ap := fun i j p q c c' l z1 z2 z3 z4 => by
    have go : ∀ {m : Nat} {r : Bool} {b : Cell}, (entry N.length as)[m]? = some (.cel r b) → (L2.start N vs)[m]? = some (some (.ref l)) → vs[m]? = some (.ref l) ∧ ∃ b, as[m]? = some (.cel b) := fun {m r b} z y => by
      rcases entry_get z with ⟨a, h1, h2⟩ | ⟨_, h2⟩
      · cases a with
        | val d' => cases h2
        | cel b' =>
          obtain ⟨v, k1, _⟩ := args_at h h1
          rw [start_get k1] at y
          cases y
          exact ⟨k1, _, h1⟩
      · cases h2
    obtain ⟨a1, b1, a2⟩ := go z1 z3
    obtain ⟨a3, b2, a4⟩ := go z2 z4
    exact cads_inj h nd a1 a2 a3 a4
  pin := fun i l m => by
    obtain ⟨j, c, e, h1, h2⟩ := pins_get m
    have e : i = j := by omega
    subst e
    refine ⟨start_get h1, c, ?_⟩
    have hi : i < as.length := (List.getElem?_eq_some_iff.mp h2).1
    unfold entry
    rw [List.getElem?_append_left (by simpa using hi), List.getElem?_map, h2]
    rfl
  err := fun i x q => by
    rcases entry_get q with ⟨a, h1, h2⟩ | ⟨_, h2⟩
    · cases a <;> cases h2
    · cases h2
/-- the objects handed over, behind the body -/
theorem outs_ok {F : Fx} {P : List (Nat × Addr)} {σ : L2.St} {G' H' : Hp} {ρ : E} (e : EnvG A F P σ G' H' ρ) : ∀ {vs : List V} {as : List Ar} {k : Nat} {cs : List Cell}, ArgsOk A G H vs as → (∀ p ∈ pinsOf k vs as, p ∈ P) → outs as (ρ.drop k) = some cs → CelsAt A G' H' (cads vs as) cs
  | _, _, _, _, .nil, _, h => by
    cases h
    exact .nil
  | _, _, k, cs, @ArgsOk.val _ _ _ v d vs as h r, hp, ho => by
    have e1 : cads (v :: vs) (.val d :: as) = cads vs as := by cases v <;> rfl
    have e2 : pinsOf k (v :: vs) (.val d :: as) = pinsOf (k + 1) vs as := by cases v <;> rfl
    rw [e1]
    rw [e2] at hp
    cases q : ρ.drop k with
    | nil =>
      rw [q] at ho
      cases ho
    | cons s t =>
      rw [q] at ho
      have et : t = ρ.drop (k + 1) := by
        rw [← List.drop_drop, q]
        rfl
      subst et
      exact outs_ok e r hp ho
  | _, _, k, cs, @ArgsOk.cel _ _ _ a c vs as h1 h2 r, hp, ho => by
    show CelsAt A G' H' (a :: cads vs as) cs
    have e2 : pinsOf k (.ref a :: vs) (.cel c :: as) = (k, a) :: pinsOf (k + 1) vs as := rfl
    rw [e2] at hp
    obtain ⟨p1, c1, p2⟩ := e.pin k a (hp _ (List.mem_cons_self ..))
    cases q : ρ.drop k with
    | nil =>
      rw [q] at ho
      cases ho
    | cons s t =>
      have et : t = ρ.drop (k + 1) := by
        rw [← List.drop_drop, q]
        rfl
      have es : ρ[k]? = some s := by
        have z : (ρ.drop k)[0]? = some s := by
          rw [q]
          rfl
        rw [List.getElem?_drop] at z
        simpa using z
      rw [p2] at es
      cases es
      rw [q] at ho
      obtain ⟨cs', h3, rfl⟩ := map_some' (show (outs as t).map (c1 :: ·) = some cs from ho)
      subst et
      obtain ⟨l, k1, k2, k3, _⟩ := e.cel k true c1 p2
      rw [p1] at k1
      cases k1
      exact .cons k2 k3 (outs_ok e r (fun p m => hp p (List.mem_cons_of_mem _ m)) h3)
end
/-- from a promise to the body's reading, and back -/
theorem body_tail {A : Amb} {N : List Str} {np : Nat} {m : S} {vs : List V} {H : Hp} {Q : VK} {W : XK} (hnp : np ≤ N.length) (h : spZ A (bodyF np N.length m) vs H Q W) :
    tS A ⟨fun cls d _ H' => W cls d H', none⟩ m { nx := fun _ H' => Q .non H', rt := Q } (L2.start N vs) H := by
  obtain ⟨G, as, r, s, ha, nd, hm, hp⟩ := h
  unfold bodyF at hm
  by_cases hl : as.length = np
  · rw [if_pos hl] at hm
    have e0 := entry_ok (N := N) s ha nd (by omega)
    have beh : ∀ {σ' G' H' ρ'}, EnvG A ⟨H, G, cads vs as, none⟩ (pinsOf 0 vs as) σ' G' H' ρ' → Beh G H (cads vs as) G' H' := fun {σ' G' H' ρ'} e => ⟨e.gg, e.gh, e.gn, e.fr⟩
    have celsAt : ∀ {σ' G' H' ρ' cs}, EnvG A ⟨H, G, cads vs as, none⟩ (pinsOf 0 vs as) σ' G' H' ρ' → outs as ρ' = some cs → CelsAt A G' H' (cads vs as) cs := fun {σ' G' H' ρ' cs} e h => outs_ok (k := 0) e ha (fun p m => m) (by simpa using h)
    cases q : m (entry N.length as) with
    | none =>
      rw [q] at hm
      cases hm
    | some o =>
      rw [q] at hm
      refine ⟨_, _, G, _, o, rfl, e0, q, ?_⟩
      cases o with
      | nx ρ =>
        obtain ⟨cs, h1, rfl⟩ := map_some' hm
        exact fun σ' G' H' e => hp .non G' H' (beh e) (celsAt e h1) .non
      | bk ρ => cases hm
      | ct ρ => cases hm
      | ex x ρ =>
        obtain ⟨cs, h1, rfl⟩ := map_some' hm
        exact fun cls d σ' G' H' e xa => hp cls d G' H' (beh e) (celsAt e h1) xa
      | rt x ρ =>
        simp only at hm
        cases h1 : retOf ρ x with
        | none =>
          rw [h1] at hm
          cases hm
        | some bd =>
          cases h2 : outs as ρ with
          | none =>
            rw [h1, h2] at hm
            cases hm
          | some cs =>
            rw [h1, h2] at hm
            cases hm
            refine fun v σ' G' H' e ro => hp v G' H' (beh e) (celsAt e h2) ?_
            cases x with
            | dat d =>
              cases h1
              exact ro
            | new ds =>
              cases h1
              obtain ⟨l, us, rfl, a1, a2, a3, a4, _⟩ := ro
              exact ⟨l, us, rfl, a1, a2, a3, a4⟩
            | cel i =>
              unfold retOf at h1
              simp only at h1
              cases z : ρ[i]? with
              | none =>
                rw [z] at h1
                cases h1
              | some sl =>
                rw [z] at h1
                cases sl with
                | no => cases h1
                | val d => cases h1
                | err x => cases h1
                | cel p c =>
                  cases p with
                  | true => cases h1
                  | false =>
                    cases c with
                    | lst ds =>
                      cases h1
                      obtain ⟨l, a1, ⟨us, a2, a3⟩, a4, a5⟩ := e.cel i false (.lst ds) z
                      have ro : σ'[i]? = some (some v) := ro
                      rw [ro] at a1
                      cases a1
                      exact ⟨l, us, rfl, a2, a4, a5, a3⟩
                    | _ => cases h1
  · rw [if_neg hl] at hm
    cases hm
theorem bodyF_len {np n : Nat} {m : S} {as : List Ar} {r : FR} (h : bodyF np n m as = some r) : as.length = np := by
  unfold bodyF at h
  by_cases hl : as.length = np
  · exact hl
  · rw [if_neg hl] at h
    cases h

/-! a def of the text, by its body -/
section
variable {P : Program} {w : World} {K : PySem.W.Frag} {mg : Str → Option Value} {base : Heap}
abbrev cxZ (P : Program) (w : World) (K : PySem.W.Frag) (mg : Str → Option Value) (base : Heap) (N : List Str) (qual : Str) (scope : Scope) (f : Addr) (cd : Value) (A : Around) (outer : List Env) (s : Shared) (H : Hp) (W : XK) : Cx :=
  cxOf (L2.CX P w) P w K mg base N qual scope f cd A outer s H W
theorem fz_of {k : Nat} {f : Addr} {name qual : Str} {params : Arguments} {body : List Stmt} {scope : Scope} {dV kV doc pm cdv ct oc : Value} {an od : Option Addr} {osl : Array (Option Value)} {N ps : List Str} {m : S}
    (lk : K.lookup f = some ⟨oc, od, .func (PySem.W.fnOf name qual params body scope dV kV doc pm an cdv ct), osl⟩) (hcd : PySem.W.codeIn K cdv qual = true) (Sc : FnScope N ps scope)
    (hbody : ∀ (A : Around) (outer : List Env) (s : Shared) (H : Hp) (W : XK), A.guards = some [] → Room k (A.deeper (envOfC qual scope s.heap.objs.size f cdv)) →
      DSs (cxZ P w K mg base N qual scope f cdv A outer s H W) ⟨fun cls d _ H' => W cls d H', none⟩ body m) :
    FnZ P w K mg base (k + 1) f (PySem.W.fnOf name qual params body scope dV kV doc pm an cdv ct) ps (bodyF ps.length N.length m) := by
  have hps : ps.length ≤ N.length := by
    have q := congrArg List.length Sc.pre
    rw [List.length_take] at q
    omega
  refine ⟨fun as r h => bodyF_len h, fun A outer s H args us vs Q W hg hr e0 hb rv hsp => ?_⟩
  have hl : vs.length = ps.length := by
    obtain ⟨G, as, r, _, ha, _, hm, _⟩ := hsp
    exact ha.length.trans (bodyF_len hm)
  have inK : K.In s.heap := e0.mod.kin.keeps fun b o e => (e0.bs b o e).1
  have lim : s.heap.NoLimit := e0.mod.nolimit.keeps fun b o e => (e0.bs b o e).1
  have kinds : ∀ y ∈ ps.zip us, scope.names.lookup y.1 = some .local ∨ (scope.names.lookup y.1 = some .cell ∧ ((cellsFrom (s.heap.objs.size + 1) scope.names []).lookup y.1).isSome = true) := by
    rintro ⟨n, v⟩ hy
    refine (Sc.par n (List.of_mem_zip hy).1).imp id fun q => ⟨q, ?_⟩
    exact PySem.W.cellsFrom_some _ _ _ (.inl q)
  refine codeAny_call_function hr.depth (inK _ _ lk) rfl Sc.co Sc.gen rfl (PySem.W.codeRec_of inK hcd) (hb _ _ _ _ ?_)
  refine wpAny_newFunctionEnv_cells Sc.kind kinds fun env he s1 x => ?_
  subst he
  refine ⟨lim.keeps x.toInCall.keep, codeAny_func ?_⟩
  have I := inv_start (CX := L2.CX P w) (mg := mg) (E := W) Sc hr.hd e0 hl rv x
  have hq := body_tail (W := W) hps hsp
  have body' := (hbody A outer s H W hg (hr.deeper _)).run [] s1 (L2.start N vs) H { nx := fun _ H' => Q .non H', rt := Q } I hq
  refine wpAny_mono body' (fun fl s' hs => ?_) fun e s' hs => hs
  cases fl with
  | ret u =>
    obtain ⟨v, σ', H', J, ru, q⟩ := hs
    exact ⟨v, H', J.os, J.bare, J.base, J.hok, ru, q⟩
  | next =>
    obtain ⟨σ', H', J, q⟩ := hs
    exact ⟨V.non, H', J.os, J.bare, J.base, J.hok, rfl, q⟩
  | brk =>
    obtain ⟨_, _, _, z⟩ := hs
    exact z.elim
  | cont =>
    obtain ⟨_, _, _, z⟩ := hs
    exact z.elim
theorem FnZ.of {x qual : Str} {st : Stmt} {f : Addr} {fd : FuncData} {N ps : List Str} {k : Nat} {m : S} (Fu : Fun K x qual st f fd) (Sc : FnScope N ps (defScope st))
    (hbody : ∀ (cdv : Value) (A : Around) (outer : List Env) (s : Shared) (H : Hp) (W : XK), A.guards = some [] → Room k (A.deeper (envOfC qual (defScope st) s.heap.objs.size f cdv)) →
      DSs (cxZ P w K mg base N qual (defScope st) f cdv A outer s H W) ⟨fun cls d _ H' => W cls d H', none⟩ (defBody st) m) : FnZ P w K mg base (k + 1) f fd ps (bodyF ps.length N.length m) := by
  obtain ⟨oc, od, kV, doc, pm, an, cdv, ct, osl, rfl, lk, hcd⟩ := Fu.ex
  exact fz_of lk hcd Sc fun A outer s H W => hbody cdv A outer s H W
end

/-! calls -/
/-- handing over: md says which arguments are handed over to be changed -/
def toArs : List Bool → List Rf → E → Option (List Ar × List (Option Nat) × E)
  | [], [], ρ => some ([], [], ρ)
  | false :: md, x :: xs, ρ => match frz x ρ with
    | some (.ok d ρ1) => match toArs md xs ρ1 with
      | some (as, is, ρ2) => some (.val d :: as, none :: is, ρ2)
      | none => none
    | _ => none
  | true :: md, .cel i :: xs, ρ => match toArs md xs ρ with
    | some (as, is, ρ2) => match ρ2[i]? with
      | some (.cel _ c) => some (.cel c :: as, some i :: is, ρ2)
      | _ => none
    | none => none
  | _, _, _ => none
/-- the objects come back -/
def putBack : List (Option Nat) → List Cell → E → Option E
  | [], [], ρ => some ρ
  | none :: is, cs, ρ => putBack is cs ρ
  | some i :: is, c :: cs, ρ => match ρ[i]? with
    | some (.cel p _) => putBack is cs (ρ.set i (.cel p c))
    | _ => none
  | _, _, _ => none
def rfOf : Bool → D → Option Rf
  | true, .lst ds => some (.new ds)
  | true, _ => none
  | false, d => some (.dat d)
def eFnL (f : Fn) (md : List Bool) (xs : List Rf) : M Rf := fun ρ => match toArs md xs ρ with
  | none => none
  | some (as, is, ρ1) => if (is.filterMap id).Nodup then (match f as with
    | some (.ret n d cs) => match putBack is cs ρ1, rfOf n d with
      | some ρ2, some x => some (.ok x ρ2)
      | _, _ => none
    | some (.exc x cs) => match putBack is cs ρ1 with
      | some ρ2 => some (.ex x ρ2)
      | none => none
    | none => none) else none
def eFn (f : Fn) (md : List Bool) (ms : M (List Rf)) : M Rf := bindM ms (eFnL f md)
section
variable {A : Amb} {F : Fx} {P : List (Nat × Addr)} {σ : L2.St} {H : Hp}
/-- what toArs tells -/
structure Handed (A : Amb) (F : Fx) (P : List (Nat × Addr)) (σ : L2.St) (G H : Hp) (vs : List V) (as : List Ar) (is : List (Option Nat)) (ρ : E) : Prop where
  env : EnvG A F P σ G H ρ
  args : ArgsOk A G H vs as
  ix : ∀ (j : Nat) i, is[j]? = some (some i) → ∃ a p c, vs[j]? = some (.ref a) ∧ as[j]? = some (.cel c) ∧ σ[i]? = some (some (.ref a)) ∧ ρ[i]? = some (.cel p c)
  lenI : is.length = as.length
  noI : ∀ (j : Nat), is[j]? = some none → ∃ d, as[j]? = some (.val d)
theorem frz_keep {x : Rf} {ρ ρ' : E} {d : D} (h : frz x ρ = some (.ok d ρ')) {j : Nat} {p : Bool} {c : Cell} (hj : ρ'[j]? = some (.cel p c)) : ρ[j]? = some (.cel p c) := by
  cases x with
  | dat d' =>
    cases h
    exact hj
  | new ds =>
    cases h
    exact hj
  | cel i =>
    unfold frz at h
    simp only at h
    cases q : ρ[i]? with
    | none =>
      rw [q] at h
      cases h
    | some s =>
      rw [q] at h
      cases s with
      | no => cases h
      | err x => cases h
      | val d =>
        cases h
        exact hj
      | cel p' c' =>
        cases p' with
        | true => cases h
        | false =>
          cases c' with
          | lst ds =>
            cases h
            by_cases hi : i = j
            · subst hi
              rw [List.getElem?_set] at hj
              split at hj
              · split at hj
                · cases hj
                · cases hj
              · rename_i z
                exact absurd rfl z
            · rw [List.getElem?_set_ne hi] at hj
              exact hj
          | _ => cases h
theorem toArs_keep : ∀ {md : List Bool} {xs : List Rf} {ρ ρ' : E} {as : List Ar} {is : List (Option Nat)}, toArs md xs ρ = some (as, is, ρ') → ∀ {j : Nat} {p : Bool} {c : Cell}, ρ'[j]? = some (.cel p c) → ρ[j]? = some (.cel p c)
  | [], [], ρ, ρ', as, is, h, j, p, c, hj => by
    cases h
    exact hj
  | [], x :: xs, ρ, ρ', as, is, h, _, _, _, _ => by cases h
  | false :: md, [], ρ, ρ', as, is, h, _, _, _, _ => by cases h
  | true :: md, [], ρ, ρ', as, is, h, _, _, _, _ => by cases h
  | false :: md, x :: xs, ρ, ρ', as, is, h, j, p, c, hj => by
    unfold toArs at h
    cases q : frz x ρ with
    | none =>
      rw [q] at h
      cases h
    | some r =>
      cases r with
      | ex x ρ1 =>
        rw [q] at h
        cases h
      | ok d ρ1 =>
        rw [q] at h
        simp only at h
        cases q2 : toArs md xs ρ1 with
        | none =>
          rw [q2] at h
          cases h
        | some t =>
          obtain ⟨as1, is1, ρ2⟩ := t
          rw [q2] at h
          cases h
          exact frz_keep q (toArs_keep q2 hj)
  | true :: md, .cel i :: xs, ρ, ρ', as, is, h, j, p, c, hj => by
    unfold toArs at h
    cases q2 : toArs md xs ρ with
    | none =>
      rw [q2] at h
      cases h
    | some t =>
      obtain ⟨as1, is1, ρ2⟩ := t
      rw [q2] at h
      simp only at h
      have e : ρ' = ρ2 := by
        split at h
        · cases h
          rfl
        · cases h
      subst e
      exact toArs_keep q2 hj
  | true :: md, .dat d :: xs, ρ, ρ', as, is, h, _, _, _, _ => by cases h
  | true :: md, .new d :: xs, ρ, ρ', as, is, h, _, _, _, _ => by cases h
theorem toArs_ok : ∀ {md : List Bool} {xs : List Rf} {vs : List V} {G : Hp} {ρ ρ' : E} {as : List Ar} {is : List (Option Nat)}, EnvG A F P σ G H ρ → SOks A σ G vs xs → toArs md xs ρ = some (as, is, ρ') →
    ∃ G', Same G G' ∧ Handed A F P σ G' H vs as is ρ'
  | [], [], vs, G, ρ, ρ', as, is, e, so, h => by
    cases h
    cases so
    exact ⟨G, Same.refl G, e, .nil, fun j i z => (by simp at z), rfl, fun j z => (by simp at z)⟩
  | [], x :: xs, vs, G, ρ, ρ', as, is, e, so, h => by cases h
  | false :: md, [], vs, G, ρ, ρ', as, is, e, so, h => by cases h
  | true :: md, [], vs, G, ρ, ρ', as, is, e, so, h => by cases h
  | false :: md, x :: xs, vs, G, ρ, ρ', as, is, e, so, h => by
    cases so with
    | @cons v _ vs _ so1 so2 =>
      unfold toArs at h
      cases q : frz x ρ with
      | none =>
        rw [q] at h
        cases h
      | some r =>
        obtain ⟨d, ρ1, G1, rfl, s1, e1, im⟩ := frz_ok e so1 q
        rw [q] at h
        simp only at h
        cases q2 : toArs md xs ρ1 with
        | none =>
          rw [q2] at h
          cases h
        | some t =>
          obtain ⟨as1, is1, ρ2⟩ := t
          rw [q2] at h
          cases h
          obtain ⟨G2, s2, hd⟩ := toArs_ok e1 (so2.mono s1) q2
          refine ⟨G2, s1.trans s2, hd.env, .val (im.mono s2) hd.args, fun j i z => ?_, congrArg Nat.succ hd.lenI, fun j z => ?_⟩
          · cases j with
            | zero => cases z
            | succ j =>
              obtain ⟨a, p, c, h1, h2, h3⟩ := hd.ix j i (by simpa using z)
              exact ⟨a, p, c, by simpa using h1, by simpa using h2, h3⟩
          · cases j with
            | zero => exact ⟨d, rfl⟩
            | succ j =>
              obtain ⟨d, h1⟩ := hd.noI j (by simpa using z)
              exact ⟨d, by simpa using h1⟩
  | true :: md, .cel i :: xs, vs, G, ρ, ρ', as, is, e, so, h => by
    cases so with
    | @cons v _ vs _ so1 so2 =>
      unfold toArs at h
      cases q2 : toArs md xs ρ with
      | none =>
        rw [q2] at h
        cases h
      | some t =>
        obtain ⟨as1, is1, ρ2⟩ := t
        rw [q2] at h
        simp only at h
        obtain ⟨G2, s2, hd⟩ := toArs_ok e so2 q2
        have so1 : σ[i]? = some (some v) := so1
        cases z : ρ2[i]? with
        | none =>
          rw [z] at h
          cases h
        | some s =>
          rw [z] at h
          cases s with
          | no => cases h
          | val d => cases h
          | err x => cases h
          | cel p c =>
            cases h
            obtain ⟨l, h1, h2, h3, _⟩ := hd.env.cel i p c z
            rw [so1] at h1
            cases h1
            refine ⟨G2, s2, hd.env, .cel h2 h3 hd.args, fun j k y => ?_, congrArg Nat.succ hd.lenI, fun j y => ?_⟩
            · cases j with
              | zero =>
                cases y
                exact ⟨l, p, c, rfl, rfl, so1, z⟩
              | succ j =>
                obtain ⟨a, p, c, h1, h2, h3⟩ := hd.ix j k (by simpa using y)
                exact ⟨a, p, c, by simpa using h1, by simpa using h2, h3⟩
            · cases j with
              | zero => cases y
              | succ j =>
                obtain ⟨d, h1⟩ := hd.noI j (by simpa using y)
                exact ⟨d, by simpa using h1⟩
  | true :: md, .dat d :: xs, vs, G, ρ, ρ', as, is, e, so, h => by cases h
  | true :: md, .new d :: xs, vs, G, ρ, ρ', as, is, e, so, h => by cases h
theorem Handed.tail {G : Hp} {v : V} {a : Ar} {o : Option Nat} {vs : List V} {as : List Ar} {is : List (Option Nat)} {ρ : E} (h : Handed A F P σ G H (v :: vs) (a :: as) (o :: is) ρ) : Handed A F P σ G H vs as is ρ := by
  obtain ⟨e, ar, ix, l, n⟩ := h
  refine ⟨e, ?_, fun j i z => ?_, Nat.succ.inj l, fun j z => ?_⟩
  · cases ar with
    | val _ r => exact r
    | cel _ _ r => exact r
  · obtain ⟨a, p, c, h1, h2, h3⟩ := ix (j + 1) i (by simpa using z)
    exact ⟨a, p, c, by simpa using h1, by simpa using h2, h3⟩
  · obtain ⟨d, h1⟩ := n (j + 1) (by simpa using z)
    exact ⟨d, by simpa using h1⟩
/-- the addresses handed over, by slots -/
theorem Handed.cadsH {G : Hp} {ρ : E} : ∀ {vs : List V} {as : List Ar} {is : List (Option Nat)}, Handed A F P σ G H vs as is ρ → ∀ a, a ∈ Z.cads vs as ↔ ∃ i, some i ∈ is ∧ σ[i]? = some (some (.ref a))
  | [], as, is, h, a => by
    have ha := h.args
    cases ha
    have hl := h.lenI
    have e : is = [] := List.length_eq_zero_iff.mp hl
    subst e
    constructor
    · intro z
      cases z
    · rintro ⟨i, z, _⟩
      cases z
  | v :: vs, as, is, h, a => by
    have ha := h.args
    have hl := h.lenI
    cases ha with
    | @val _ d _ as h1 r =>
      cases is with
      | nil => simp at hl
      | cons o is =>
        have ih := Handed.cadsH h.tail a
        have e1 : cads (v :: vs) (.val d :: as) = cads vs as := by cases v <;> rfl
        cases o with
        | some i =>
          obtain ⟨b, p, c, _, k2, _⟩ := h.ix 0 i rfl
          cases k2
        | none =>
          show a ∈ Z.cads (v :: vs) (.val d :: as) ↔ _
          rw [show Z.cads (v :: vs) (.val d :: as) = Z.cads vs as from e1, ih]
          constructor
          · rintro ⟨i, z, y⟩
            exact ⟨i, List.mem_cons_of_mem _ z, y⟩
          · rintro ⟨i, z, y⟩
            rcases List.mem_cons.mp z with z | z
            · cases z
            · exact ⟨i, z, y⟩
    | @cel b c _ as h1 h2 r =>
      cases is with
      | nil => simp at hl
      | cons o is =>
        have ih := Handed.cadsH h.tail a
        cases o with
        | none =>
          obtain ⟨d, k⟩ := h.noI 0 rfl
          cases k
        | some i =>
          obtain ⟨b', p, c', k1, k2, k3, _⟩ := h.ix 0 i rfl
          cases k1
          show a ∈ b :: Z.cads vs as ↔ _
          rw [List.mem_cons, ih]
          constructor
          · rintro (rfl | ⟨j, z, y⟩)
            · exact ⟨i, List.mem_cons_self .., k3⟩
            · exact ⟨j, List.mem_cons_of_mem _ z, y⟩
          · rintro ⟨j, z, y⟩
            rcases List.mem_cons.mp z with z | z
            · cases z
              rw [k3] at y
              cases y
              exact .inl rfl
            · exact .inr ⟨j, z, y⟩
theorem Handed.nodup {G : Hp} {ρ : E} : ∀ {vs : List V} {as : List Ar} {is : List (Option Nat)}, Handed A F P σ G H vs as is ρ → (is.filterMap id).Nodup → (Z.cads vs as).Nodup
  | [], as, is, h, _ => by
    have ha := h.args
    cases ha
    exact List.nodup_nil
  | v :: vs, as, is, h, nd => by
    have ha := h.args
    have hl := h.lenI
    cases ha with
    | @val _ d _ as h1 r =>
      cases is with
      | nil => simp at hl
      | cons o is =>
        have e1 : Z.cads (v :: vs) (.val d :: as) = Z.cads vs as := by cases v <;> rfl
        rw [e1]
        refine Handed.nodup h.tail ?_
        cases o with
        | none => exact nd
        | some i => exact (List.nodup_cons.mp nd).2
    | @cel b c _ as h1 h2 r =>
      cases is with
      | nil => simp at hl
      | cons o is =>
        cases o with
        | none =>
          obtain ⟨d, k⟩ := h.noI 0 rfl
          cases k
        | some i =>
          have nd : (i :: is.filterMap id).Nodup := nd
          obtain ⟨n1, n2⟩ := List.nodup_cons.mp nd
          show (b :: Z.cads vs as).Nodup
          refine List.nodup_cons.mpr ⟨fun z => ?_, Handed.nodup h.tail n2⟩
          obtain ⟨j, y1, y2⟩ := (h.tail.cadsH b).mp z
          obtain ⟨b', p, c', k1, _, k3, k4⟩ := h.ix 0 i rfl
          cases k1
          obtain ⟨m, hm⟩ := List.getElem?_of_mem y1
          obtain ⟨b2, p2, c2, _, _, k5, k6⟩ := h.tail.ix m j hm
          rw [y2] at k5
          cases k5
          have ij := h.env.ap i j p p2 c' c2 b k4 k6 k3 y2
          subst ij
          exact n1 (List.mem_filterMap.mpr ⟨some i, y1, rfl⟩)
/-- behind the call: the slots -/
theorem putBack_ok {G G' H' : Hp} : ∀ {vs : List V} {as : List Ar} {is : List (Option Nat)} {cs : List Cell} {ρ ρ' : E}, ArgsOk A G H vs as → is.length = as.length →
    (∀ (j : Nat) i, is[j]? = some (some i) → ∃ a, vs[j]? = some (.ref a) ∧ (∃ c, as[j]? = some (.cel c)) ∧ σ[i]? = some (some (.ref a))) → (∀ (j : Nat), is[j]? = some none → ∃ d, as[j]? = some (.val d)) → CelsAt A G' H' (Z.cads vs as) cs → putBack is cs ρ = some ρ' →
    ρ'.length = ρ.length ∧ ∀ (k : Nat) s, ρ'[k]? = some s → (ρ[k]? = some s ∧ some k ∉ is) ∨ ∃ p c c' a, s = .cel p c' ∧ ρ[k]? = some (.cel p c) ∧ σ[k]? = some (some (.ref a)) ∧ CellAt A G' H' a c' ∧ G' a = none
  | _, _, is, cs, ρ, ρ', .nil, hl, ix, no, ca, h => by
    have z : is = [] := List.length_eq_zero_iff.mp hl
    subst z
    cases ca
    cases h
    exact ⟨rfl, fun k s q => .inl ⟨q, by simp⟩⟩
  | _, _, is, cs, ρ, ρ', @ArgsOk.val _ _ _ v d vs as h1 r, hl, ix, no, ca, h => by
    cases is with
    | nil => simp at hl
    | cons o is =>
      have e1 : Z.cads (v :: vs) (.val d :: as) = Z.cads vs as := by cases v <;> rfl
      rw [e1] at ca
      cases o with
      | some i =>
        obtain ⟨a, _, ⟨c, k⟩, _⟩ := ix 0 i rfl
        cases k
      | none =>
        obtain ⟨l1, l2⟩ := putBack_ok (ρ := ρ) (ρ' := ρ') r (Nat.succ.inj hl) (fun j i z => by
          obtain ⟨a, k1, ⟨c, k2⟩, k3⟩ := ix (j + 1) i (by simpa using z)
          exact ⟨a, by simpa using k1, ⟨c, by simpa using k2⟩, k3⟩) (fun j z => by
          obtain ⟨d, k⟩ := no (j + 1) (by simpa using z)
          exact ⟨d, by simpa using k⟩) ca h
        refine ⟨l1, fun k s q => ?_⟩
        rcases l2 k s q with ⟨a, b⟩ | b
        · exact .inl ⟨a, fun z => by
            rcases List.mem_cons.mp z with z | z
            · cases z
            · exact b z⟩
        · exact .inr b
  | _, _, is, cs, ρ, ρ', @ArgsOk.cel _ _ _ b c vs as h1 h2 r, hl, ix, no, ca, h => by
    cases is with
    | nil => simp at hl
    | cons o is =>
      have ca1 : CelsAt A G' H' (b :: Z.cads vs as) cs := ca
      clear ca
      cases ca1 with
      | @cons _ c' _ cs c1 c2 ca2 =>
        cases o with
        | none =>
          obtain ⟨d, k⟩ := no 0 rfl
          cases k
        | some i =>
          obtain ⟨a, k1, _, k3⟩ := ix 0 i rfl
          cases k1
          unfold putBack at h
          cases q : ρ[i]? with
          | none =>
            rw [q] at h
            cases h
          | some s =>
            rw [q] at h
            cases s with
            | no => cases h
            | val d => cases h
            | err x => cases h
            | cel p c0 =>
              simp only at h
              have hlt : i < ρ.length := (List.getElem?_eq_some_iff.mp q).1
              obtain ⟨l1, l2⟩ := putBack_ok (ρ := ρ.set i (.cel p c')) (ρ' := ρ') r (Nat.succ.inj hl) (fun j i z => by
                obtain ⟨a, k1, ⟨c, k2⟩, k3⟩ := ix (j + 1) i (by simpa using z)
                exact ⟨a, by simpa using k1, ⟨c, by simpa using k2⟩, k3⟩) (fun j z => by
                obtain ⟨d, k⟩ := no (j + 1) (by simpa using z)
                exact ⟨d, by simpa using k⟩) ca2 h
              refine ⟨by rw [l1, List.length_set], fun k s y => ?_⟩
              rcases l2 k s y with ⟨y1, y2⟩ | ⟨p2, d2, d3, a2, y1, y2, y3, y4, y5⟩
              · by_cases hk : i = k
                · subst hk
                  rw [List.getElem?_set_self hlt] at y1
                  cases y1
                  exact .inr ⟨p, c0, c', b, rfl, q, k3, c1, c2⟩
                · rw [List.getElem?_set_ne hk] at y1
                  refine .inl ⟨y1, fun z => ?_⟩
                  rcases List.mem_cons.mp z with z | z
                  · cases z
                    exact hk rfl
                  · exact y2 z
              · by_cases hk : i = k
                · subst hk
                  rw [List.getElem?_set_self hlt] at y2
                  cases y2
                  exact .inr ⟨p, c0, d3, a2, y1, q, y3, y4, y5⟩
                · rw [List.getElem?_set_ne hk] at y2
                  exact .inr ⟨p2, d2, d3, a2, y1, y2, y3, y4, y5⟩
/-- behind the call: the state -/
theorem back_ok {G G' H' : Hp} {vs : List V} {as : List Ar} {is : List (Option Nat)} {cs : List Cell} {ρ ρ' : E} (h : Handed A F P σ G H vs as is ρ) (b : Beh G H (Z.cads vs as) G' H') (ca : CelsAt A G' H' (Z.cads vs as) cs) (hp : putBack is cs ρ = some ρ') : EnvG A F P σ G' H' ρ' ∧ ∀ (k : Nat) p c', ρ'[k]? = some (.cel p c') → ∃ c, ρ[k]? = some (.cel p c) := by
  obtain ⟨l1, l2⟩ := putBack_ok h.args h.lenI (fun j i z => by
    obtain ⟨a, p, c, k1, k2, k3, _⟩ := h.ix j i z
    exact ⟨a, k1, ⟨c, k2⟩, k3⟩) h.noI ca hp
  have e := h.env
  have mem := h.cadsH
  have old : ∀ {k : Nat} {p : Bool} {c' : Cell}, ρ'[k]? = some (.cel p c') → ∃ c, ρ[k]? = some (.cel p c) := fun {k p c'} z => by
    rcases l2 k _ z with ⟨y, _⟩ | ⟨p2, c, c2, a, y1, y2, _⟩
    · exact ⟨c', y⟩
    · cases y1
      exact ⟨c, y2⟩
  have alive : ∀ {l : Addr}, l ∈ Z.cads vs as → H' l ≠ none := fun {l} hl => by
    have go : ∀ {l : List Addr} {cs : List Cell}, CelsAt A G' H' l cs → ∀ x ∈ l, H' x ≠ none := by
      intro l cs c
      induction c with
      | nil =>
        intro x hx
        cases hx
      | cons c1 c2 r ih =>
        intro x hx
        rcases List.mem_cons.mp hx with rfl | hx
        · obtain ⟨o, ho⟩ := c1.some
          rw [ho]
          simp
        · exact ih x hx
    exact go ca l hl
  refine ⟨?_, fun k p c' z => old z⟩
  refine ⟨fun a o n q => b.fr a o (fun z => ?_) (e.fr a o n q), e.gg.trans b.gg, b.gh, fun a o q => ?_, fun a hc => ?_, l1.trans e.len, fun k d q => ?_, fun k p c' q => ?_, fun i j p q c c' l z1 z2 z3 z4 => ?_, fun i l m => ?_, fun k x q => ?_⟩
  · obtain ⟨i, y1, y2⟩ := (mem a).mp z
    obtain ⟨m, hm⟩ := List.getElem?_of_mem y1
    obtain ⟨b2, p2, c2, _, _, k5, k6⟩ := h.ix m i hm
    rw [y2] at k5
    cases k5
    obtain ⟨l, g1, _, _, g4⟩ := e.cel i p2 c2 k6
    rw [y2] at g1
    cases g1
    cases p2 with
    | true => exact n g4
    | false =>
      rw [show F.H a = none from g4] at q
      cases q
  · rcases b.gn a o q with z | z
    · exact e.gn a o z
    · exact .inr (e.free z)
  · by_cases z : a ∈ Z.cads vs as
    · exact alive z
    · cases y : H a with
      | none => exact absurd y (e.ca a hc)
      | some o =>
        rw [b.fr a o z y]
        simp
  · rcases l2 k _ q with ⟨y, _⟩ | ⟨p2, c, c2, a, y1, _⟩
    · obtain ⟨v, h1, h2⟩ := e.val k d y
      exact ⟨v, h1, h2.mono b.gg⟩
    · cases y1
  · rcases l2 k _ q with ⟨y, yn⟩ | ⟨p2, c, c2, a, y1, y2, y3, y4, y5⟩
    · obtain ⟨l, h1, h2, h3, h4⟩ := e.cel k p c' y
      obtain ⟨o, ho⟩ := h2.some
      have nl : l ∉ Z.cads vs as := fun z => by
        obtain ⟨i, z1, z2⟩ := (mem l).mp z
        obtain ⟨m, hm⟩ := List.getElem?_of_mem z1
        obtain ⟨b2, p2, c2, _, _, k5, k6⟩ := h.ix m i hm
        have ik := e.ap i k p2 p c2 c' l k6 y z2 h1
        subst ik
        exact yn z1
      refine ⟨l, h1, h2.mono b.gg ((b.fr l o nl ho).trans ho.symm), ?_, h4⟩
      cases w : G' l with
      | none => rfl
      | some u =>
        rcases b.gn l u w with x | x
        · rw [h3] at x
          cases x
        · rw [ho] at x
          cases x
    · cases y1
      obtain ⟨l, g1, _, _, g4⟩ := e.cel k p c y2
      rw [y3] at g1
      cases g1
      exact ⟨a, y3, y4, y5, g4⟩
  · obtain ⟨c1, w1⟩ := old z1
    obtain ⟨c2, w2⟩ := old z2
    exact e.ap i j p q c1 c2 l w1 w2 z3 z4
  · obtain ⟨y1, c, y2⟩ := e.pin i l m
    refine ⟨y1, ?_⟩
    have hi : i < ρ'.length := l1 ▸ (List.getElem?_eq_some_iff.mp y2).1
    have q : ρ'[i]? = some ρ'[i] := by simp [hi]
    rcases l2 i _ q with ⟨y, _⟩ | ⟨p2, c0, c2, a, y3, y4, _⟩
    · rw [y2] at y
      exact ⟨c, by rw [q, ← Option.some.inj y]⟩
    · rw [y2] at y4
      cases y4
      exact ⟨c2, by rw [q, y3]⟩
  · rcases l2 k _ q with ⟨y, _⟩ | ⟨p2, c, c2, a, y1, _⟩
    · obtain ⟨a, cls, d, h1, h2, h3⟩ := e.err k x y
      exact ⟨a, cls, d, h1, h2, h3.mono b.gg⟩
    · cases y1
end
end Z

set_option Elab.async false
set_option linter.all false
set_option maxRecDepth 100000
set_option maxHeartbeats 4000000
/-! ZE: the call of a def, keywords, comprehensions. -/
namespace Z
open PySem PySem.Spec PyProof.Rows L2

theorem fnL_tail {A : Amb} {Y : Yc} {F : Fx} {P : List (Nat × Addr)} {σ : L2.St} {G H : Hp} {ρ : E} {f : Fn} {md : List Bool} {xs : List Rf} {vs : List V} {r : R Rf} {Q : VK} (e : EnvG A F P σ G H ρ) (so : SOks A σ G vs xs) (hm : eFnL f md xs ρ = some r) (hp : Post A Y (relE A) F P σ Q G r) :
    spZ A f vs H Q (fun cls d H' => Y.W cls d σ H') := by
  unfold eFnL at hm
  cases q : toArs md xs ρ with
  | none =>
    rw [q] at hm
    cases hm
  | some t =>
    obtain ⟨as, is, ρ1⟩ := t
    rw [q] at hm
    simp only at hm
    obtain ⟨G2, s2, hd⟩ := toArs_ok e so q
    by_cases nd : (is.filterMap id).Nodup
    · rw [if_pos nd] at hm
      cases hf : f as with
      | none =>
        rw [hf] at hm
        cases hm
      | some r' =>
        rw [hf] at hm
        refine ⟨G2, as, r', hd.env.gh, hd.args, hd.nodup nd, hf, ?_⟩
        cases r' with
        | exc x cs =>
          simp only at hm
          cases hb : putBack is cs ρ1 with
          | none =>
            rw [hb] at hm
            cases hm
          | some ρ2 =>
            rw [hb] at hm
            cases hm
            exact fun cls d G' H' b ca xa => hp cls d G' H' (s2.trans b.gg) (back_ok hd b ca hb).1 xa
        | ret n d cs =>
          simp only at hm
          cases hb : putBack is cs ρ1 with
          | none =>
            rw [hb] at hm
            cases hm
          | some ρ2 =>
            cases hx : rfOf n d with
            | none =>
              rw [hb, hx] at hm
              cases hm
            | some x =>
              rw [hb, hx] at hm
              cases hm
              refine fun v G' H' b ca ro => hp v G' H' (s2.trans b.gg) (back_ok hd b ca hb).1 ?_
              cases n with
              | false =>
                cases hx
                exact ro
              | true =>
                cases d with
                | lst ds =>
                  cases hx
                  obtain ⟨l, us, rfl, h1, h2, h3, h4⟩ := ro
                  refine ⟨l, us, rfl, h1, h2, hd.env.free h3, h4, fun j p c z y => ?_⟩
                  obtain ⟨c0, w⟩ := (back_ok hd b ca hb).2 j p c z
                  obtain ⟨l', k1, k2, _⟩ := hd.env.cel j p c0 w
                  rw [y] at k1
                  cases k1
                  obtain ⟨o, ho⟩ := k2.some
                  rw [h3] at ho
                  cases ho
                | _ => cases hx
    · rw [if_neg nd] at hm
      cases hm

section
variable {X : Cx} {Y : Yc} {k : Nat} {f : Addr} {fd : FuncData} {ps : List Str} {fn : Fn} {x : Str} {p pos : Pos} {e : Expr} {es : List Expr} {ms mk : M (List Rf)}
theorem run_z {pins : List (Addr × Obj)} {σ : L2.St} {H : Hp} {s : Shared} {Q : VK} {us : List Value} {kw : List (Str × Value)} {all : List Value} {vs : List V} (F : FnZ X.prog X.w X.K X.mg X.base k f fd ps fn) (hg : X.A.guards = some []) (hr : Room k X.A) (tk : Takes X Y.W)
    (I : Inv X pins σ H s) (hb : BindsTo s fd ⟨us, kw⟩ (ps.zip all)) (r : Vals vs all) (h : spZ (amb X) fn vs H Q (fun cls d H' => Y.W cls d σ H')) : wpAny (model X.prog X.w) X.A (call (.ref f) us kw) (EP X pins σ Q) X.xe s := by
  refine wpAny_call (codeAny_mono (F.run X.A X.stack s H ⟨us, kw⟩ all vs Q _ hg hr I.env0 hb r h) fun res s' hq => ?_)
  cases res with
  | error ev => exact passAt tk σ pins H s ev s' I hq
  | ok fl =>
    cases fl with
    | ret u => exact I.after hq
    | next => exact False.elim hq
    | brk => exact False.elim hq
    | cont => exact False.elim hq
/-- f(e, ..) -/
theorem de_call {md : List Bool} (F : FnZ X.prog X.w X.K X.mg X.base k f fd ps fn) (hm : X.mg x = some (.ref f)) (hk : PySem.W.keepIn X.K (.ref f) = true) (hb : Binds X.K fd ps []) (hg : X.A.guards = some []) (hr : Room k X.A) (tk : Takes X Y.W) (ha : DA X Y (e :: es) ms)
    (hgl : Gl X x := by rfl) (hdb : (x == ("__debug__" : Str)) = false := by decide) (he : starEach (e :: es) X.env = (false, eval e X.env) :: starEach es X.env := by rfl) (hpl : (backTo pos (starEach es X.env)).any (·.1) = false := by rfl) :
    DE X Y (.Call (.Name x p) (e :: es) [] pos) (eFn fn md ms) := by
  refine ⟨fun pins s σ H Q I ⟨F0, P, G, ρ, r, er, e0, hm0, hp⟩ => ?_⟩
  refine wpAny_Call_Name_kw (ld_glob I hgl hm ?_ hdb)
  have q := tG_bind (Re := relA (amb X)) (T := fun vs H1 => spZ (amb X) fn vs H1 Q (fun cls d H' => Y.W cls d σ H')) er e0 hm0 hp fun G1 H1 ρ1 xs vs s1 e1 so hk => fnL_tail e1 so hk (hp.mono s1)
  refine PySem.W.callWith_K (h₀ := X.base) I.ok.mod.kin hk (thn (ha.run pos pins s σ H _ I q) fun us s1 ⟨vs, H1, I1, rv, h⟩ => ⟨I1.kIn, ?_⟩) he hpl
  have hlen : (us ++ []).length = ps.length := by
    obtain ⟨G, as, r, _, ha, _, hm, _⟩ := h
    rw [List.append_nil, ← rv.length, ha.length]
    exact F.len _ _ hm
  have hb' := hb s1 us I1.kIn hlen
  rw [List.append_nil] at hb'
  exact run_z F hg hr tk I1 hb' rv h
/-- f() -/
theorem de_call0 (F : FnZ X.prog X.w X.K X.mg X.base k f fd ps fn) (hm : X.mg x = some (.ref f)) (hk : PySem.W.keepIn X.K (.ref f) = true) (hb : Binds X.K fd ps []) (hg : X.A.guards = some []) (hr : Room k X.A) (tk : Takes X Y.W)
    (hgl : Gl X x := by rfl) (hdb : (x == ("__debug__" : Str)) = false := by decide) : DE X Y (.Call (.Name x p) [] [] pos) (eFn fn [] aNil) := by
  refine ⟨fun pins s σ H Q I ⟨F0, P, G, ρ, r, er, e0, hm0, hp⟩ => ?_⟩
  refine wpAny_Call_Name_kw (ld_glob I hgl hm ?_ hdb)
  have hm1 : eFnL fn [] [] ρ = some r := hm0
  have h := fnL_tail e0 .nil hm1 hp
  have hlen : ([] ++ [] : List Value).length = ps.length := by
    obtain ⟨G, as, r, _, ha, _, hm, _⟩ := h
    have q := F.len _ _ hm
    have q2 := ha.length
    rw [← q, ← q2]
    rfl
  exact PySem.W.callWith_K0 I.kIn hk (run_z F hg hr tk I (hb s [] I.kIn hlen) .nil h)

/-! keywords -/
def pick {α : Type} (perm : List Nat) (l : List α) : List α := perm.filterMap fun i => l[i]?
/-- how a call with n positional values and the keywords ks binds; ds: what the defaults give -/
def KBz (K : PySem.W.Frag) (fd : FuncData) (ps : List Str) (n : Nat) (ks : List Str) (perm : List Nat) (dvs : List V) : Prop :=
  ∃ ds, Vals dvs ds ∧ ∀ (s : Shared) (us ws : List Value), K.In s.heap → us.length = n → ws.length = ks.length → BindsTo s fd ⟨us, ks.zip ws⟩ (ps.zip (pick perm (us ++ ws ++ ds)))
def eFnK (f : Fn) (md : List Bool) (n m : Nat) (perm : List Nat) (dds : List D) (ms mk : M (List Rf)) : M Rf := bindM ms fun xs => bindM mk fun zs => if xs.length = n ∧ zs.length = m then eFnL f md (pick perm (xs ++ zs ++ dds.map .dat)) else failM
theorem vals_pick {perm : List Nat} {vs : List V} {us : List Value} (h : Vals vs us) : Vals (pick perm vs) (pick perm us) := by
  induction perm with
  | nil => exact .nil
  | cons i perm ih =>
    unfold pick at ih ⊢
    rw [List.filterMap_cons, List.filterMap_cons]
    cases q : vs[i]? with
    | none =>
      rw [h.none_of q]
      exact ih
    | some v =>
      obtain ⟨u, h1, h2⟩ := h.get q
      rw [h1]
      exact .cons h2 ih
theorem SOks.get {A : Amb} {σ : L2.St} {G : Hp} : ∀ {vs : List V} {xs : List Rf}, SOks A σ G vs xs → vs.length = xs.length ∧ ∀ {i : Nat} {v : V}, vs[i]? = some v → ∃ x, xs[i]? = some x ∧ SOk A σ G v x
  | _, _, .nil => ⟨rfl, fun h => by simp at h⟩
  | _, _, .cons h r => ⟨congrArg Nat.succ (SOks.get r).1, fun {i v} q => by
    cases i with
    | zero =>
      cases q
      exact ⟨_, rfl, h⟩
    | succ i =>
      obtain ⟨x, h1, h2⟩ := (SOks.get r).2 (i := i) (by simpa using q)
      exact ⟨x, by simpa using h1, h2⟩⟩
theorem SOks.append {A : Amb} {σ : L2.St} {G : Hp} : ∀ {vs ws : List V} {xs ys : List Rf}, SOks A σ G vs xs → SOks A σ G ws ys → SOks A σ G (vs ++ ws) (xs ++ ys)
  | _, _, _, _, .nil, s => s
  | _, _, _, _, .cons h r, s => .cons h (SOks.append r s)
theorem soks_pick {A : Amb} {σ : L2.St} {G : Hp} {perm : List Nat} {vs : List V} {xs : List Rf} (h : SOks A σ G vs xs) : SOks A σ G (pick perm vs) (pick perm xs) := by
  induction perm with
  | nil => exact .nil
  | cons i perm ih =>
    unfold pick at ih ⊢
    rw [List.filterMap_cons, List.filterMap_cons]
    cases q : vs[i]? with
    | none =>
      have q2 : xs[i]? = none := by
        rw [List.getElem?_eq_none_iff] at q ⊢
        rw [← h.get.1]
        exact q
      rw [q2]
      exact ih
    | some v =>
      obtain ⟨u, h1, h2⟩ := h.get.2 q
      rw [h1]
      exact .cons h2 ih
def DK (X : Cx) (Y : Yc) (kws : List Keyword) (m : M (List Rf)) : Prop := PK X kws (tG (amb X) Y (relA (amb X)) m)
theorem PK.weak {X : Cx} {e : List Keyword} {t t' : TA} (h : PK X e t) (w : ∀ σ H Q, t' σ H Q → t σ H Q) : PK X e t' := ⟨fun pos pins s σ H Q I q => h.run pos pins s σ H Q I (w _ _ _ q)⟩
theorem dk_nil : DK X Y [] aNil := PK.weak pk_nil fun σ H Q ⟨F, P, G, ρ, r, er, e, hm, hp⟩ => by
  cases hm
  exact hp [] G H (Same.refl G) e .nil
theorem dk_cons {nm : Option Str} {kpos : Pos} {kws : List Keyword} {a : Expr} {ma : M Rf} (ha : DE X Y a ma) (hr : DK X Y kws ms) : DK X Y (⟨nm, a, kpos⟩ :: kws) (aCons ma ms) :=
  PK.weak (pk_cons ha hr) fun σ H Q ⟨F, P, G, ρ, r, er, e, hm, hp⟩ => tE_bind er e hm hp fun G1 H1 ρ1 x v s1 e1 so1 hm1 hp1 => tG_bind (Re := relA (amb X)) er e1 hm1 hp1 fun G2 H2 ρ2 xs vs s2 e2 so2 hm2 => by
    cases hm2
    exact hp1 (v :: vs) G2 H2 s2 e2 (.cons (so1.mono s2) so2)
/-- the reading of both lists -/
theorem kw_tail {A : Amb} {n m : Nat} {md : List Bool} {perm : List Nat} {dds : List D} {dvs : List V} {σ : L2.St} {H : Hp} {Q : VK} (hd : ∀ G, Ims A G dvs dds) (h : tG A Y (relE A) (eFnK fn md n m perm dds ms mk) σ H Q) :
    tG A Y (relA A) ms σ H fun vs H1 => tG A Y (relA A) mk σ H1 fun zs H2 => vs.length = n ∧ zs.length = m ∧ spZ A fn (pick perm (vs ++ zs ++ dvs)) H2 Q (fun cls d H' => Y.W cls d σ H') := by
  obtain ⟨F0, P, G, ρ, r, er, e0, hm0, hp⟩ := h
  refine tG_bind (Re := relA A) er e0 hm0 hp fun G1 H1 ρ1 xs vs s1 e1 so hk1 => tG_bind (Re := relA A) er e1 hk1 (hp.mono s1) fun G2 H2 ρ2 zs ws s2 e2 so2 hk2 => ?_
  by_cases hl : xs.length = n ∧ zs.length = m
  · rw [if_pos hl] at hk2
    refine ⟨so.get.1.trans hl.1, so2.get.1.trans hl.2, fnL_tail e2 (soks_pick (((so.mono s2).append so2).append ?_)) hk2 (hp.mono (s1.trans s2))⟩
    have go : ∀ {vs : List V} {ds : List D}, Ims A G2 vs ds → SOks A σ G2 vs (ds.map .dat) := by
      intro vs
      induction vs with
      | nil =>
        intro ds h
        cases h
        exact .nil
      | cons v vs ih =>
        intro ds h
        cases h with
        | cons h r => exact .cons h (ih r)
    exact go (hd G2)
  · rw [if_neg hl] at hk2
    cases hk2
/-- f(e, .., k = v, ..) -/
theorem de_callK {md : List Bool} {ks : List Str} {perm : List Nat} {dvs : List V} {dds : List D} {n : Nat} {kws : List Keyword} (F : FnZ X.prog X.w X.K X.mg X.base k f fd ps fn) (hm : X.mg x = some (.ref f)) (hk : PySem.W.keepIn X.K (.ref f) = true) (hb : KBz X.K fd ps n ks perm dvs)
    (hd : ∀ G, Ims (amb X) G dvs dds) (hg : X.A.guards = some []) (hr : Room k X.A) (tk : Takes X Y.W) (ha : DA X Y (e :: es) ms) (hkw : DK X Y kws mk) (hgl : Gl X x := by rfl) (hdb : (x == ("__debug__" : Str)) = false := by decide)
    (hall : (backToKw pos (keywordEach kws X.env)).all (·.1.isSome) = true := by rfl) (hks : (backToKw pos (keywordEach kws X.env)).filterMap (·.1) = ks := by rfl)
    (he : starEach (e :: es) X.env = (false, eval e X.env) :: starEach es X.env := by rfl) (hpl : ((backTo pos (starEach (e :: es) X.env)).any (·.1) || (backToKw pos (keywordEach kws X.env)).any (·.1.isNone)) = false := by rfl) :
    DE X Y (.Call (.Name x p) (e :: es) kws pos) (eFnK fn md n ks.length perm dds ms mk) := by
  obtain ⟨ds, rd, bind⟩ := hb
  refine ⟨fun pins s σ H Q I h => ?_⟩
  refine wpAny_Call_Name_kw (ld_glob I hgl hm ?_ hdb)
  refine PySem.W.callWith_KW (h₀ := X.base) I.ok.mod.kin hk hall (thn (ha.run pos pins s σ H _ I (kw_tail hd h)) fun us s1 ⟨vs, H1, I1, rv, q1⟩ => ?_) hpl he
  refine thn (hkw.run pos pins s1 σ H1 _ I1 q1) fun ws s2 ⟨zs, H2, I2, rz, l1, l2, q2⟩ => ⟨I2.kIn, ?_⟩
  rw [hks]
  exact run_z F hg hr tk I2 (bind s2 us ws I2.kIn (rv.length.symm.trans l1) (rz.length.symm.trans l2)) (vals_pick ((rv.append rz).append rd)) q2
theorem de_callK0 {md : List Bool} {ks : List Str} {perm : List Nat} {dvs : List V} {dds : List D} {kws : List Keyword} (F : FnZ X.prog X.w X.K X.mg X.base k f fd ps fn) (hm : X.mg x = some (.ref f)) (hk : PySem.W.keepIn X.K (.ref f) = true) (hb : KBz X.K fd ps 0 ks perm dvs)
    (hd : ∀ G, Ims (amb X) G dvs dds) (hg : X.A.guards = some []) (hr : Room k X.A) (tk : Takes X Y.W) (hkw : DK X Y kws mk) (hgl : Gl X x := by rfl) (hdb : (x == ("__debug__" : Str)) = false := by decide)
    (hall : (backToKw pos (keywordEach kws X.env)).all (·.1.isSome) = true := by rfl) (hks : (backToKw pos (keywordEach kws X.env)).filterMap (·.1) = ks := by rfl)
    (hpl : ((backTo pos (starEach [] X.env)).any (·.1) || (backToKw pos (keywordEach kws X.env)).any (·.1.isNone)) = false := by rfl) :
    DE X Y (.Call (.Name x p) [] kws pos) (eFnK fn md 0 ks.length perm dds aNil mk) := by
  obtain ⟨ds, rd, bind⟩ := hb
  refine ⟨fun pins s σ H Q I h => ?_⟩
  refine wpAny_Call_Name_kw (ld_glob I hgl hm ?_ hdb)
  obtain ⟨F0, P, G, ρ, r, er, e0, hm0, hp⟩ := h
  have q : tG (amb X) Y (relA (amb X)) mk σ H fun zs H2 => ([] : List V).length = 0 ∧ zs.length = ks.length ∧ spZ (amb X) fn (pick perm ([] ++ zs ++ dvs)) H2 Q (fun cls d H' => Y.W cls d σ H') := by
    have t := kw_tail (ms := aNil) hd ⟨F0, P, G, ρ, r, er, e0, hm0, hp⟩
    obtain ⟨F1, P1, G1, ρ1, r1, er1, e1, hm1, hp1⟩ := t
    cases hm1
    exact hp1 [] G1 H (Same.refl G1) e1 .nil
  refine PySem.W.callWith_KW0 (h₀ := X.base) I.ok.mod.kin hk hall ?_ hpl
  refine thn (hkw.run pos pins s σ H _ I q) fun ws s2 ⟨zs, H2, I2, rz, l1, l2, q2⟩ => ⟨I2.kIn, ?_⟩
  rw [hks]
  exact run_z F hg hr tk I2 (bind s2 [] ws I2.kIn rfl (rz.length.symm.trans l2)) (vals_pick (L2.Vals.append (L2.Vals.append .nil rz) rd)) q2
end
end Z

set_option Elab.async false
set_option linter.all false
set_option maxRecDepth 100000
set_option maxHeartbeats 4000000
/-! ZF: what is walked; comprehensions. -/
namespace PySem
theorem enum_one_meets {v : Value} {o : Obj} {W : Heap → Prop} (B : Begins v o W) :
    Meets (Builtin.«enumerate.__new__» ⟨[.type "enumerate", v], []⟩) (fun _ R s => W s.heap ∧
      R (.ok (.ret (.ref (s.heap.objs.size + 1)))) { s with heap := (s.heap.push o).push { cls := .type "enumerate", data := .fields #[.none, .bool false, .ref s.heap.objs.size, rawInt 0, .none, .none] } }) :=
  .of_wp fun prog w A R s h => by
    obtain ⟨hp, g, d, tk, os⟩ := s
    obtain ⟨h1, h⟩ := h
    have sub := sub_enumerate
    have hz : (hp.push o).objs.size = hp.objs.size + 1 := Heap.size_push ..
    have h2 : R (.ok (.ret (.ref (hp.push o).objs.size))) { heap := (hp.push o).push { cls := .type "enumerate", data := .fields #[.none, .bool false, .ref hp.objs.size, rawInt 0, .none, .none] }, gens := g, drawn := d, toks := tk, os := os } := by
      rw [hz]
      exact h
    have it : ∀ {A' : Around} {E Q : Value → Shared → Prop}, Q (.ref hp.objs.size) ⟨hp.push o, g, d, tk, os⟩ → wpAny (model prog w) A' (pyIter v) Q E ⟨hp, g, d, tk, os⟩ := fun q => B.iter prog w _ _ ⟨hp, g, d, tk, os⟩ _ h1 q
    wp_walk using it
    refine wpAny_stack_any fun st => wpAny_pure ?_
    split
    · rename_i c _ _ _ _ _
      cases (c == Value.type "enumerate") <;> (wp_walk using it; exact ⟨_, rfl, h2⟩)
    · wp_walk using it
      exact ⟨_, rfl, h2⟩
theorem enum_one {prog : Program} {w : World} {A : Around} {E : Value → Shared → Prop} {s : Shared} {v : Value} {o : Obj} {W : Heap → Prop} {Q : Value → Shared → Prop} (B : Begins v o W) (h1 : W s.heap)
    (h : ∀ h', IsEnum h' (s.heap.objs.size + 1) s.heap.objs.size 0 .none → h'.get? s.heap.objs.size = some o → (∀ b o, s.heap.get? b = some o → h'.get? b = some o) → Q (.ref (s.heap.objs.size + 1)) { s with heap := h' }) :
    wpAny (model prog w) A (call (.type "enumerate") [v]) Q E s := by
  refine callType_new F.called_enumerate (by decide) (F.typeCall_enumerate_1 _) (F.newCall_enumerate_1 _) (fun obj => F.args_object_init_2 obj _) F.entry_enumerate_new (enum_one_meets B) ⟨h1, ?_⟩
  have he : IsEnum ((s.heap.push o).push { cls := .type "enumerate", data := .fields #[.none, .bool false, .ref s.heap.objs.size, rawInt 0, .none, .none] }) (s.heap.objs.size + 1) s.heap.objs.size 0 .none := by
    have q := Heap.get?_push_size (s.heap.push o) (o := { cls := .type "enumerate", data := .fields #[.none, .bool false, .ref s.heap.objs.size, rawInt 0, .none, .none] }) rfl
    rw [Heap.size_push] at q
    exact q
  exact ⟨⟨_, he, rfl⟩, h _ he (Heap.get?_push_of_some _ (Heap.get?_push_size _ B.free)) fun b o x => Heap.get?_push_of_some _ (Heap.get?_push_of_some _ x)⟩
end PySem
namespace Z
open PySem PySem.Spec PyProof.Rows L2

/-! enumerate over a tuple -/
def ItEt (K : PySem.W.Frag) (a : Addr) : It :=
  ⟨fun i H => ∃ xs x, SqT K H a xs ∧ xs[i]? = some x, fun i H v H' => ∃ T x, v = .ref T ∧ H T = none ∧ H' = upd H T (.tup [.int (i : Nat), x]) ∧ ∀ xs, SqT K H a xs → xs[i]? = some x, fun i H => ∃ xs, SqT K H a xs ∧ xs.length ≤ i⟩
theorem turn_enumT {P : Program} {w : World} {K : PySem.W.Frag} {elts : List Expr} {kk : Nat} {tpos : Pos} (a e it : Addr) :
    Turn P w K (.Tuple elts kk tpos) (ItEt K a) [e, it] e (fun i h => (∃ old, IsEnum h e it ((i : Nat) : Int) old) ∧ h.IsTupleIter it a i ∧ e ≠ it) where
  mem := List.mem_cons_self ..
  obj := fun i h st b hb => by
    obtain ⟨⟨old, he⟩, ⟨o, ho, hc, hd⟩, _⟩ := st
    rcases List.mem_cons.mp hb with rfl | hb
    · exact ⟨_, he, fun v q => nomatch q⟩
    · cases List.mem_singleton.mp hb
      refine ⟨o, ho, fun v q => ?_⟩
      rw [hd] at q
      cases q
  keep := fun i h h' st k => by
    obtain ⟨⟨old, he⟩, hi, hne⟩ := st
    exact ⟨⟨old, k e (List.mem_cons_self ..) _ he⟩, hi.at fun o q => k it (List.mem_cons_of_mem _ (List.mem_singleton.mpr rfl)) o q, hne⟩
  item := by
    intro X hP hw hK hc i pins s σ H E I hf st hg
    subst hP hw hK
    obtain ⟨⟨old, he⟩, hit, hne⟩ := st
    obtain ⟨xs, x, hq, hx⟩ := hg
    obtain ⟨its, rv, p, hz⟩ := I.tuple hq
    obtain ⟨u, hu, ru⟩ := rv.get hx
    have hel : e < s.heap.objs.size := Heap.lt_size he
    have hil : it < s.heap.objs.size := by
      obtain ⟨_, q, _⟩ := hit
      exact Heap.lt_size q
    have hti : a ≠ it := fun z => by
      obtain ⟨o1, q1, c1, _⟩ := hit
      obtain ⟨o2, q2, c2, _⟩ := p
      rw [z, q1] at q2
      cases q2
      rw [c1] at c2
      exact absurd c2 (by decide +kernel)
    have hte : a ≠ e := fun z => by
      obtain ⟨o2, q2, c2, _⟩ := p
      rw [z, he] at q2
      cases q2
      have c3 : Value.type "enumerate" = Value.type "tuple" := c2
      exact absurd c3 (by decide +kernel)
    have pt : s.heap.IsTuple a its.toArray := p
    refine wpAny_pyNext_enum_itemC (Draws.tuple (prog := X.prog) (w := X.w) (A := X.A.in1) (I.ok.hd hc) it a hti its.toArray) he ⟨hit, pt⟩ (i := i) (by
      have q := (List.getElem?_eq_some_iff.mp hu).1
      simpa using q) hne (by
      intro z
      rcases List.mem_cons.mp z with z | z
      · exact hne z
      · exact hte (List.mem_singleton.mp z).symm) fun y h' tk hy ho st' hT hsz hk => ?_
    have eu : u = y := by
      have hy : its.toArray[i]? = some y := hy
      rw [List.getElem?_toArray, hu] at hy
      exact Option.some.inj hy
    subst eu
    refine ⟨_, rfl, wpAny_letOwnedTupleGo_enum (s := { s with heap := h', toks := tk + 1 }) ho fun h'' he' sb => ?_⟩
    have hT2 := (sb.2 _ (Nat.ne_of_gt hel)).trans hT
    have fresh : H s.heap.objs.size = none := I.hok.fresh (Nat.le_refl _)
    have new : ObjOk X.prog X.w (upd H s.heap.objs.size (.tup [.int (i : Nat), x])) h'' s.heap.objs.size (.tup [.int (i : Nat), x]) :=
      ⟨by show 2 ≤ sizeLine; decide, [.int i tk, u], .cons ⟨_, rfl⟩ (.cons ru .nil), ⟨_, hT2, rfl, _, rfl⟩⟩
    have I1 := I.turnedNew (t' := tk + 1) (ch := [e, it]) (fun b ob hb q => by
      have n1 : b ≠ e := fun z => hb (z ▸ List.mem_cons_self ..)
      have n2 : b ≠ it := fun z => hb (z ▸ List.mem_cons_of_mem _ (List.mem_singleton.mpr rfl))
      exact (sb.2 b n1).trans (hk b ob n1 n2 q)) hf (Nat.le_refl _) new
    refine ⟨.ref s.heap.objs.size, _, I1, rfl, ⟨_, x, rfl, fresh, rfl, fun ys hy => ?_⟩, ⟨⟨u, he'⟩, st'.1.at fun o q => (sb.2 it (Ne.symm hne)).trans q, hne⟩, fun b hb => ?_⟩
    · rw [I.tuple_inj hy hq]
      exact hx
    · have lt : b < s.heap.objs.size := by
        rcases List.mem_cons.mp hb with z | z
        · rw [z]
          exact hel
        · rw [List.mem_singleton.mp z]
          exact hil
      rw [upd_ne (Nat.ne_of_lt lt)]
      exact (hf b hb).1
  done := by
    intro X hP hw hK hc i pins s σ H E I hf st hg
    subst hP hw hK
    obtain ⟨⟨old, he⟩, hit, hne⟩ := st
    obtain ⟨xs, hq, hx⟩ := hg
    obtain ⟨its, rv, p, hz⟩ := I.tuple hq
    obtain ⟨f0, f1, f2, f3, f4, f5⟩ := hf it (List.mem_cons_of_mem _ (List.mem_singleton.mpr rfl))
    have hl := rv.length
    have hti : a ≠ it := fun z => by
      obtain ⟨o1, q1, c1, _⟩ := hit
      obtain ⟨o2, q2, c2, _⟩ := p
      rw [z, q1] at q2
      cases q2
      rw [c1] at c2
      exact absurd c2 (by decide +kernel)
    have pt : s.heap.IsTuple a its.toArray := p
    have dr : Draws X.prog X.w X.A.in1 it [it, a] i (fun _ _ => True) (fun j h => j = i ∧ h.IsTupleIter it a j ∧ h.IsTuple a its.toArray) := {
      live := fun _ _ st => by
        obtain ⟨_, ⟨o, ho, _⟩, _⟩ := st
        exact ⟨o, ho⟩
      frame := fun _ _ _ st hk => ⟨st.1, st.2.1.at fun o e => hk it (List.mem_cons_self ..) o e, st.2.2.at fun o e => hk a (List.mem_cons_of_mem _ (List.mem_singleton.mpr rfl)) o e⟩
      item := fun j s Q E hj st hQ => absurd hj (by rw [st.1]; exact Nat.lt_irrefl _)
      done := fun s Q E st hE => wpAny_nextOf_tuple_end (I.ok.hd hc) st.2.1 st.2.2 (by
        rw [List.getElem?_toArray, List.getElem?_eq_none_iff]
        omega) hE }
    exact wpAny_pyNext_enum_endD dr he ⟨rfl, hit, pt⟩ fun h' eb => ⟨rfl, I.turned (t' := s.toks) (fun b o hb q => eb b o hb q) f0 f1 f3 f4 f5⟩
  self := fun A i s Q E st h => by
    obtain ⟨⟨_, he⟩, _⟩ := st
    exact wpAny_pyIter_enum he h
end Z

set_option Elab.async false
set_option linter.all false
set_option maxRecDepth 100000
set_option maxHeartbeats 4000000
/-! ZG: what is walked, comprehensions. -/
namespace Z
open PySem PySem.Spec PyProof.Rows L2

def seqOf : D → Option (List D)
  | .lst ds => some ds
  | .tup ds => some ds
  | _ => none
theorem itr_list {A : Amb} {G : Hp} {a : Addr} {vs : List V} {ds : List D} (h : SqL A.K G a vs) (im : Ims A G vs ds) : Wlk A (Itl A.K a) G ds where
  go := fun i H s hi => by
    rw [← im.length] at hi
    exact ⟨vs, vs[i], s.seq h, by simp [hi]⟩
  stop := fun H s => ⟨vs, s.seq h, Nat.le_of_eq im.length⟩
  yld := fun i H x H' d s hd y => by
    obtain ⟨e, y⟩ := y
    obtain ⟨v, h1, h2⟩ := im.get hd
    have q := y vs (s.seq h)
    rw [h1] at q
    cases q
    exact .inl ⟨e, h2⟩
theorem itr_tup {A : Amb} {G : Hp} {a : Addr} {vs : List V} {ds : List D} (h : SqT A.K G a vs) (im : Ims A G vs ds) : Wlk A (Itt A.K a) G ds where
  go := fun i H s hi => by
    rw [← im.length] at hi
    exact ⟨vs, vs[i], same_sqT s h, by simp [hi]⟩
  stop := fun H s => ⟨vs, same_sqT s h, Nat.le_of_eq im.length⟩
  yld := fun i H x H' d s hd y => by
    obtain ⟨e, y⟩ := y
    obtain ⟨v, h1, h2⟩ := im.get hd
    have q := y vs (same_sqT s h)
    rw [h1] at q
    cases q
    exact .inl ⟨e, h2⟩
def numbered (ds : List D) : List D := (List.range ds.length).zipWith (fun i d => .pr [.int (i : Nat), d]) ds
theorem numbered_get {ds : List D} {i : Nat} {d : D} (h : (numbered ds)[i]? = some d) : ∃ e, ds[i]? = some e ∧ d = .pr [.int (i : Nat), e] := by
  unfold numbered at h
  rw [List.getElem?_zipWith] at h
  cases q : ds[i]? with
  | none =>
    rw [q] at h
    cases r : (List.range ds.length)[i]? <;> (rw [r] at h; cases h)
  | some e =>
    have hi : i < ds.length := (List.getElem?_eq_some_iff.mp q).1
    rw [q, List.getElem?_range hi] at h
    cases h
    exact ⟨e, rfl, rfl⟩
theorem numbered_length (ds : List D) : (numbered ds).length = ds.length := by
  unfold numbered
  rw [List.length_zipWith, List.length_range, Nat.min_self]
theorem itr_enumL {A : Amb} {G : Hp} {a : Addr} {vs : List V} {ds : List D} (h : SqL A.K G a vs) (im : Ims A G vs ds) : Wlk A (Ite A.K a) G (numbered ds) where
  go := fun i H s hi => by
    rw [numbered_length, ← im.length] at hi
    exact ⟨vs, vs[i], s.seq h, by simp [hi]⟩
  stop := fun H s => ⟨vs, s.seq h, by rw [numbered_length]; exact Nat.le_of_eq im.length⟩
  yld := fun i H x H' d s hd y => by
    obtain ⟨T, u, e1, e2, e3, y⟩ := y
    obtain ⟨e, q, rfl⟩ := numbered_get hd
    obtain ⟨v, h1, h2⟩ := im.get q
    have z := y vs (s.seq h)
    rw [h1] at z
    cases z
    exact .inr ⟨T, _, _, e1, e2, e3, rfl, .cons (.int _) (.cons h2 .nil)⟩
theorem itr_enumT {A : Amb} {G : Hp} {a : Addr} {vs : List V} {ds : List D} (h : SqT A.K G a vs) (im : Ims A G vs ds) : Wlk A (ItEt A.K a) G (numbered ds) where
  go := fun i H s hi => by
    rw [numbered_length, ← im.length] at hi
    exact ⟨vs, vs[i], same_sqT s h, by simp [hi]⟩
  stop := fun H s => ⟨vs, same_sqT s h, by rw [numbered_length]; exact Nat.le_of_eq im.length⟩
  yld := fun i H x H' d s hd y => by
    obtain ⟨T, u, e1, e2, e3, y⟩ := y
    obtain ⟨e, q, rfl⟩ := numbered_get hd
    obtain ⟨v, h1, h2⟩ := im.get q
    have z := y vs (same_sqT s h)
    rw [h1] at z
    cases z
    exact .inr ⟨T, _, _, e1, e2, e3, rfl, .cons (.int _) (.cons h2 .nil)⟩
def rangeD (lo : Int) (n : Nat) : List D := (List.range n).map fun (i : Nat) => .int (lo + i)
theorem rangeD_get {lo : Int} {n i : Nat} {d : D} (h : (rangeD lo n)[i]? = some d) : i < n ∧ d = .int (lo + i) := by
  unfold rangeD at h
  rw [List.getElem?_map] at h
  by_cases hi : i < n
  · rw [List.getElem?_range hi] at h
    cases h
    exact ⟨hi, rfl⟩
  · rw [List.getElem?_eq_none (by simpa using hi)] at h
    cases h
theorem itr_range {A : Amb} {G : Hp} {lo : Int} {n : Nat} : Wlk A (Itr lo n) G (rangeD lo n) where
  go := fun i H s hi => by
    unfold rangeD at hi
    rw [List.length_map, List.length_range] at hi
    exact hi
  stop := fun H s => by
    show n ≤ _
    unfold rangeD
    rw [List.length_map, List.length_range]
    exact Nat.le_refl _
  yld := fun i H x H' d s hd y => by
    obtain ⟨e, y⟩ := y
    obtain ⟨_, rfl⟩ := rangeD_get hd
    subst y
    exact .inl ⟨e, .int _⟩

section
variable {X : Cx} {Y : Yc} {tg e : Expr} {m : M Rf} {ms : M (List Rf)}
def iSeq (m : M Rf) : M (List D) := bindM m fun x => bindM (frz (stl x)) fun d => optM (seqOf d)
theorem bind_frz {A : Amb} {F : Fx} {P : List (Nat × Addr)} {σ : L2.St} {G H : Hp} {ρ : E} {v : V} {x : Rf} {α : Type} {k : D → M α} {r : R α} (e : EnvG A F P σ G H ρ) (h : SOk A σ G v x) (hm : bindM (frz x) k ρ = some r) :
    ∃ d ρ' G', k d ρ' = some r ∧ Same G G' ∧ EnvG A F P σ G' H ρ' ∧ Im A G' v d := by
  cases q : frz x ρ with
  | none =>
    rw [bindM_none q] at hm
    cases hm
  | some r1 =>
    obtain ⟨d, ρ', G', rfl, s, e', im⟩ := frz_ok e h q
    rw [bindM_ok q] at hm
    exact ⟨d, ρ', G', hm, s, e', im⟩
theorem di_seq (h : DE X Y e m) : DI X Y tg e (iSeq m) := by
  refine ⟨fun pins s σ H Q I ⟨F, P, G, ρ, r, er, e0, hm, hp⟩ => ?_⟩
  have q : tG (amb X) Y (relE (amb X)) m σ H fun v H1 => ∃ a, v = .ref a ∧ (((∃ xs, SqL X.K H1 a xs) ∧ Q (Itl X.K a) H1) ∨ ((∃ xs, SqT X.K H1 a xs) ∧ Q (Itt X.K a) H1)) :=
    tE_bind er e0 hm hp fun G1 H1 ρ1 x v s1 e1 so hk hp1 => by
      obtain ⟨d, ρ2, G2, hk2, s2, e2, im⟩ := bind_frz e1 so hk
      obtain ⟨ds, hd, rfl⟩ := optM_ok hk2
      cases im with
      | lst h r =>
        cases hd
        exact ⟨_, rfl, .inl ⟨⟨_, e2.gh.seq h⟩, hp1 _ G2 H1 s2 e2 (itr_list h r)⟩⟩
      | tup h r =>
        cases hd
        exact ⟨_, rfl, .inr ⟨⟨_, same_sqT e2.gh h.sq⟩, hp1 _ G2 H1 s2 e2 (itr_tup h.sq r)⟩⟩
      | _ => cases hd
  refine thn (h.run pins s σ H _ I q) fun v s1 ⟨x, H1, I1, r1, a, ex, q1⟩ => ?_
  subst ex
  cases r1
  have one : ∀ b ∈ [s1.heap.objs.size], FpOk X pins H1 b := fun b hb => by
    cases List.mem_singleton.mp hb
    exact I1.fpOk (Nat.le_refl _) (I1.hok.fresh (Nat.le_refl _))
  have kept : ∀ {o : Obj}, Inv X pins σ H1 { s1 with heap := s1.heap.push o } := fun {o} => I1.kept (t' := s1.toks) fun b u z => Heap.get?_push_of_some _ z
  rcases q1 with ⟨⟨xs, hq⟩, q⟩ | ⟨⟨xs, hq⟩, q⟩
  · obtain ⟨its, rv, p, _⟩ := I1.list hq
    exact wpAny_pyIter_list p.isList ⟨_, _, _, _, H1, rfl, kept, turn_list a _, ⟨_, Heap.get?_push_size _ rfl, rfl, rfl⟩, one, q⟩
  · obtain ⟨its, rv, p, _⟩ := I1.tuple hq
    exact wpAny_pyIter_tuple (show s1.heap.IsTuple a its.toArray from p) ⟨_, _, _, _, H1, rfl, kept, turn_tuple a _, ⟨_, Heap.get?_push_size _ rfl, rfl, rfl⟩, one, q⟩
/-- enumerate(e) -/
def iEn (m : M Rf) : M (List D) := bindM m fun x => bindM (frz (stl x)) fun d => optM ((seqOf d).map numbered)
theorem di_enum {elts : List Expr} {kk : Nat} {p pos tpos : Pos} (hm : X.mg "enumerate" = none) (h : DE X Y e m) (hg : Gl X "enumerate" := by rfl) (hs : starEach [e] X.env = (false, eval e X.env) :: starEach [] X.env := by rfl) (hs2 : (backTo pos (starEach [] X.env)).any (·.1) = false := by rfl) :
    DI X Y (.Tuple elts kk tpos) (.Call (.Name "enumerate" p) [e] [] pos) (iEn m) := by
  refine ⟨fun pins s σ H Q I ⟨F, P, G, ρ, r, er, e0, hm0, hp⟩ => ?_⟩
  have q : tCons (tG (amb X) Y (relE (amb X)) m) tNil σ H fun vs H1 => ∃ a, vs = [.ref a] ∧ (((∃ xs, SqL X.K H1 a xs) ∧ Q (Ite X.K a) H1) ∨ ((∃ xs, SqT X.K H1 a xs) ∧ Q (ItEt X.K a) H1)) :=
    tE_bind er e0 hm0 hp fun G1 H1 ρ1 x v s1 e1 so hk hp1 => by
      obtain ⟨d, ρ2, G2, hk2, s2, e2, im⟩ := bind_frz e1 so hk
      obtain ⟨ds, h1, rfl⟩ := optM_ok hk2
      obtain ⟨es, h2, rfl⟩ := map_some' h1
      clear h1 hk2
      cases im with
      | lst h r =>
        cases h2
        exact ⟨_, rfl, .inl ⟨⟨_, e2.gh.seq h⟩, hp1 _ G2 H1 s2 e2 (itr_enumL h r)⟩⟩
      | tup h r =>
        cases h2
        exact ⟨_, rfl, .inr ⟨⟨_, same_sqT e2.gh h.sq⟩, hp1 _ G2 H1 s2 e2 (itr_enumT h.sq r)⟩⟩
      | _ => cases h2
  refine Call_ (ld_blt I hg hm boot_enumerate (PyProof.Rows.callWith_type1 (thn ((pa_cons h pa_nil hs).run pos pins s σ H _ I q) fun us s1 ⟨vs, H1, I1, r1, a, ex, q1⟩ => ?_) hs hs2))
  subst ex
  obtain ⟨u, rfl, ru⟩ := vals1 r1
  cases ru
  have two : ∀ b ∈ [s1.heap.objs.size + 1, s1.heap.objs.size], FpOk X pins H1 b := fun b hb => by
    have hle : s1.heap.objs.size ≤ b := by
      rcases List.mem_cons.mp hb with z | z
      · rw [z]
        exact Nat.le_succ _
      · rw [List.mem_singleton.mp z]
        exact Nat.le_refl _
    exact I1.fpOk hle (I1.hok.fresh hle)
  rcases q1 with ⟨⟨xs, hq⟩, q⟩ | ⟨⟨xs, hq⟩, q⟩
  · obtain ⟨its, rv, p, _⟩ := I1.list hq
    exact call_enumerate_list p.isList fun h' he hit hsz hk => wpAny_pyIter_enum he ⟨_, _, _, _, H1, rfl, I1.kept (t' := s1.toks) hk, turn_enum a _ _, ⟨⟨.none, he⟩, hit, Nat.succ_ne_self _⟩, two, q⟩
  · obtain ⟨its, rv, p, _⟩ := I1.tuple hq
    exact PySem.enum_one (begins_tuple a its.toArray) (show s1.heap.IsTuple a its.toArray from p) fun h' he hit hk => wpAny_pyIter_enum he ⟨_, _, _, _, H1, rfl, I1.kept (t' := s1.toks) hk, turn_enumT a _ _, ⟨⟨.none, he⟩, ⟨_, hit, rfl, rfl⟩, Nat.succ_ne_self _⟩, two, q⟩
def small62 (i : Int) : Bool := decide (-(2 ^ 62) ≤ i ∧ i < 2 ^ 62)
def rg1 : List D → Option (List D)
  | [.int n] => if small62 n = true then some (rangeD 0 n.toNat) else none
  | _ => none
def rg2 : List D → Option (List D)
  | [.int a, .int b] => if small62 a = true ∧ small62 b = true then some (rangeD a (b - a).toNat) else none
  | _ => none
theorem rg1_ok {ds es : List D} (h : rg1 ds = some es) : ∃ n, ds = [.int n] ∧ (-(2 ^ 62) ≤ n ∧ n < 2 ^ 62) ∧ es = rangeD 0 n.toNat := by
  unfold rg1 at h
  split at h
  · rename_i n
    by_cases hb : small62 n = true
    · rw [if_pos hb] at h
      cases h
      exact ⟨n, rfl, of_decide_eq_true hb, rfl⟩
    · rw [if_neg hb] at h
      cases h
  · cases h
theorem rg2_ok {ds es : List D} (h : rg2 ds = some es) : ∃ a b, ds = [.int a, .int b] ∧ (-(2 ^ 62) ≤ a ∧ a < 2 ^ 62) ∧ (-(2 ^ 62) ≤ b ∧ b < 2 ^ 62) ∧ es = rangeD a (b - a).toNat := by
  unfold rg2 at h
  split at h
  · rename_i a b
    by_cases hb : small62 a = true ∧ small62 b = true
    · rw [if_pos hb] at h
      cases h
      exact ⟨a, b, rfl, of_decide_eq_true hb.1, of_decide_eq_true hb.2, rfl⟩
    · rw [if_neg hb] at h
      cases h
  · cases h
def iRg1 (ms : M (List Rf)) : M (List D) := bindM ms fun xs => bindM (drfs xs) fun ds => optM (rg1 ds)
def iRg2 (ms : M (List Rf)) : M (List D) := bindM ms fun xs => bindM (drfs xs) fun ds => optM (rg2 ds)
theorem di_range1 {a : Expr} {p pos : Pos} (hm : X.mg "range" = none) (h : DA X Y [a] ms) (hg : Gl X "range" := by rfl) (hs : starEach [a] X.env = [(false, eval a X.env)] := by rfl) : DI X Y tg (.Call (.Name "range" p) [a] [] pos) (iRg1 ms) :=
  PI.weak (pi_range1 hg hm h hs) fun σ H Q ⟨F, P, G, ρ, r, er, e, hm, hp⟩ => tG_bind (Re := relA (amb X)) er e hm hp fun G1 H1 ρ1 xs vs s1 e1 so hk => by
    obtain ⟨ds, d1, hk2⟩ := drfs_ok hk
    obtain ⟨es, h1, rfl⟩ := optM_ok hk2
    obtain ⟨n, rfl, q, rfl⟩ := rg1_ok h1
    have t := tops_of e1 so d1
    cases t with
    | cons t t2 =>
      cases t2
      have z := t.int
      subst z
      exact ⟨n, rfl, q.1, q.2, hp _ G1 H1 s1 e1 itr_range⟩
theorem di_range2 {a b : Expr} {p pos : Pos} (hm : X.mg "range" = none) (h : DA X Y [a, b] ms) (hg : Gl X "range" := by rfl) (hs : starEach [a, b] X.env = [(false, eval a X.env), (false, eval b X.env)] := by rfl) (hs2 : starEach [b] X.env = [(false, eval b X.env)] := by rfl) :
    DI X Y tg (.Call (.Name "range" p) [a, b] [] pos) (iRg2 ms) :=
  PI.weak (pi_range2 hg hm h hs hs2) fun σ H Q ⟨F, P, G, ρ, r, er, e, hm, hp⟩ => tG_bind (Re := relA (amb X)) er e hm hp fun G1 H1 ρ1 xs vs s1 e1 so hk => by
    obtain ⟨ds, d1, hk2⟩ := drfs_ok hk
    obtain ⟨es, h1, rfl⟩ := optM_ok hk2
    obtain ⟨a, b, rfl, q, q2, rfl⟩ := rg2_ok h1
    have t := tops_of e1 so d1
    cases t with
    | cons t t2 =>
      cases t2 with
      | cons t2 t3 =>
        cases t3
        have z := t.int
        subst z
        have z := t2.int
        subst z
        exact ⟨a, b, rfl, ⟨q.1, q.2, q2.1, q2.2⟩, hp _ G1 H1 s1 e1 itr_range⟩
end

/-! comprehensions -/
def wipeE (ρ : E) : List Nat → E
  | [] => ρ
  | v :: vs => (wipeE ρ vs).set v .no
def okSlots (ρ : E) (vs : List Nat) : Bool := vs.all (okSlot ρ)
theorem wipeE_length (ρ : E) : ∀ vs : List Nat, (wipeE ρ vs).length = ρ.length
  | [] => rfl
  | v :: vs => by
    unfold wipeE
    rw [List.length_set, wipeE_length ρ vs]
theorem wipeE_get {ρ : E} {i : Nat} {s : Sl} : ∀ {vs : List Nat}, (wipeE ρ vs)[i]? = some s → (s = .no) ∨ (ρ[i]? = some s ∧ i ∉ vs)
  | [], h => .inr ⟨h, by simp⟩
  | v :: vs, h => by
    unfold wipeE at h
    by_cases hi : v = i
    · subst hi
      rw [List.getElem?_set] at h
      split at h
      · split at h
        · cases h
          exact .inl rfl
        · cases h
      · rename_i z
        exact absurd rfl z
    · rw [List.getElem?_set_ne hi] at h
      rcases wipeE_get h with h | ⟨h1, h2⟩
      · exact .inl h
      · refine .inr ⟨h1, fun z => ?_⟩
        rcases List.mem_cons.mp z with z | z
        · exact hi z.symm
        · exact h2 z
section
variable {A : Amb} {F : Fx} {P : List (Nat × Addr)} {σ σ' : L2.St} {G H : Hp} {ρ : E}
theorem wipe_get {σ : L2.St} {i : Nat} : ∀ {vs : List Nat}, i ∉ vs → (L2.wipe σ vs)[i]? = σ[i]? := fun {vs} h => L2.wipe_out h
theorem EnvG.wipe (e : EnvG A F P σ G H ρ) {vs : List Nat} (h : okSlots ρ vs = true) : EnvG A F P (L2.wipe σ vs) G H (wipeE ρ vs) := by
  have np : ∀ i ∈ vs, ∀ l, (i, l) ∉ P := fun i hi => okSlot_pin e (List.all_eq_true.mp h i hi)
  induction vs with
  | nil => exact e
  | cons v vs ih =>
    have h2 : okSlots ρ vs = true := by
      unfold okSlots at h ⊢
      rw [List.all_cons, Bool.and_eq_true] at h
      exact h.2
    exact (ih h2 fun i hi => np i (List.mem_cons_of_mem _ hi)).forget (np v (List.mem_cons_self ..)) none
/-- where the slots that are told agree -/
theorem EnvG.agree (e : EnvG A F P σ G H ρ) (hl : σ'.length = σ.length) (h : ∀ (i : Nat) s, ρ[i]? = some s → s ≠ .no → σ'[i]? = σ[i]?) : EnvG A F P σ' G H ρ where
  fr := e.fr
  gg := e.gg
  gh := e.gh
  gn := e.gn
  ca := e.ca
  len := e.len.trans hl.symm
  val := fun i d q => by
    obtain ⟨v, h1, h2⟩ := e.val i d q
    exact ⟨v, (h i _ q (by simp)).trans h1, h2⟩
  cel := fun i p c q => by
    obtain ⟨l, h1, h2⟩ := e.cel i p c q
    exact ⟨l, (h i _ q (by simp)).trans h1, h2⟩
  ap := fun i j p q c c' l h1 h2 h3 h4 => e.ap i j p q c c' l h1 h2 ((h i _ h1 (by simp)).symm.trans h3) ((h j _ h2 (by simp)).symm.trans h4)
  pin := fun i l m => by
    obtain ⟨h1, c, h2⟩ := e.pin i l m
    exact ⟨(h i _ h2 (by simp)).trans h1, c, h2⟩
  err := fun i x q => by
    obtain ⟨a, cls, d, h1, h2, h3⟩ := e.err i x q
    exact ⟨a, cls, d, h1, (h i _ q (by simp)).trans h2, h3⟩
theorem wipe_len (σ : L2.St) (vs : List Nat) : (L2.wipe σ vs).length = σ.length := L2.wipe_length σ vs
/-- out of the block: the def's slots as they were, the block's own unknown -/
theorem EnvG.unwipe {σ2 : L2.St} (e : EnvG A F P σ2 G H ρ) {vs : List Nat} (h : okSlots ρ vs = true) (hw : L2.wipe σ2 vs = L2.wipe σ vs) : EnvG A F P (L2.wipe σ vs) G H (wipeE ρ vs) := by
  rw [← hw]
  exact e.wipe h
theorem EnvG.outer (e : EnvG A F P (L2.wipe σ vs) G H ρ) (h : ∀ (i : Nat) s, ρ[i]? = some s → s ≠ .no → i ∉ vs) : EnvG A F P σ G H ρ :=
  e.agree (wipe_len σ vs).symm fun i s q n => (wipe_get (h i s q n)).symm
end
/-- a target whose slots are the block's own -/
def CompTg (A : Amb) (Y : Yc) (vs : List Nat) (t : Tg) (g : TG) : Prop := ∀ F P σ G H ρ x v ρ' (Q : L2.St → Hp → Prop), F.er = Y.er → EnvG A F P σ G H ρ → RfOk A F σ G H ρ v x → t x ρ = some ρ' → (∀ σ' G' H', Same G G' → EnvG A F P σ' G' H' ρ' → L2.wipe σ' vs = L2.wipe σ vs → Q σ' H') → g v σ H Q
def CompTgs (A : Amb) (Y : Yc) (vs : List Nat) (t : Tgs) (g : TGs) : Prop := ∀ F P σ G H ρ ds us ρ' (Q : L2.St → Hp → Prop), F.er = Y.er → EnvG A F P σ G H ρ → Ims A G us ds → t ds ρ = some ρ' → (∀ σ' G' H', Same G G' → EnvG A F P σ' G' H' ρ' → L2.wipe σ' vs = L2.wipe σ vs → Q σ' H') → g us σ H Q
theorem wipe_in : ∀ {vs : List Nat} {σ : L2.St} {j : Nat}, j ∈ vs → (L2.wipe σ vs)[j]? = if j < σ.length then some none else none := by
  intro vs
  induction vs with
  | nil =>
    intro σ j h
    cases h
  | cons v vs ih =>
    intro σ j h
    show ((L2.wipe σ vs).set v none)[j]? = _
    by_cases hv : v = j
    · subst hv
      rw [List.getElem?_set, if_pos rfl, wipe_len]
    · rw [List.getElem?_set_ne hv]
      exact ih (by
        rcases List.mem_cons.mp h with z | z
        · exact absurd z.symm hv
        · exact z)
theorem wipe_set {σ : L2.St} {i : Nat} {o : Option V} {vs : List Nat} (hi : i ∈ vs) : L2.wipe (σ.set i o) vs = L2.wipe σ vs := by
  apply List.ext_getElem?
  intro j
  by_cases hj : j ∈ vs
  · rw [wipe_in hj, wipe_in hj, List.length_set]
  · rw [wipe_get hj, wipe_get hj, List.getElem?_set_ne fun z => hj (by rw [← z]; exact hi)]
theorem wipe_idem (σ : L2.St) (vs : List Nat) : L2.wipe (L2.wipe σ vs) vs = L2.wipe σ vs := by
  apply List.ext_getElem?
  intro j
  by_cases hj : j ∈ vs
  · rw [wipe_in hj, wipe_in hj, wipe_len]
  · rw [wipe_get hj]
theorem comp_name {A : Amb} {Y : Yc} {i : Nat} {vs : List Nat} (hi : i ∈ vs) : CompTg A Y vs (tgName i) (gName i) := fun F P σ G H ρ x v ρ' Q er e ro hm hQ => by
  obtain ⟨G', s, e'⟩ := tgName_ok e ro hm
  exact hQ _ G' H s e' (wipe_set hi)
theorem comps_nil {A : Amb} {Y : Yc} {vs : List Nat} : CompTgs A Y vs tgNil gNil := fun F P σ G H ρ ds us ρ' Q er e ro hm hQ => by
  cases ro with
  | nil =>
    cases hm
    exact ⟨rfl, hQ σ G H (Same.refl G) e rfl⟩
  | cons _ _ => cases hm
theorem comps_cons {A : Amb} {Y : Yc} {vs : List Nat} {t : Tg} {g : TG} {u : Tgs} {h : TGs} (h1 : CompTg A Y vs t g) (h2 : CompTgs A Y vs u h) : CompTgs A Y vs (tgCons t u) (gCons g h) := fun F P σ G H ρ ds us ρ' Q er e ro hm hQ => by
  cases ro with
  | nil => cases hm
  | @cons v d us ds ho r =>
    unfold tgCons at hm
    simp only at hm
    cases q : t (.dat d) ρ with
    | none =>
      rw [q] at hm
      cases hm
    | some ρ1 =>
      rw [q] at hm
      exact ⟨v, us, rfl, h1 F P σ G H ρ (.dat d) v ρ1 _ er e ho q fun σ1 G1 H1 s1 e1 w1 => h2 F P σ1 G1 H1 ρ1 ds us ρ' Q er e1 (r.mono s1) hm fun σ2 G2 H2 s2 e2 w2 => hQ σ2 G2 H2 (s1.trans s2) e2 (w2.trans w1)⟩
theorem comp_tup {A : Amb} {Y : Yc} {vs : List Nat} {n : Nat} {u : Tgs} {h : TGs} (hu : CompTgs A Y vs u h) : CompTg A Y vs (tgTup n u) (gTup A.K n h) := fun F P σ G H ρ x v ρ' Q er e ro hm hQ => by
  cases x with
  | cel i => cases hm
  | new ds => cases hm
  | dat d =>
    unfold tgTup at hm
    cases q : d.unp with
    | none =>
      simp only [q] at hm
      cases hm
    | some ds =>
      simp only [q] at hm
      by_cases hl : ds.length = n
      · rw [if_pos hl] at hm
        obtain ⟨a, us, rfl, h, r⟩ := Im.unp (show Im A G v d from ro) q
        exact ⟨_, _, rfl, same_sqT e.gh h, r.length.trans hl, hu F P σ G H ρ ds _ ρ' Q er e r hm hQ⟩
      · rw [if_neg hl] at hm
        cases hm
/-- the turns of a comprehension -/
def compL (t : Tg) (tt : M Bool) (el : M Rf) (vs : List Nat) : List D → E → Option (List D × E)
  | [], ρ => some ([], ρ)
  | d :: ds, ρ => match t (.dat d) ρ with
    | none => none
    | some ρ1 => match tt ρ1 with
      | some (.ok true ρ2) => match el ρ2 with
        | some (.ok x ρ3) => match frz (stl x) ρ3 with
          | some (.ok e ρ4) => if okSlots ρ4 vs = true then (match compL t tt el vs ds (wipeE ρ4 vs) with
            | some (es, ρ5) => some (e :: es, ρ5)
            | none => none) else none
          | _ => none
        | _ => none
      | some (.ok false ρ2) => if okSlots ρ2 vs = true then compL t tt el vs ds (wipeE ρ2 vs) else none
      | _ => none
def eComp (mi : M (List D)) (t : Tg) (tt : M Bool) (el : M Rf) (vs : List Nat) : M Rf := bindM mi fun ds ρ => if okSlots ρ vs = true then (match compL t tt el vs ds (wipeE ρ vs) with
  | some (es, ρ') => if es.length ≤ sizeLine then some (.ok (.new es) ρ') else none
  | none => none) else none
def tTrue : M Bool := pureM true
theorem no_of_wipe {ρ : E} {vs : List Nat} : ∀ (i : Nat) s, (wipeE ρ vs)[i]? = some s → s ≠ .no → i ∉ vs := fun i s q n => by
  rcases wipeE_get q with h | h
  · exact absurd h n
  · exact h.2
theorem compL_no {t : Tg} {tt : M Bool} {el : M Rf} {vs : List Nat} : ∀ {ds : List D} {ρ : E} {es : List D} {ρ' : E}, (∀ (i : Nat) s, ρ[i]? = some s → s ≠ .no → i ∉ vs) → compL t tt el vs ds ρ = some (es, ρ') → ∀ (i : Nat) s, ρ'[i]? = some s → s ≠ .no → i ∉ vs
  | [], ρ, es, ρ', h, hm => by
    cases hm
    exact h
  | d :: ds, ρ, es, ρ', h, hm => by
    unfold compL at hm
    split at hm
    · cases hm
    · split at hm
      · split at hm
        · split at hm
          · split at hm
            · split at hm
              · rename_i q
                cases hm
                exact compL_no no_of_wipe q
              · cases hm
            · cases hm
          · cases hm
        · cases hm
      · split at hm
        · exact compL_no no_of_wipe hm
        · cases hm
      · cases hm
end Z

set_option Elab.async false
set_option linter.all false
set_option maxRecDepth 100000
set_option maxHeartbeats 4000000
/-! ZH: comprehensions; raise, try. -/
namespace Z
open PySem PySem.Spec PyProof.Rows L2

/-- the frame within a comprehension: its list at D stands as it is -/
abbrev Fx.sub (F : Fx) (D : Addr) (acc : List V) (G : Hp) : Fx := ⟨upd F.H D (.lst acc), G, F.C, F.er⟩
section
variable {A : Amb} {F : Fx} {P : List (Nat × Addr)} {σ : L2.St} {G G2 H H2 : Hp} {ρ : E} {D : Addr} {acc acc' : List V}
theorem EnvG.subIn (e : EnvG A F P σ G H ρ) (n : H D = none) : EnvG A (F.sub D acc G) P σ G (upd H D (.lst acc)) ρ := by
  have e' := e.more (same_new (o := .lst acc) n)
  have nF := e.free n
  refine ⟨fun a o hc q => ?_, Same.refl G, e'.gh, fun a o q => .inl q, e'.ca, e'.len, e'.val, fun i p c q => ?_, e'.ap, e'.pin, e'.err⟩
  · have q : upd F.H D (.lst acc) a = some o := q
    by_cases h : a = D
    · subst h
      rw [upd_same] at q ⊢
      exact q
    · rw [upd_ne h] at q
      exact e'.fr a o hc q
  · obtain ⟨l, h1, h2, h3, h4⟩ := e'.cel i p c q
    refine ⟨l, h1, h2, h3, ?_⟩
    cases p with
    | true => exact h4
    | false =>
      have h4 : F.H l = none := h4
      show upd F.H D (.lst acc) l = none
      have ne : l ≠ D := fun z => by
        obtain ⟨l', k1, k2, _⟩ := e.cel i false c q
        rw [h1] at k1
        cases k1
        obtain ⟨o, ho⟩ := k2.some
        rw [z, n] at ho
        cases ho
      rw [upd_ne ne]
      exact h4
theorem EnvG.subAt (e : EnvG A (F.sub D acc G) P σ G2 H2 ρ) (nC : D ∉ F.C) : H2 D = some (.lst acc) := e.fr D _ nC upd_same
theorem EnvG.subG (e : EnvG A (F.sub D acc G) P σ G2 H2 ρ) (g : G D = none) : G2 D = none := by
  cases q : G2 D with
  | none => rfl
  | some o =>
    rcases e.gn D o q with z | z
    · have z : G D = some o := z
      rw [g] at z
      cases z
    · have z : upd F.H D (.lst acc) D = none := z
      rw [upd_same] at z
      cases z
theorem EnvG.subRe (e : EnvG A (F.sub D acc G) P σ G2 H2 ρ) : EnvG A (F.sub D acc G2) P σ G2 H2 ρ :=
  ⟨e.fr, Same.refl G2, e.gh, fun a o q => .inl q, e.ca, e.len, e.val, e.cel, e.ap, e.pin, e.err⟩
theorem EnvG.subCel (e : EnvG A (F.sub D acc G) P σ G2 H2 ρ) (nC : D ∉ F.C) {i : Nat} {p : Bool} {c : Cell} (h : ρ[i]? = some (.cel p c)) : σ[i]? ≠ some (some (.ref D)) := fun z => by
  obtain ⟨l, h1, h2, h3, h4⟩ := e.cel i p c h
  rw [z] at h1
  cases h1
  cases p with
  | true => exact nC h4
  | false =>
    have h4 : upd F.H D (.lst acc) D = none := h4
    rw [upd_same] at h4
    cases h4
theorem EnvG.subPut (e : EnvG A (F.sub D acc G) P σ G2 H2 ρ) (g : G2 D = none) (nC : D ∉ F.C) : EnvG A (F.sub D acc' G2) P σ G2 (upd H2 D (.lst acc')) ρ where
  fr := fun a o hc q => by
    by_cases h : a = D
    · subst h
      have q : upd F.H a (.lst acc') a = some o := q
      rw [upd_same] at q ⊢
      exact q
    · have q : upd F.H D (.lst acc') a = some o := q
      rw [upd_ne h] at q ⊢
      exact e.fr a o hc (by show upd F.H D (.lst acc) a = some o; rw [upd_ne h]; exact q)
  gg := Same.refl G2
  gh := fun a o q => by
    have ne : a ≠ D := fun z => by
      rw [z, g] at q
      cases q
    rw [upd_ne ne]
    exact e.gh a o q
  gn := fun a o q => .inl q
  ca := fun a hc => by
    by_cases h : a = D
    · rw [h, upd_same]
      simp
    · rw [upd_ne h]
      exact e.ca a hc
  len := e.len
  val := e.val
  cel := fun i p c q => by
    obtain ⟨l, h1, h2, h3, h4⟩ := e.cel i p c q
    have ne : l ≠ D := fun z => e.subCel nC q (z ▸ h1)
    refine ⟨l, h1, h2.mono (Same.refl G2) (upd_ne ne), h3, ?_⟩
    cases p with
    | true => exact h4
    | false =>
      have h4 : upd F.H D (.lst acc) l = none := h4
      show upd F.H D (.lst acc') l = none
      rw [upd_ne ne] at h4 ⊢
      exact h4
  ap := e.ap
  pin := e.pin
  err := e.err
theorem EnvG.subOut (e : EnvG A (F.sub D acc G) P σ G2 H2 ρ) (nF : F.H D = none) (sg : Same F.G G) (gn : ∀ a o, G a = some o → F.G a = some o ∨ F.H a = none) : EnvG A F P σ G2 H2 ρ where
  fr := fun a o hc q => by
    have ne : a ≠ D := fun z => by
      rw [z, nF] at q
      cases q
    exact e.fr a o hc (by show upd F.H D (.lst acc) a = some o; rw [upd_ne ne]; exact q)
  gg := sg.trans e.gg
  gh := e.gh
  gn := fun a o q => by
    rcases e.gn a o q with z | z
    · exact gn a o z
    · refine .inr ?_
      by_cases h : a = D
      · rw [h]
        exact nF
      · have z : upd F.H D (.lst acc) a = none := z
        rw [upd_ne h] at z
        exact z
  ca := e.ca
  len := e.len
  val := e.val
  cel := fun i p c q => by
    obtain ⟨l, h1, h2, h3, h4⟩ := e.cel i p c q
    refine ⟨l, h1, h2, h3, ?_⟩
    cases p with
    | true => exact h4
    | false =>
      have h4 : upd F.H D (.lst acc) l = none := h4
      show F.H l = none
      by_cases h : l = D
      · rw [h]
        exact nF
      · rw [upd_ne h] at h4
        exact h4
  ap := e.ap
  pin := e.pin
  err := e.err
end
abbrev Yc.blk (Y : Yc) : Yc := ⟨fun _ _ _ _ => False, Y.er⟩
theorem lc_tail {A : Amb} {Y : Yc} {mi : M (List D)} {t : Tg} {g : TG} {tt : M Bool} {el : M Rf} {vs : List Nat} {σ : L2.St} {H : Hp} {Q : VK} (hg : CompTg A Y.blk vs t g) (h : tG A Y (relE A) (eComp mi t tt el vs) σ H Q) :
    tLc (tG A Y (relI A) mi) g (tG A Y.blk relB tt) (tG A Y.blk (relE A) el) vs σ H Q := by
  obtain ⟨F, P, G, ρ, r, er, e, hm, hp⟩ := h
  refine tG_bind (Re := relI A) er e hm hp fun G1 H1 ρ1 ds J s1 e1 ro hk => fun D nD => ?_
  by_cases hok : okSlots ρ1 vs = true
  · rw [if_pos hok] at hk
    cases hcl : compL t tt el vs ds (wipeE ρ1 vs) with
    | none =>
      rw [hcl] at hk
      cases hk
    | some res =>
      obtain ⟨es, ρe⟩ := res
      rw [hcl] at hk
      simp only at hk
      by_cases hz : es.length ≤ sizeLine
      · rw [if_pos hz] at hk
        cases hk
        have nC : D ∉ F.C := fun z => e1.ca D z nD
        have nF : F.H D = none := e1.free nD
        have nG : G1 D = none := e1.freeG nD
        refine ⟨fun i m H' => m = ds.length - i ∧ i ≤ ds.length ∧ ∃ G' ρi acc as rest, Same G1 G' ∧ G' D = none ∧ (∀ a o, G' a = some o → F.G a = some o ∨ F.H a = none) ∧ EnvG A (F.sub D acc G') P (L2.wipe σ vs) G' H' ρi ∧ Ims A G' acc as ∧
          compL t tt el vs (ds.drop i) ρi = some (rest, ρe) ∧ as ++ rest = es ∧ (∀ (i : Nat) s, ρi[i]? = some s → s ≠ .no → i ∉ vs),
          ⟨ds.length, by simp, Nat.zero_le _, G1, wipeE ρ1 vs, [], [], es, Same.refl G1, nG, e1.gn, (e1.wipe hok).subIn nD, .nil, hcl, rfl, no_of_wipe⟩, ?_⟩
        rintro i m H2 ⟨rfl, hi, G2, ρ2, acc, as, rest, s2, g2, gn2, e2, ia, hc, hes, hno⟩
        have sg2 : Same F.G G2 := e1.gg.trans s2
        by_cases hlt : i < ds.length
        · have hd : ds[i]? = some ds[i] := by simp [hlt]
          have hdrop : ds.drop i = ds[i] :: ds.drop (i + 1) := List.drop_eq_getElem_cons hlt
          rw [hdrop] at hc
          unfold compL at hc
          refine .inr ⟨ro.go i H2 (s2.trans e2.gh) hlt, fun H' => i + 1 ≤ ds.length ∧ ∃ G' ρi acc as rest, Same G1 G' ∧ G' D = none ∧ (∀ a o, G' a = some o → F.G a = some o ∨ F.H a = none) ∧ EnvG A (F.sub D acc G') P (L2.wipe σ vs) G' H' ρi ∧ Ims A G' acc as ∧
            compL t tt el vs (ds.drop (i + 1)) ρi = some (rest, ρe) ∧ as ++ rest = es ∧ (∀ (i : Nat) s, ρi[i]? = some s → s ≠ .no → i ∉ vs), fun H' h => ⟨ds.length - (i + 1), by omega, rfl, h.1, h.2⟩, fun x H3 y => ?_⟩
          obtain ⟨G3, s3, e3, im⟩ := ro.turn s2 e2 hd y
          cases q : t (.dat ds[i]) ρ2 with
          | none =>
            rw [q] at hc
            cases hc
          | some ρ3 =>
            rw [q] at hc
            simp only at hc
            refine hg (F.sub D acc G2) P _ G3 H3 ρ2 (.dat ds[i]) x ρ3 _ er e3 im q fun σ4 G4 H4 s4 e4 w4 => ⟨w4.trans (wipe_idem σ vs), ?_⟩
            have w4 := w4.trans (wipe_idem σ vs)
            cases qt : tt ρ3 with
            | none =>
              rw [qt] at hc
              cases hc
            | some rt =>
              rw [qt] at hc
              cases rt with
              | ex x ρ5 => cases hc
              | ok b ρ5 =>
                refine ⟨F.sub D acc G2, P, G4, ρ3, .ok b ρ5, er, e4, qt, fun b' G5 H5 s5 e5 hb => ?_⟩
                have hb : b' = b := hb
                subst hb
                -- the turn's end without an item
                have back : ∀ {G' H' ρ'}, EnvG A (F.sub D acc G2) P σ4 G' H' ρ' → okSlots ρ' vs = true → Same G2 G' ∧ G' D = none ∧ (∀ a o, G' a = some o → F.G a = some o ∨ F.H a = none) ∧ EnvG A (F.sub D acc G') P (L2.wipe σ vs) G' H' (wipeE ρ' vs) := fun {G' H' ρ'} e' ho => by
                  have w := e'.unwipe ho w4
                  exact ⟨e'.gg, e'.subG g2, (e'.subOut nF sg2 gn2).gn, w.subRe⟩
                cases b' with
                | false =>
                  dsimp only
                  rw [if_neg Bool.false_ne_true]
                  simp only at hc
                  by_cases ho : okSlots ρ5 vs = true
                  · rw [if_pos ho] at hc
                    obtain ⟨b1, b2, b3, b4⟩ := back e5 ho
                    exact ⟨hlt, G5, _, acc, as, rest, s2.trans b1, b2, b3, b4, ia.mono b1, hc, hes, no_of_wipe⟩
                  · rw [if_neg ho] at hc
                    cases hc
                | true =>
                  dsimp only
                  rw [if_pos rfl]
                  simp only at hc
                  cases qe : el ρ5 with
                  | none =>
                    rw [qe] at hc
                    cases hc
                  | some re =>
                    rw [qe] at hc
                    cases re with
                    | ex x ρ6 => cases hc
                    | ok x1 ρ6 =>
                      simp only at hc
                      refine ⟨F.sub D acc G2, P, G5, ρ5, .ok x1 ρ6, er, e5, qe, fun v G6 H6 s6 e6 ro6 => ?_⟩
                      obtain ⟨G7, s7, e7, so7⟩ := settle e6 ro6
                      cases qf : frz (stl x1) ρ6 with
                      | none =>
                        rw [qf] at hc
                        cases hc
                      | some rf =>
                        obtain ⟨d, ρ7, G8, rfl, s8, e8, im8⟩ := frz_ok e7 so7 qf
                        rw [qf] at hc
                        simp only at hc
                        by_cases ho : okSlots ρ7 vs = true
                        · rw [if_pos ho] at hc
                          cases hr : compL t tt el vs (ds.drop (i + 1)) (wipeE ρ7 vs) with
                          | none =>
                            rw [hr] at hc
                            cases hc
                          | some res =>
                            obtain ⟨rest2, ρf⟩ := res
                            rw [hr] at hc
                            cases hc
                            obtain ⟨b1, b2, b3, b4⟩ := back e8 ho
                            have hl : acc.length < sizeLine := by
                              have z : (as ++ d :: rest2).length ≤ sizeLine := by rw [hes]; exact hz
                              rw [List.length_append, List.length_cons, ← ia.length] at z
                              omega
                            refine ⟨acc, e8.subAt nC, hl, hlt, G8, _, acc ++ [v], as ++ [d], rest2, s2.trans b1, b2, b3, b4.subPut b2 nC, (ia.mono b1).append (.one im8), hr, by rw [← hes]; simp, no_of_wipe⟩
                        · rw [if_neg ho] at hc
                          cases hc
        · have ei : i = ds.length := by omega
          subst ei
          rw [List.drop_length] at hc
          cases hc
          refine .inl ⟨ro.stop H2 (s2.trans e2.gh), ?_⟩
          rw [List.append_nil] at hes
          subst hes
          have e9 := (e2.subOut nF sg2 gn2).outer hno
          refine hp (.ref D) G2 H2 (s1.trans s2) e9 ⟨D, acc, rfl, e2.subAt nC, g2, nF, ia, fun j p c z y => ?_⟩
          have hj := hno j _ z (by simp)
          exact e2.subCel nC z (by rw [wipe_get hj]; exact y)
      · rw [if_neg hz] at hk
        cases hk
  · rw [if_neg hok] at hk
    cases hk
end Z

set_option Elab.async false
set_option linter.all false
set_option maxRecDepth 100000
set_option maxHeartbeats 4000000
/-! ZI: comprehensions as expressions and stores; raise; try. -/
namespace Z
open PySem PySem.Spec PyProof.Rows L2
section
variable {X : Cx} {Y : Yc} {elt tg iter c : Expr} {ifs : List Expr} {scope : Scope} {own : List (Str × Nat)} {pos spos py : Pos} {mi : M (List D)} {t : Tg} {g : TG} {tt : M Bool} {el : M Rf}
def DTs (X : Cx) (Y : Yc) (ifs : List Expr) (m : M Bool) : Prop := PTs X ifs (tG (amb X) Y relB m)
theorem dts_nil : DTs X Y [] tTrue := ⟨fun pins s σ H Q I ⟨F, P, G, ρ, r, er, e, hm, hp⟩ => pts_nil.run pins s σ H Q I (by
  cases hm
  exact hp true G H (Same.refl G) e rfl)⟩
theorem dts_one (h : DT X Y c tt) : DTs X Y [c] tt := pts_one h
theorem de_comp (hc : X.calm = true) (hN : X.N.Nodup) (hi : DI X Y tg iter mi) (ok : BlkOk X.N X.env.scope scope own)
    (hg : ∀ (s : Shared) (H : Hp) (C : Addr) (cl : List (Str × Addr)) (fp : List Addr), PG (X.blk s H scope (compEnvC scope cl C X.env) fp) tg g) (hcg : CompTg (amb X) Y.blk (own.map (·.2)) t g)
    (ht : ∀ (s : Shared) (H : Hp) (C : Addr) (cl : List (Str × Addr)) (fp : List Addr), DTs (X.blk s H scope (compEnvC scope cl C X.env) fp) Y.blk ifs tt)
    (he : ∀ (s : Shared) (H : Hp) (C : Addr) (cl : List (Str × Addr)) (fp : List Addr), DE (X.blk s H scope (compEnvC scope cl C X.env) fp) Y.blk elt el) (hs : ∀ x, foldedSetIterable iter X.env x = pure x := by intro _; rfl) :
    DE X Y (.ListComp elt [⟨tg, iter, ifs, 0⟩] scope pos) (eComp mi t tt el (own.map (·.2))) := PE.weak (pe_lc (tt := tG (amb X) Y.blk relB tt) (te := tG (amb X) Y.blk (relE (amb X)) el) hc hN hi ok hg (fun s H C cl fp => (ht s H C cl fp : PTs _ _ _)) (fun s H C cl fp => (he s H C cl fp : PE _ _ _)) hs) fun _ _ _ h => lc_tail hcg h
theorem ds_setComp {i : Nat} {y : Str} (hc : X.calm = true) (hN : X.N.Nodup) (hy : X.N[i]? = some y) (hyl : X.env.scope.names.lookup y = some .local) (hsw : swapsWith (.ListComp elt [⟨tg, iter, ifs, 0⟩] scope pos) (some (.Name y py)) spos.line X.env = pure true)
    (hi : DI X Y tg iter mi) (ok : BlkOk X.N X.env.scope scope own)
    (hg : ∀ (s : Shared) (H : Hp) (C : Addr) (cl : List (Str × Addr)) (fp : List Addr), PG (X.blk s H scope (compEnvC scope cl C X.env) fp) tg g) (hcg : CompTg (amb X) Y.blk (own.map (·.2)) t g)
    (ht : ∀ (s : Shared) (H : Hp) (C : Addr) (cl : List (Str × Addr)) (fp : List Addr), DTs (X.blk s H scope (compEnvC scope cl C X.env) fp) Y.blk ifs tt)
    (he : ∀ (s : Shared) (H : Hp) (C : Addr) (cl : List (Str × Addr)) (fp : List Addr), DE (X.blk s H scope (compEnvC scope cl C X.env) fp) Y.blk elt el) (hs : ∀ x, foldedSetIterable iter X.env x = pure x := by intro _; rfl) :
    DS X Y (.Assign [.Name y py] (.ListComp elt [⟨tg, iter, ifs, 0⟩] scope pos) spos) (sAsg (eComp mi t tt el (own.map (·.2))) (tgName i)) :=
  PS.weak (ps_setLc (tt := tG (amb X) Y.blk relB tt) (te := tG (amb X) Y.blk (relE (amb X)) el) hc hN hy hyl hsw hi ok hg (fun s H C cl fp => (ht s H C cl fp : PTs _ _ _)) (fun s H C cl fp => (he s H C cl fp : PE _ _ _)) hs) fun D σ H h => lc_tail hcg (asg_tail (g := gName i) (fun v σ H Q ⟨F, P, G, ρ, x, ρ', er, e, ro, hm, hQ⟩ => by
    obtain ⟨G', s, e'⟩ := tgName_ok e ro hm
    exact hQ _ G' H e') h)
end

/-! raise C(e), C an own class whose __init__ stores its one argument -/
def spI (K : PySem.W.Frag) (f : Str) : Sp := fun vs H Q _ => ∃ (a C : Addr) (y : V), vs = [.ref a, y] ∧ OexC K C ∧ PySem.W.findIn K (.ref C) f = some none ∧ H a = some (exo a C none) ∧ ∀ d, H d = none → d ≠ a → Q .non (upd (upd H d (exd d [(f, y)])) a (exo a C (some d)))
def spI2 (K : PySem.W.Frag) (f g : Str) : Sp := fun vs H Q _ => ∃ (a C : Addr) (y z : V), vs = [.ref a, y, z] ∧ OexC K C ∧ PySem.W.findIn K (.ref C) f = some none ∧ PySem.W.findIn K (.ref C) g = some none ∧ H a = some (exo a C none) ∧
  ∀ d, H d = none → d ≠ a → Q .non (upd (upd (upd H d (exd d [(f, y)])) a (exo a C (some d))) d (exd d [(g, z), (f, y)]))
section
variable {P : Program} {w : World} {K : PySem.W.Frag} {mg : Str → Option Value} {base : Heap}
/-- its __init__ keeps the promise -/
theorem ok_init1 {f : Addr} {fd : FuncData} {st : Stmt} {qual s1 s2 : Str} {p1 p2 p3 p4 : Pos} {fl : Str} (F : Fun K "__init__" qual st f fd) (S : FnScope [s1, s2] [s1, s2] (defScope st)) (hb : defBody st = [.Assign [.Attribute (.Name s1 p1) fl p2] (.Name s2 p3) p4])
    (h1 : (defScope st).names.lookup s1 = some .local) (h2 : (defScope st).names.lookup s2 = some .local) (d1 : (s1 == ("__debug__" : Str)) = false) (d2 : (s2 == ("__debug__" : Str)) = false) (c1 : (s1 == ("__classdict__" : Str)) = false) (c2 : (s2 == ("__classdict__" : Str)) = false) :
    FnOk P w K mg base L2.CX0 1 f fd [s1, s2] (spI K fl) := by
  refine F.ok S (fun vs H Q E h => ?_) (fun cdv A outer s H vs Q E hr h => ?_)
  · obtain ⟨a, C, y, rfl, _⟩ := h
    rfl
  · obtain ⟨a, C, y, rfl, T, hn, ha, k⟩ := h
    rw [hb]
    refine ⟨_, pss_one (ps_ost (pe_var (i := 0) rfl (.inl h1) d1 c1) (pe_var (i := 1) rfl (.inl h2) d2 c2) rfl), ?_⟩
    exact ⟨_, rfl, _, rfl, a, C, rfl, T, hn, .inl ⟨ha, fun d n ne => k d n ne⟩⟩
end
def sRaise (c : Str) (ns : List Str) (ms : M (List Rf)) : S := liftS ms fun xs => liftS (frzs xs) fun ds ρ => if ds.length = ns.length then some (.ex ⟨c, ns, ds⟩ ρ) else none
theorem liftS_frzs {A : Amb} {F : Fx} {P : List (Nat × Addr)} {σ : L2.St} {G H : Hp} {ρ : E} {vs : List V} {xs : List Rf} {k : List D → S} {o : O} (e : EnvG A F P σ G H ρ) (h : SOks A σ G vs xs) (hm : liftS (frzs xs) k ρ = some o) :
    ∃ ds ρ' G', k ds ρ' = some o ∧ Same G G' ∧ EnvG A F P σ G' H ρ' ∧ Ims A G' vs ds := by
  cases q : frzs xs ρ with
  | none =>
    rw [liftS_none q] at hm
    cases hm
  | some r =>
    obtain ⟨ds, ρ', G', rfl, s, e', im⟩ := frzs_ok e h q
    rw [liftS_ok q] at hm
    exact ⟨ds, ρ', G', hm, s, e', im⟩
section
variable {X : Cx} {Y : Yc} {x : Str} {p pos pos2 : Pos} {a : Expr} {ms : M (List Rf)}
theorem ds_raise1 {C fI : Addr} {k : Nat} {fd : FuncData} {ps : List Str} {f : Str} (hc : X.calm = true) (T : OexC X.K C) (hno : PySem.W.findIn X.K (.ref C) f = some none) (iC : PySem.W.findIn X.K (.ref C) "__init__" = some (some (.ref fI))) (tI : PySem.W.typeIn X.K (.ref fI) = some (.type "function"))
    (F1 : FnOk X.prog X.w X.K X.mg X.base L2.CX0 k fI fd ps (spI X.K f)) (hr : Room (k + 1) X.A) (hb : Binds X.K fd ps []) (hm : X.mg x = some (.ref C)) (tk : Takes X Y.W) (ha : DA X Y [a] ms) (hg : Gl X x := by rfl)
    (hdb : (x == ("__debug__" : Str)) = false := by decide) (he : starEach (a :: []) X.env = (false, eval a X.env) :: starEach [] X.env := by rfl) (hpl : (backTo pos (starEach [] X.env)).any (·.1) = false := by rfl) :
    DS X Y (.Raise (some (.Call (.Name x p) [a] [] pos)) none pos2) (sRaise x [f] ms) :=
  PS.weak (ps_raise hc tk (pmk_oex (dvs := []) T iC tI F1 hr hb .nil pass0 hg hm ha hdb he hpl)) fun D σ H ⟨F, P, G, ρ, o, er, e, hm0, hp⟩ => tS_bind (Re := relA (amb X)) er e hm0 hp fun G1 H1 ρ1 xs vs s1 e1 so hk => by
    obtain ⟨ds, ρ2, G2, hk2, s2, e2, im⟩ := liftS_frzs e1 so hk
    by_cases hl : ds.length = [f].length
    · rw [if_pos hl] at hk2
      cases hk2
      match ds, hl with
      | [d0], _ =>
      cases im with
      | @cons v d vs ds i1 i2 =>
      cases i2
      refine ⟨by simp, fun a0 n0 => ⟨a0, C, v, rfl, T, hno, upd_same, fun dx nd ne => ⟨rfl, dx, [(f, v)], upd_same, ?_, ?_, ?_⟩⟩⟩
      · rw [upd_ne ne, upd_same]
      · rw [upd_ne ne] at nd
        exact nd
      · rw [upd_ne ne] at nd
        have eq : upd (del (upd (upd (upd H1 a0 (exo a0 C none)) dx (exd dx [(f, v)])) a0 (exo a0 C (some dx))) a0) dx (.xd [(f, v)]) = upd H1 dx (.xd [(f, v)]) := by
          funext b
          by_cases h : b = dx
          · rw [h, upd_same, upd_same]
          · rw [upd_ne h, upd_ne h]
            unfold del
            by_cases h2 : b = a0
            · rw [if_pos h2, h2, n0]
            · rw [if_neg h2, upd_ne h2, upd_ne h, upd_ne h2]
        rw [eq]
        obtain ⟨e3, s3⟩ := e2.new (o := .xd [(f, v)]) nd
        exact hp (.ref C) (some dx) σ _ _ e3 ⟨C, hm, rfl, .inr ⟨dx, [(f, v)], rfl, upd_same, rfl, .cons (i1.mono s3) .nil⟩⟩
    · rw [if_neg hl] at hk2
      cases hk2
end
end Z

set_option Elab.async false
set_option linter.all false
set_option maxRecDepth 100000
set_option maxHeartbeats 4000000
/-! ZJ: try with clauses of both kinds; the caught one's fields. -/
namespace Z
open PySem PySem.Spec PyProof.Rows L2

abbrev offE (D : Ends) (i : Nat) : Ends := ⟨fun t h => D.nx (t.set i none) h, D.rt, fun t h => D.bk (t.set i none) h, fun t h => D.ct (t.set i none) h⟩
abbrev Hm := Value × Option Nat × (Addr → Value → Option Addr → TS)
def wMx (K : PySem.W.Frag) (Wo : WX) (D : Ends) : List Hm → WX
  | [] => Wo
  | (c, none, ts) :: r => fun cls d σ H =>
    ∃ b, PySem.W.exmOne K cls c = some b ∧ (b = true → ∀ x, H x = none → ts x cls d D σ H) ∧ (b = false → wMx K Wo D r cls d σ H)
  | (c, some i, ts) :: r => fun cls d σ H =>
    ∃ b, PySem.W.exmOne K cls c = some b ∧ (b = true → ∀ x, H x = none → ts x cls d (offE D i) (σ.set i (some (.ref x))) H) ∧ (b = false → wMx K Wo D r cls d σ H)
abbrev SuOk (X : Cx) (su : List Stmt) (ts : Addr → Value → Option Addr → TS) : Prop :=
  ∀ (x : Addr) (ox : Obj) (cls : Value) (d : Option Addr) (pn : List (Addr × Obj)), Zc cls d ox → (∃ vs, ox.data = .fields vs) → PSs (X.suite x ((x, ox) :: pn)) su (ts x cls d)
inductive HdMx (X : Cx) : List ExceptHandler → List Hm → Prop
  | nil : HdMx X [] []
  | plain {x : Str} {c : Value} {ts : Addr → Value → Option Addr → TS} {s0 : Stmt} {su : List Stmt} {p q : Pos} {hs : List ExceptHandler} {l : List Hm} (hc : Names X x c) (hsu : SuOk X (s0 :: su) ts) (r : HdMx X hs l) :
      HdMx X (.ExceptHandler (some (.Name x p)) none (s0 :: su) q :: hs) ((c, none, ts) :: l)
  | named {x n : Str} {i : Nat} {c : Value} {ts : Addr → Value → Option Addr → TS} {s0 : Stmt} {su : List Stmt} {p q : Pos} {hs : List ExceptHandler} {l : List Hm} (hc : Names X x c) (hi : X.N[i]? = some n) (hl : X.env.kindOf n = some .local) (hsu : SuOk X (s0 :: su) ts)
      (r : HdMx X hs l) : HdMx X (.ExceptHandler (some (.Name x p)) (some n) (s0 :: su) q :: hs) ((c, some i, ts) :: l)
section
variable {X : Cx} {bd : List Stmt} {k0 : ExceptHandler} {ks : List ExceptHandler} {l : List Hm} {pos : Pos} {tb : WX → TS} {Wo : WX}
theorem ps_tryMx (stk : X.stack = X.env :: X.outer) (hfr : X.env.frame = some X.env.locals) (nd : X.N.Nodup) (tk : Takes X Wo)
    (hb : ∀ (W : WX) (pn : List (Addr × Obj)) (xe : Value → Shared → Prop), Takes (X.tr pn xe) W → PassesOwn (model X.prog X.w) X.A X.env xe → PSs (X.tr pn xe) bd (tb W)) (hh : HdMx X (k0 :: ks) l) :
    PS X (.Try bd (k0 :: ks) [] [] pos) (fun D σ H => tb (wMx X.K Wo D l) D σ H) := by
  refine ⟨fun pins s σ H D I goal => ?_⟩
  have ok := I.ok
  have frs_ : X.A.frames = some (X.env :: X.outer) := by rw [ok.frames, stk]
  apply wpAny_Try_except
  refine wpAny_mono ((hb (wMx X.K Wo D l) (X.pn ++ pins) (fun u t1 => wpAny (model X.prog X.w) X.A (noteFrame u X.env)
      (fun _ t2 => wpAny (model X.prog X.w) X.A (setFlight u none)
        (fun _ t3 => wpAny (model X.prog X.w) X.A (handleBy u X.env (k0 :: ks)) (SP X pins D) X.xe t3) X.xe t2) X.xe t1)
    (fun u t' caught => ?_) PassesOwn.looking).run [] s σ H D (I.toTry _) goal) (fun f t1 ended => ?_) (fun _ _ z => z)
  · obtain ⟨x, B, sI, pins', σ', H', cls, d, rfl, J0, nb, up, sky, nx, os, ag, wish⟩ := caught
    have J : Inv X pins σ' H' sI := J0.ofTry ok
    have sky2 : Sky B (X.env :: X.outer) x (Zc cls d) X.env.locals t'.heap := by
      rw [← stk]
      exact sky
    show wpAny (model X.prog X.w) X.A (noteFrame (.ref x) X.env) _ _ _
    refine Sky.land Zc.steady frs_ hfr sky2 fun g3 fly up3 => ?_
    have J3 : Inv X pins σ' H' { t' with heap := g3 } := J.landed nb fly.1 (up.trans up3) os ag
    obtain ⟨ox, vs, hox, hz, hdat⟩ := fly.there
    have out : ∀ {g : Heap} {o : Obj} {us : Array Value}, g.FunFrames B (X.env :: X.outer) → g.get? x = some o → o.data = .fields us → x ∉ frs (X.env :: X.outer) := by
      intro g o us ff e1 e2 m
      obtain ⟨_, o2, e3, nf⟩ := ff.mem m
      rw [e1] at e3
      cases e3
      exact nf _ e2
    have nfr := out fly.2.2.1 hox hdat
    have nL : x ≠ X.env.locals := fun z => nfr (List.mem_filterMap.mpr ⟨X.env, .head _, by rw [hfr, z]⟩)
    have nF : x ∉ X.fs := fun m => by
      obtain ⟨e, he, q⟩ := List.mem_filterMap.mp m
      exact nfr (List.mem_filterMap.mpr ⟨e, .tail _ he, q⟩)
    have S3 := J3.suite hox hdat nx nL nF
    have test : ∀ {y : Str} {c : Value} {p : Pos} {Q : Value → Shared → Prop} {U : Value → Shared → Prop}, Names X y c → Q c { t' with heap := g3 } → wpAny (model X.prog X.w) (X.A.mark (some (.ref x))) (eval (.Name y p) X.env) Q U { t' with heap := g3 } := by
      rintro y c p Q U ⟨gl, nd, m | ⟨m, bt, nn⟩⟩ hq
      · exact ld_glob (X := X.suite x ((x, ox) :: (X.pn ++ pins))) S3 gl m hq nd
      · exact ld_blt (X := X.suite x ((x, ox) :: (X.pn ++ pins))) S3 gl m bt hq nn nd
    have LT : PySem.W.Looks (model X.prog X.w) g3 (typeOf (.ref x)) cls := fun _ _ _ _ k q => wpAny_typeOf_ref (k _ _ hox) (by rw [hz.1]; exact q)
    have go : ∀ {ks' : List ExceptHandler} {l' : List Hm}, HdMx X ks' l' → wMx X.K Wo D l' cls d σ' H' →
        wpAny (model X.prog X.w) X.A (handleBy (.ref x) X.env ks') (SP X pins D) X.xe { t' with heap := g3 } := by
      intro ks' l' hk
      induction hk with
      | nil =>
        intro w
        apply wpAny_handleBy_nil
        obtain ⟨k1, k2, k3, oe, us, T, oT, ts', he, hz1, hd1, h1, hr⟩ := id fly
        unfold PySem.passOn
        refine wpAny_bind (wpAny_field he hd1 h1 ?_)
        rw [if_neg (show ¬ ((Value.ref T == Value.none) = true) by simp)]
        have fin : wpAny (model X.prog X.w) X.A (setFlight (.ref x) X.env.frame) (fun _ t4 => wpAny (model X.prog X.w) X.A (throw (.ref x) : Sem Flow)
            (SP X pins D) X.xe t4) X.xe { t' with heap := g3 } := by
          rw [hfr]
          refine HandSPX.setFlight_upZ fly fun g4 hh4 up4 => wpAny_throw (tk _ _ ?_)
          exact ⟨x, B, sI, pins, σ', H', cls, d, rfl, J, nb, (up.trans up3).trans up4, .inr (.inr (by rw [stk]; exact hh4)), nx, os, ag, w⟩
        first
          | exact wpAny_bind (wpAny_pure (wpAny_bind fin))
          | exact wpAny_bind fin
      | @plain y c ts s0 su p q hs2 l2 hc hsu r ih =>
        rintro ⟨b, hb1, yes, no⟩
        refine wpAny_handleBy_cons (codeAny_handlers_test ?_) (by intro q; cases q)
        refine test hc ((PySem.W.exm_one (M := model X.prog X.w) J3.kIn LT hb1).here ?_)
        cases b with
        | false =>
          show wpAny _ X.A (handleBy (.ref x) X.env hs2) _ _ _
          exact ih (no rfl)
        | true =>
          apply codeAny_handlers_suite
          refine HandSPX.lands_againZ fly fun g4 fly4 up4 => ?_
          have J4 : Inv X pins σ' H' { t' with heap := g4 } := J.landed nb fly4.1 ((up.trans up3).trans up4) os ag
          obtain ⟨o4, us4, e4, z4, d4⟩ := fly4.there
          refine wpAny_mono ((hsu x o4 cls d (X.pn ++ pins) z4 ⟨_, d4⟩).run [] _ _ H' _ (J4.suite e4 d4 nx nL nF) (yes rfl x nx)) (fun f t6 sp => ?_) (fun _ _ z => z.elim)
          cases f with
          | ret u =>
            obtain ⟨v6, σ6, H6, S6, r6, q6⟩ := sp
            exact ⟨v6, σ6, H6, S6.unsuite ok, r6, q6⟩
          | next =>
            obtain ⟨σ6, H6, S6, q6⟩ := sp
            exact ⟨σ6, H6, S6.unsuite ok, q6⟩
          | brk =>
            obtain ⟨σ6, H6, S6, q6⟩ := sp
            exact ⟨σ6, H6, S6.unsuite ok, q6⟩
          | cont =>
            obtain ⟨σ6, H6, S6, q6⟩ := sp
            exact ⟨σ6, H6, S6.unsuite ok, q6⟩
      | @named y n i c ts s0 su p q hs2 l2 hc hi hl hsu r ih =>
        rintro ⟨b, hb1, yes, no⟩
        refine wpAny_handleBy_cons (codeAny_handlers_test ?_) (by intro q; cases q)
        refine test hc ((PySem.W.exm_one (M := model X.prog X.w) J3.kIn LT hb1).here ?_)
        cases b with
        | false =>
          show wpAny _ X.A (handleBy (.ref x) X.env hs2) _ _ _
          exact ih (no rfl)
        | true =>
          apply codeAny_handlers_suite_as
          refine HandSPX.lands_againZ fly fun g4 fly4 up4 => ?_
          have J4 : Inv X pins σ' H' { t' with heap := g4 } := J.landed nb fly4.1 ((up.trans up3).trans up4) os ag
          obtain ⟨o4, us4, e4, z4, d4⟩ := fly4.there
          refine store_ok (X := X.suite x ((x, o4) :: (X.pn ++ pins))) (v := .ref x) (J4.suite e4 d4 nx nL nF) nd hi (.inl hl) rfl (fun t5 S5 => ?_) (.inr hl)
          refine wpAny_mono ((hsu x o4 cls d (X.pn ++ pins) z4 ⟨_, d4⟩).run [] t5 _ H' _ S5 (yes rfl x nx)) (fun f t6 sp => ?_) (fun _ _ z => z.elim)
          have over : ∀ {σ6 : L2.St} {H6 : Hp} {Q : Shared → Prop}, Inv (X.suite x ((x, o4) :: (X.pn ++ pins))) [] σ6 H6 t6 → (∀ t7, Inv X pins (σ6.set i none) H6 t7 → Q t7) →
              wpAny (model X.prog X.w) X.A (do bindName X.env n .none; unbindBehindTheSuite X.env n q) (fun _ t7 => Q t7) X.xe t6 := fun S6 hq => gone_ok (S6.unsuite ok) nd hi hl hq
          cases f with
          | ret u =>
            obtain ⟨v6, σ6, H6, S6, r6, q6⟩ := sp
            exact over S6 fun _ J7 => ⟨v6, _, H6, J7, r6, q6⟩
          | next =>
            obtain ⟨σ6, H6, S6, q6⟩ := sp
            exact over S6 fun _ J7 => ⟨_, H6, J7, q6⟩
          | brk =>
            obtain ⟨σ6, H6, S6, q6⟩ := sp
            exact over S6 fun _ J7 => ⟨_, H6, J7, q6⟩
          | cont =>
            obtain ⟨σ6, H6, S6, q6⟩ := sp
            exact over S6 fun _ J7 => ⟨_, H6, J7, q6⟩
    exact go hh wish
  · cases f with
    | ret u =>
      obtain ⟨v, σ', H', J', r, q⟩ := ended
      exact ⟨v, σ', H', J'.ofTry ok, r, q⟩
    | next =>
      obtain ⟨σ', H', J', q⟩ := ended
      exact wpAny_execs_nil ⟨σ', H', J'.ofTry ok, q⟩
    | brk =>
      obtain ⟨σ', H', J', q⟩ := ended
      exact ⟨σ', H', J'.ofTry ok, q⟩
    | cont =>
      obtain ⟨σ', H', J', q⟩ := ended
      exact ⟨σ', H', J'.ofTry ok, q⟩
end
end Z

set_option Elab.async false
set_option linter.all false
set_option maxRecDepth 100000
set_option maxHeartbeats 4000000
/-! ZK: the mirror of try. -/
namespace Z
open PySem PySem.Spec PyProof.Rows L2
section
variable {A : Amb} {F : Fx} {P : List (Nat × Addr)} {σ : L2.St} {G H : Hp} {ρ : E}
def noErr (ρ : E) : Bool := ρ.all fun s => match s with
  | .err _ => false
  | _ => true
theorem noErr_at {i : Nat} {x : Ex} (h : noErr ρ = true) (q : ρ[i]? = some (.err x)) : False := by
  have := List.all_eq_true.mp h _ (List.mem_of_getElem? q)
  cases this
theorem EnvG.reEr {z : Option (Addr × Value × Option Addr)} (e : EnvG A F P σ G H ρ) (h : ∀ (i : Nat) x, ρ[i]? ≠ some (.err x)) : EnvG A ⟨F.H, F.G, F.C, z⟩ P σ G H ρ :=
  ⟨e.fr, e.gg, e.gh, e.gn, e.ca, e.len, e.val, e.cel, e.ap, e.pin, fun i x q => absurd q (h i x)⟩
theorem EnvG.calm (e : EnvG A F P σ G H ρ) (hn : F.er = none) (i : Nat) (x : Ex) : ρ[i]? ≠ some (.err x) := fun q => by
  obtain ⟨_, _, _, h, _⟩ := e.err i x q
  rw [hn] at h
  cases h
/-- the caught one comes to slot i -/
theorem EnvG.catch {i : Nat} {a : Addr} {cls : Value} {d : Option Addr} {x : Ex} (e : EnvG A F P σ G H ρ) (hn : F.er = none) (hP : ∀ l, (i, l) ∉ P) (hx : ExAt A G cls d x) :
    EnvG A ⟨F.H, F.G, F.C, some (a, cls, d)⟩ P (σ.set i (some (.ref a))) G H (ρ.set i (.err x)) := by
  have f := (e.forget hP (some (.ref a))).reEr (z := some (a, cls, d)) ((e.forget hP (some (.ref a))).calm hn)
  have at_ : ∀ {j : Nat} {s : Sl}, (ρ.set i (.err x))[j]? = some s → (i = j ∧ s = .err x ∧ i < ρ.length) ∨ (i ≠ j ∧ (ρ.set i .no)[j]? = some s) := fun {j s} q => by
    by_cases hj : i = j
    · subst hj
      rw [List.getElem?_set] at q
      by_cases hl : i < ρ.length
      · rw [if_pos rfl, if_pos hl] at q
        cases q
        exact .inl ⟨rfl, rfl, hl⟩
      · rw [if_pos rfl, if_neg hl] at q
        cases q
    · refine .inr ⟨hj, ?_⟩
      rw [List.getElem?_set_ne hj] at q ⊢
      exact q
  refine ⟨f.fr, f.gg, f.gh, f.gn, f.ca, ?_, fun j d q => ?_, fun j p c q => ?_, fun j k p q c c' l h1 h2 h3 h4 => ?_, fun j l m => ?_, fun j y q => ?_⟩
  · rw [List.length_set, List.length_set]
    exact e.len
  · rcases at_ q with ⟨_, z, _⟩ | ⟨_, z⟩
    · cases z
    · exact f.val j d z
  · rcases at_ q with ⟨_, z, _⟩ | ⟨_, z⟩
    · cases z
    · exact f.cel j p c z
  · rcases at_ h1 with ⟨_, z, _⟩ | ⟨_, z1⟩
    · cases z
    · rcases at_ h2 with ⟨_, z, _⟩ | ⟨_, z2⟩
      · cases z
      · exact f.ap j k p q c c' l z1 z2 h3 h4
  · have hj : i ≠ j := fun z => hP l (z ▸ m)
    obtain ⟨h1, c, h2⟩ := f.pin j l m
    refine ⟨h1, c, ?_⟩
    rw [List.getElem?_set_ne hj] at h2 ⊢
    exact h2
  · rcases at_ q with ⟨hj, z, hl⟩ | ⟨_, z⟩
    · subst hj
      cases z
      refine ⟨a, cls, d, rfl, ?_, hx⟩
      rw [List.getElem?_set_self (e.len ▸ hl)]
    · exact f.err j y z
/-- .. and goes -/
theorem EnvG.uncatch {z : Option (Addr × Value × Option Addr)} (e : EnvG A ⟨F.H, F.G, F.C, z⟩ P σ G H ρ) (hn : F.er = none) (h : noErr ρ = true) : EnvG A F P σ G H ρ := by
  have f := e.reEr (z := none) fun i x q => noErr_at h q
  obtain ⟨fH, fG, fC, fe⟩ := F
  have hn : fe = none := hn
  subst hn
  exact f
end

abbrev Hz := List (Str × Bool) × Option Nat × S
def notCel (i : Nat) : Rf → Bool
  | .cel j => j != i
  | _ => true
/-- behind a named suite -/
def offO (i : Nat) : Option O → Option O
  | some (.nx ρ) => if okSlot ρ i = true ∧ noErr (ρ.set i .no) = true then some (.nx (ρ.set i .no)) else none
  | some (.bk ρ) => if okSlot ρ i = true ∧ noErr (ρ.set i .no) = true then some (.bk (ρ.set i .no)) else none
  | some (.ct ρ) => if okSlot ρ i = true ∧ noErr (ρ.set i .no) = true then some (.ct (ρ.set i .no)) else none
  | some (.rt x ρ) => if okSlot ρ i = true ∧ noErr (ρ.set i .no) = true ∧ notCel i x = true then some (.rt x (ρ.set i .no)) else none
  | _ => none
def offP : Option O → Option O
  | some (.ex _ _) => none
  | o => o
def hGo : List Hz → Ex → E → Option O
  | [], x, ρ => some (.ex x ρ)
  | (t, i, s) :: r, x, ρ => match t.lookup x.c with
    | none => none
    | some false => hGo r x ρ
    | some true => match i with
      | none => offP (s ρ)
      | some i => if okSlot ρ i = true then offO i (s (ρ.set i (.err x))) else none
def sTry (b : S) (hs : List Hz) : S := fun ρ => match b ρ with
  | some (.ex x ρ') => hGo hs x ρ'
  | o => o
/-- the table of names tells which classes the clause catches -/
def Tbl (K : PySem.W.Frag) (mg : Str → Option Value) (c : Value) (t : List (Str × Bool)) : Prop := ∀ p ∈ t, ∃ C, mg p.1 = some (.ref C) ∧ PySem.W.exmOne K (.ref C) c = some p.2
theorem Tbl.at_ {K : PySem.W.Frag} {mg : Str → Option Value} {c : Value} {t : List (Str × Bool)} (h : Tbl K mg c t) {n : Str} {b : Bool} {C : Addr} (q : t.lookup n = some b) (m : mg n = some (.ref C)) : PySem.W.exmOne K (.ref C) c = some b := by
  induction t with
  | nil => cases q
  | cons p t ih =>
    obtain ⟨k, v⟩ := p
    rw [List.lookup_cons] at q
    by_cases hk : (n == k) = true
    · rw [hk] at q
      cases q
      obtain ⟨C', m', e⟩ := h _ (.head _)
      have : n = k := eq_of_beq hk
      subst this
      rw [m] at m'
      cases m'
      exact e
    · rw [Bool.not_eq_true] at hk
      rw [hk] at q
      exact ih (fun p hp => h p (.tail _ hp)) q
theorem tbl_nil {K : PySem.W.Frag} {mg : Str → Option Value} {c : Value} : Tbl K mg c [] := fun _ h => by cases h
theorem tbl_cons {K : PySem.W.Frag} {mg : Str → Option Value} {c : Value} {n : Str} {b : Bool} {C : Addr} {t : List (Str × Bool)} (m : mg n = some (.ref C)) (e : PySem.W.exmOne K (.ref C) c = some b) (r : Tbl K mg c t) : Tbl K mg c ((n, b) :: t) := fun p hp => by
  rcases List.mem_cons.mp hp with z | z
  · subst z
    exact ⟨C, m, e⟩
  · exact r p z
abbrev Y0 : Yc := ⟨fun _ _ _ _ => False, none⟩
abbrev Ye (a : Addr) (cls : Value) (d : Option Addr) : Yc := ⟨fun _ _ _ _ => False, some (a, cls, d)⟩
def toHm (A : Amb) : Value × Hz → Hm
  | (c, _, none, s) => (c, none, fun _ _ _ => tS A Y0 s)
  | (c, _, some i, s) => (c, some i, fun a cls d => tS A (Ye a cls d) s)
inductive DH (X : Cx) : List ExceptHandler → List (Value × Hz) → Prop
  | nil : DH X [] []
  | plain {x : Str} {c : Value} {t : List (Str × Bool)} {m : S} {s0 : Stmt} {su : List Stmt} {p q : Pos} {hs : List ExceptHandler} {l : List (Value × Hz)} (hc : Names X x c) (ht : Tbl X.K X.mg c t)
      (hsu : ∀ (a : Addr) (oe : Obj) (cls : Value) (d : Option Addr) (pn : List (Addr × Obj)), Zc cls d oe → (∃ vs, oe.data = .fields vs) → DSs (X.suite a ((a, oe) :: pn)) Y0 (s0 :: su) m) (r : DH X hs l) :
      DH X (.ExceptHandler (some (.Name x p)) none (s0 :: su) q :: hs) ((c, t, none, m) :: l)
  | named {x n : Str} {i : Nat} {c : Value} {t : List (Str × Bool)} {m : S} {s0 : Stmt} {su : List Stmt} {p q : Pos} {hs : List ExceptHandler} {l : List (Value × Hz)} (hc : Names X x c) (ht : Tbl X.K X.mg c t) (hi : X.N[i]? = some n) (hl : X.env.kindOf n = some .local)
      (hsu : ∀ (a : Addr) (oe : Obj) (cls : Value) (d : Option Addr) (pn : List (Addr × Obj)), Zc cls d oe → (∃ vs, oe.data = .fields vs) → DSs (X.suite a ((a, oe) :: pn)) (Ye a cls d) (s0 :: su) m) (r : DH X hs l) :
      DH X (.ExceptHandler (some (.Name x p)) (some n) (s0 :: su) q :: hs) ((c, t, some i, m) :: l)
section
variable {X : Cx} {Y : Yc} {bd : List Stmt} {k0 : ExceptHandler} {ks : List ExceptHandler} {l : List (Value × Hz)} {pos : Pos} {mb : S}
theorem DH.mx (h : DH X ks l) : HdMx X ks (l.map (toHm (amb X))) := by
  induction h with
  | nil => exact .nil
  | plain hc ht hsu r ih => exact .plain hc hsu ih
  | named hc ht hi hl hsu r ih => exact .named hc hi hl hsu ih
theorem off_tail {A : Amb} {F : Fx} {P : List (Nat × Addr)} {D : Ends} {i : Nat} {z : Option (Addr × Value × Option Addr)} {W : WX} {o1 o : O} (hn : F.er = none) (h : offO i (some o1) = some o) (hp : PostS A Y F P D o) : PostS A ⟨W, z⟩ ⟨F.H, F.G, F.C, z⟩ P (offE D i) o1 := by
  cases o1 with
  | nx ρ =>
    unfold offO at h
    by_cases c : okSlot ρ i = true ∧ noErr (ρ.set i .no) = true
    · simp only [if_pos c] at h
      cases h
      exact fun σ' G' H' e => hp _ G' H' ((e.forget (okSlot_pin e c.1) none).uncatch hn c.2)
    · simp only [if_neg c] at h
      cases h
  | bk ρ =>
    unfold offO at h
    by_cases c : okSlot ρ i = true ∧ noErr (ρ.set i .no) = true
    · simp only [if_pos c] at h
      cases h
      exact fun σ' G' H' e => hp _ G' H' ((e.forget (okSlot_pin e c.1) none).uncatch hn c.2)
    · simp only [if_neg c] at h
      cases h
  | ct ρ =>
    unfold offO at h
    by_cases c : okSlot ρ i = true ∧ noErr (ρ.set i .no) = true
    · simp only [if_pos c] at h
      cases h
      exact fun σ' G' H' e => hp _ G' H' ((e.forget (okSlot_pin e c.1) none).uncatch hn c.2)
    · simp only [if_neg c] at h
      cases h
  | ex x ρ => cases h
  | rt x ρ =>
    have go : okSlot ρ i = true → noErr (ρ.set i .no) = true → (∀ j, x = .cel j → j ≠ i) → o = .rt x (ρ.set i .no) → PostS A ⟨W, z⟩ ⟨F.H, F.G, F.C, z⟩ P (offE D i) (.rt x ρ) := fun c1 c2 c3 ho => by
      subst ho
      refine fun v σ' G' H' e ro => hp v _ G' H' ((e.forget (okSlot_pin e c1) none).uncatch hn c2) ?_
      cases x with
      | dat d => exact ro
      | cel j =>
        show (σ'.set i none)[j]? = some (some v)
        rw [List.getElem?_set_ne (Ne.symm (c3 j rfl))]
        exact ro
      | new ds =>
        obtain ⟨l, vs, q1, q2, q3, q4, q5, q6⟩ := ro
        refine ⟨l, vs, q1, q2, q3, q4, q5, fun j p c q z => ?_⟩
        by_cases hj : i = j
        · subst hj
          rw [List.getElem?_set] at q
          by_cases hl : i < ρ.length
          · rw [if_pos rfl, if_pos hl] at q
            cases q
          · rw [if_pos rfl, if_neg hl] at q
            cases q
        · rw [List.getElem?_set_ne hj] at q z
          exact q6 j p c q z
    unfold offO at h
    by_cases c : okSlot ρ i = true ∧ noErr (ρ.set i .no) = true ∧ notCel i x = true
    · simp only [if_pos c] at h
      cases h
      refine go c.1 c.2.1 (fun j z y => ?_) rfl
      have c3 := c.2.2
      subst z
      subst y
      unfold notCel at c3
      simp at c3
    · simp only [if_neg c] at h
      cases h
theorem go_tail {D : Ends} {F : Fx} {P : List (Nat × Addr)} {G H : Hp} {σ : L2.St} {ρ : E} {x : Ex} {o : O} {cls : Value} {d : Option Addr} (h : DH X ks l) (hn : F.er = none) (e : EnvG (amb X) F P σ G H ρ) (hx : ExAt (amb X) G cls d x) (hm : hGo (l.map (·.2)) x ρ = some o) (hp : PostS (amb X) Y F P D o) :
    wMx X.K Y.W D (l.map (toHm (amb X))) cls d σ H := by
  obtain ⟨C, h1, rfl, h3⟩ := id hx
  have h1 : X.mg x.c = some (.ref C) := h1
  induction h with
  | nil =>
    cases hm
    exact hp _ d σ G H e hx
  | @plain y c t m s0 su p q hs l hc ht hsu r ih =>
    rw [List.map_cons] at hm ⊢
    unfold hGo at hm
    cases ql : t.lookup x.c with
    | none =>
      simp only [ql] at hm
      cases hm
    | some b =>
      simp only [ql] at hm
      refine ⟨b, ht.at_ ql h1, fun hb a na => ?_, fun hb => ?_⟩
      · subst hb
        simp only at hm
        unfold offP at hm
        cases qm : m ρ with
        | none =>
          rw [qm] at hm
          cases hm
        | some o1 =>
          rw [qm] at hm
          refine ⟨F, P, G, ρ, o1, hn, e, qm, ?_⟩
          cases o1 with
          | ex x ρ => cases hm
          | nx ρ =>
            cases hm
            exact hp
          | rt x ρ =>
            cases hm
            exact hp
          | bk ρ =>
            cases hm
            exact hp
          | ct ρ =>
            cases hm
            exact hp
      · subst hb
        exact ih hm
  | @named y n i c t m s0 su p q hs l hc ht hi hl hsu r ih =>
    rw [List.map_cons] at hm ⊢
    unfold hGo at hm
    cases ql : t.lookup x.c with
    | none =>
      simp only [ql] at hm
      cases hm
    | some b =>
      simp only [ql] at hm
      refine ⟨b, ht.at_ ql h1, fun hb a na => ?_, fun hb => ?_⟩
      · subst hb
        simp only at hm
        by_cases ho : okSlot ρ i = true
        · rw [if_pos ho] at hm
          cases qm : m (ρ.set i (.err x)) with
          | none =>
            rw [qm] at hm
            cases hm
          | some o1 =>
            rw [qm] at hm
            exact ⟨_, P, G, _, o1, rfl, e.catch hn (okSlot_pin e ho) hx, qm, off_tail hn hm hp⟩
        · rw [if_neg ho] at hm
          cases hm
      · subst hb
        exact ih hm
theorem ds_try (stk : X.stack = X.env :: X.outer) (hfr : X.env.frame = some X.env.locals) (nd : X.N.Nodup) (tk : Takes X Y.W) (hY : Y.er = none)
    (hb : ∀ (W : WX) (pn : List (Addr × Obj)) (xe : Value → Shared → Prop), Takes (X.tr pn xe) W → PassesOwn (model X.prog X.w) X.A X.env xe → DSs (X.tr pn xe) ⟨W, none⟩ bd mb) (hh : DH X (k0 :: ks) l) :
    DS X Y (.Try bd (k0 :: ks) [] [] pos) (sTry mb (l.map (·.2))) :=
  PS.weak (ps_tryMx (tb := fun W => tS (amb X) ⟨W, none⟩ mb) stk hfr nd tk hb hh.mx) fun D σ H ⟨F, P, G, ρ, o, er, e, hm, hp⟩ => by
    have hn : F.er = none := er.trans hY
    unfold sTry at hm
    cases q : mb ρ with
    | none =>
      rw [q] at hm
      cases hm
    | some o1 =>
      rw [q] at hm
      refine ⟨F, P, G, ρ, o1, hn, e, q, ?_⟩
      cases o1 with
      | ex x ρ' => exact fun cls d σ' G' H' e' hx => go_tail hh hn e' hx hm hp
      | nx ρ' =>
        cases hm
        exact hp
      | rt x ρ' =>
        cases hm
        exact hp
      | bk ρ' =>
        cases hm
        exact hp
      | ct ρ' =>
        cases hm
        exact hp
end

/-! a field of the caught one -/
def eXf (i : Nat) (c f : Str) : M Rf := fun ρ => match ρ[i]? with
  | some (.err x) => if (x.c == c) = true then match (x.ns.zip x.ds).lookup f with
    | some d => some (.ok (.dat d) ρ)
    | none => none else none
  | _ => none
theorem Ims.lookup {A : Amb} {G : Hp} {f : Str} {d : D} : ∀ {fs : List (Str × V)} {ds : List D}, Ims A G (fs.map (·.2)) ds → ((fs.map (·.1)).zip ds).lookup f = some d → ∃ v, fs.lookup f = some v ∧ Im A G v d
  | [], _, _, h => by cases h
  | (k, v) :: fs, _, .cons h r, q => by
    rw [List.map_cons, List.zip_cons_cons, List.lookup_cons] at q
    rw [List.lookup_cons]
    cases hk : f == k with
    | true =>
      simp only [hk] at q
      cases q
      exact ⟨v, rfl, h⟩
    | false =>
      simp only [hk] at q
      exact Ims.lookup r q
section
variable {X : Cx} {a C : Addr} {oe : Obj} {cls : Value} {d : Option Addr} {pn : List (Addr × Obj)} {W : WX} {x c n : Str} {i : Nat} {p pos : Pos}
theorem de_xf (T : XfC X.K C) (hno : PySem.W.findIn X.K (.ref C) n = some none) (hm : X.mg c = some (.ref C)) (hz : Zc cls d oe) (hf : ∃ vs, oe.data = .fields vs) (he : PE (X.suite a ((a, oe) :: pn)) (.Name x p) (tVar i)) :
    DE (X.suite a ((a, oe) :: pn)) (Ye a cls d) (.Attribute (.Name x p) n pos) (eXf i c n) :=
  PE.weak (pe_xf T hno hz hf he) fun σ H Q ⟨F, P, G, ρ, r, er, e, h, hp⟩ => by
    unfold eXf at h
    cases q : ρ[i]? with
    | none =>
      rw [q] at h
      cases h
    | some s =>
      rw [q] at h
      cases s with
      | err ex =>
        simp only at h
        by_cases hc : (ex.c == c) = true
        · rw [if_pos hc] at h
          cases ql : (ex.ns.zip ex.ds).lookup n with
          | none =>
            rw [ql] at h
            cases h
          | some dv =>
            rw [ql] at h
            cases h
            obtain ⟨a', cls', d', h1, h2, C', h4, h5, h6⟩ := e.err i ex q
            rw [er] at h1
            cases h1
            have hc := eq_of_beq hc
            rw [hc] at h4
            have h4 : X.mg c = some (.ref C') := h4
            rw [hm] at h4
            cases h4
            subst h5
            refine ⟨.ref a, h2, rfl, rfl, ?_⟩
            rcases h6 with ⟨z, _⟩ | ⟨dd, fs, z1, z2, z3, z4⟩
            · rw [z] at ql
              cases ql
            · rw [← z3] at ql
              obtain ⟨v, l1, l2⟩ := Ims.lookup z4 ql
              exact ⟨dd, fs, v, z1, e.gh _ _ z2, l1, hp v G H (Same.refl G) e l2⟩
        · rw [if_neg hc] at h
          cases h
      | no => cases h
      | val d => cases h
      | cel p c => cases h
end
end Z

set_option Elab.async false
set_option linter.all false
set_option maxRecDepth 100000
set_option maxHeartbeats 4000000
/-! ZL: what the operators do with data. -/
namespace Z
open PySem PySem.Spec PyProof.Rows L2

def orD {α : Type} (a b : Option α) : Option α := match a with
  | some x => some x
  | none => b
theorem orD_some {α : Type} {a b : Option α} {d : α} (h : orD a b = some d) : a = some d ∨ b = some d := by
  unfold orD at h
  cases a with
  | none => exact .inr h
  | some x => exact .inl h
/-- an operator does what f says -/
def OpD (X : Cx) (g : Value → Value → Sem Value) (f : D → D → Option D) : Prop := ∃ r, OpR X g r ∧ RO (amb X) r f
section
variable {X : Cx} {Y : Yc} {g : Value → Value → Sem Value} {f f1 f2 : D → D → Option D}
theorem OpD.or (h1 : OpD X g f1) (h2 : OpD X g f2) : OpD X g (fun p q => orD (f1 p q) (f2 p q)) := by
  obtain ⟨r1, o1, k1⟩ := h1
  obtain ⟨r2, o2, k2⟩ := h2
  refine ⟨_, o1.or o2, fun F P σ G H ρ x y p q d Q e t1 t2 hf hq => ?_⟩
  rcases orD_some hf with h | h
  · exact .inl (k1 F P σ G H ρ x y p q d Q e t1 t2 h hq)
  · exact .inr (k2 F P σ G H ρ x y p q d Q e t1 t2 h hq)
/-- ints in, a scalar out -/
def fI (k : Int → Int → Option D) : D → D → Option D
  | .int i, .int j => k i j
  | _, _ => none
theorem fI_some {k : Int → Int → Option D} {p q d : D} (h : fI k p q = some d) : ∃ i j, p = .int i ∧ q = .int j ∧ k i j = some d := by
  unfold fI at h
  split at h
  · exact ⟨_, _, rfl, rfl, h⟩
  · cases h
theorem opd_I {C : Int → Int → Prop} {v : Int → Int → V} {k : Int → Int → Option D} (ho : OpR X g (rI C v)) (hk : ∀ i j d, k i j = some d → C i j ∧ (∀ G, Im (amb X) G (v i j) d) ∧ mk d = .dat d) : OpD X g (fI k) :=
  ⟨_, ho, fun F P σ G H ρ x y p q d Q e t1 t2 hf hq => by
    obtain ⟨i, j, rfl, rfl, hd⟩ := fI_some hf
    obtain ⟨c, im, m⟩ := hk i j d hd
    refine ⟨i, j, t1.int, t2.int, c, hq _ G H (Same.refl G) e ?_⟩
    rw [m]
    exact im G⟩
theorem opd_I0 {v : Int → Int → V} {k : Int → Int → D} (ho : OpR X g (rI0 v)) (hk : ∀ i j, (∀ G, Im (amb X) G (v i j) (k i j)) ∧ mk (k i j) = .dat (k i j)) : OpD X g (fI fun i j => some (k i j)) :=
  ⟨_, ho, fun F P σ G H ρ x y p q d Q e t1 t2 hf hq => by
    obtain ⟨i, j, rfl, rfl, hd⟩ := fI_some hf
    cases hd
    obtain ⟨im, m⟩ := hk i j
    refine ⟨i, j, t1.int, t2.int, hq _ G H (Same.refl G) e ?_⟩
    rw [m]
    exact im G⟩
def kAdd (i j : Int) : Option D := some (.int (i + j))
def kSub (i j : Int) : Option D := some (.int (i - j))
def kMul (i j : Int) : Option D := if i.natAbs.log2 + j.natAbs.log2 < 1000000 then some (.int (i * j)) else none
def kDiv (i j : Int) : Option D := if 0 < j ∧ j.natAbs.log2 < 9000 then some (.int (i / j)) else none
def kMod (i j : Int) : Option D := if 0 < j then some (.int (i % j)) else none
def kPow (i j : Int) : Option D := if 0 ≤ j ∧ (Builtin.Int.intBits i : Int) * j ≤ 2 ^ 27 then some (.int (i ^ j.toNat)) else none
def kLt (i j : Int) : Option D := some (.bl (decide (i < j)))
def kLe (i j : Int) : Option D := some (.bl (decide (i ≤ j)))
def kGt (i j : Int) : Option D := some (.bl (decide (j < i)))
def kGe (i j : Int) : Option D := some (.bl (decide (j ≤ i)))
theorem op_powB : OpR X (binaryOp .Pow) (rI (fun i j => 0 ≤ j ∧ (Builtin.Int.intBits i : Int) * j ≤ 2 ^ 27) fun i j => .int (i ^ j.toNat)) := opI fun _ _ _ _ _ _ _ hc q => pow_int hc.1 hc.2 q
theorem od_addI : OpD X (binaryOp .Add) (fI kAdd) := opd_I0 op_add fun i j => ⟨fun _ => .int _, rfl⟩
theorem od_sub : OpD X (binaryOp .Sub) (fI kSub) := opd_I0 op_sub fun i j => ⟨fun _ => .int _, rfl⟩
theorem od_mulI : OpD X (binaryOp .Mult) (fI kMul) := opd_I op_mulW fun i j d h => by
  unfold kMul at h
  split at h
  · cases h
    exact ⟨‹_›, fun _ => .int _, rfl⟩
  · cases h
theorem od_div : OpD X (binaryOp .FloorDiv) (fI kDiv) := opd_I op_fdivW fun i j d h => by
  unfold kDiv at h
  split at h
  · cases h
    exact ⟨‹_›, fun _ => .int _, rfl⟩
  · cases h
theorem od_mod : OpD X (binaryOp .Mod) (fI kMod) := opd_I op_mod fun i j d h => by
  unfold kMod at h
  split at h
  · cases h
    exact ⟨‹_›, fun _ => .int _, rfl⟩
  · cases h
theorem od_pow : OpD X (binaryOp .Pow) (fI kPow) := opd_I op_powB fun i j d h => by
  unfold kPow at h
  split at h
  · cases h
    exact ⟨‹_›, fun _ => .int _, rfl⟩
  · cases h
theorem od_lt : OpD X (compareOp .Lt) (fI kLt) := opd_I0 op_lt fun i j => ⟨fun _ => .bl _, rfl⟩
theorem od_le : OpD X (compareOp .LtE) (fI kLe) := opd_I0 op_le fun i j => ⟨fun _ => .bl _, rfl⟩
theorem od_gt : OpD X (compareOp .Gt) (fI kGt) := opd_I0 op_gt fun i j => ⟨fun _ => .bl _, rfl⟩
theorem od_ge : OpD X (compareOp .GtE) (fI kGe) := opd_I0 op_ge fun i j => ⟨fun _ => .bl _, rfl⟩
/-! + of texts, lists, tuples -/
def fCatS : D → D → Option D
  | .str a, .str b => if a.length + b.length ≤ sizeLine then some (.str (a ++ b)) else none
  | _, _ => none
def fCatL : D → D → Option D
  | .lst a, .lst b => if a.length + b.length ≤ sizeLine then some (.lst (a ++ b)) else none
  | _, _ => none
def fCatT : D → D → Option D
  | .tup a, .tup b => if a.length + b.length ≤ sizeLine then some (.tup (a ++ b)) else none
  | _, _ => none
theorem Ims.append' {A : Amb} {G : Hp} : ∀ {vs ws : List V} {ds es : List D}, Ims A G vs ds → Ims A G ws es → Ims A G (vs ++ ws) (ds ++ es)
  | _, _, _, _, .nil, k => k
  | _, _, _, _, .cons h r, k => .cons h (Ims.append' r k)
theorem od_catS : OpD X (binaryOp .Add) fCatS := ⟨_, op_add_str, fun F P σ G H ρ x y p q d Q e t1 t2 hf hq => by
  unfold fCatS at hf
  split at hf
  · split at hf
    · cases hf
      exact ⟨_, _, t1.str, t2.str, ‹_›, hq _ G H (Same.refl G) e (.str _)⟩
    · cases hf
  · cases hf⟩
end
end Z
namespace PySem.AutoSeq1
open PySem PySem.Spec PyProof.Rows MeetsSeq MeetsSeq2 MeetsSeq3 SeqRoads2
theorem list_add_any (l : Addr) (xs : Array Value) (n : Nat) (sl : Array (Option Value)) (b : Addr) (ys : Array Value) (n2 : Nat) (sl2 : Array (Option Value)) (hz : xs.size + ys.size ≤ sizeLine) :
    Meets (Builtin.«list.__add__» ⟨[.ref l, .ref b], []⟩) (fun _ R s => s.heap.get? l = some { cls := .type "list", dict := none, data := .seq xs n, slots := sl } ∧ s.heap.get? b = some { cls := .type "list", dict := none, data := .seq ys n2, slots := sl2 } ∧
      R (.ok (.ret (.ref s.heap.objs.size))) { s with heap := s.heap.push { cls := .type "list", data := .seq (xs ++ ys) } }) :=
  .of_wp fun prog w A R s h => by
    obtain ⟨hp, g, d, tk, os⟩ := s
    obtain ⟨hl, hb, h⟩ := h
    have f1 := idx_int
    have f3 := sub_list_list
    wp_walk using wpAny_loadPart' hl, wpAny_loadPart' hb
    exact ⟨_, rfl, h⟩
end PySem.AutoSeq1
namespace Z
open PySem PySem.Spec PyProof.Rows L2
section
variable {X : Cx} {Y : Yc} {g : Value → Value → Sem Value} {f f1 f2 : D → D → Option D}
/-- + of two lists, laid or standing: two cases of each -/
def rCatL (K : PySem.W.Frag) : R2 := fun x y H Q => ∃ l b xs zs, x = .ref l ∧ y = .ref b ∧ SqL K H l xs ∧ SqL K H b zs ∧ xs.length + zs.length ≤ sizeLine ∧ ∀ p, H p = none → Q (.ref p) (upd H p (.lst (xs ++ zs)))
theorem op_catL : OpR X (binaryOp .Add) (rCatL X.K) := by
  intro pins s σ H x y v u Q I rx ry h
  obtain ⟨l, b, xs, zs, rfl, rfl, h1, h2, hz, q⟩ := h
  cases rx
  cases ry
  obtain ⟨its, r1, p1, _⟩ := I.list h1
  obtain ⟨its2, r2, p2, _⟩ := I.list h2
  have l1 := r1.length
  have l2 := r2.length
  obtain ⟨⟨c1, d1, t1, sl1⟩, n1, g1, a1, a2, a3⟩ := p1
  obtain ⟨⟨c2, d2, t2, sl2⟩, n2, g2, b1, b2, b3⟩ := p2
  simp only at a1 a2 a3 b1 b2 b3
  subst a1 a2 a3 b1 b2 b3
  refine concat_meets ⟨_, g1, rfl⟩ ⟨_, g2, rfl⟩ noFill_list_add seq_list_add F.slot_list_add F.entry_list_add (F.args_list_add_2 _ _) (PySem.AutoSeq1.list_add_any l its.toArray n1 sl1 b its2.toArray n2 sl2 (by simp only [List.size_toArray] <;> omega)) ⟨g1, g2, ?_⟩
  have ea : its.toArray ++ its2.toArray = (its ++ its2).toArray := by simp
  rw [ea]
  exact ⟨.ref _, _, I.lnew (t' := s.toks) (r1.append r2) (by rw [List.length_append]; omega), rfl, q _ I.fresh⟩
theorem od_catL : OpD X (binaryOp .Add) fCatL := ⟨_, op_catL, fun F P σ G H ρ x y p q d Q e t1 t2 hf hq => by
  unfold fCatL at hf
  split at hf
  · split at hf
    · rename_i a b hz
      cases hf
      obtain ⟨l, vs, rfl, h1, i1⟩ := t1.lst e.gh
      obtain ⟨m, ws, rfl, h2, i2⟩ := t2.lst e.gh
      refine ⟨l, m, vs, ws, rfl, rfl, h1, h2, by rw [i1.length, i2.length]; exact hz, fun p n => ?_⟩
      obtain ⟨e3, ro⟩ := e.newL n (Ims.append' i1 i2)
      exact hq _ G _ (Same.refl G) e3 ro
    · cases hf
  · cases hf⟩
/-- t + u, the new object known -/
def rCatF (K : PySem.W.Frag) : R2 := fun x y H Q => ∃ a b xs ys, x = .ref a ∧ y = .ref b ∧ SqT K H a xs ∧ SqT K H b ys ∧ xs.length + ys.length ≤ sizeLine ∧
  (xs = [] → Q (.ref b) H) ∧ (xs ≠ [] → ys = [] → Q (.ref a) H) ∧ ∀ (p : Addr) (o : Obj), H p = none → o.dict = none → Q (.ref p) (upd H p (.frz o (.tup (xs ++ ys))))
theorem op_catF : OpR X (binaryOp .Add) (rCatF X.K) := by
  intro pins s σ H x y v u Q I rx ry h
  obtain ⟨a, b, xs, ys, rfl, rfl, ha, hb, hz, q0, q1, q2⟩ := h
  by_cases hx : xs = []
  · exact op_catA pins s σ H _ _ v u Q I rx ry ⟨a, b, xs, ys, rfl, rfl, ha, hb, hz, q0, q1, fun z => absurd hx z⟩
  · cases rx
    cases ry
    obtain ⟨its, r1, p1, _⟩ := I.tuple ha
    obtain ⟨its2, r2, p2, _⟩ := I.tuple hb
    refine HT.cat_tup p1 p2 (fun z => hx (r1.nil_iff.mp z)) (fun z => ⟨.ref a, H, I, rfl, q1 hx (r2.nil_iff.mp z)⟩) (fun z => ?_) (by rw [← r1.length, ← r2.length]; exact hz)
    refine ⟨.ref s.heap.objs.size, _, ?_, rfl, q2 s.heap.objs.size { cls := .type "tuple", data := .seq (its ++ its2).toArray } (I.hok.fresh (Nat.le_refl _)) rfl⟩
    refine I.laid (t' := s.toks) (fun _ _ z => Heap.get?_push_of_some _ z) (Nat.le_refl _) ⟨?_, by rw [List.length_append]; exact hz, _, r1.append r2, IsTup.new _ _⟩
    exact Heap.get?_push_size _ rfl
theorem od_catT : OpD X (binaryOp .Add) fCatT := ⟨_, op_catF, fun F P σ G H ρ x y p q d Q e t1 t2 hf hq => by
  unfold fCatT at hf
  split at hf
  · split at hf
    · rename_i a b hz
      cases hf
      obtain ⟨l, vs, rfl, h1, i1⟩ := t1.tup e.gh
      obtain ⟨m, ws, rfl, h2, i2⟩ := t2.tup e.gh
      have k1 : Im (amb X) G (.ref l) (.tup a) := t1.scal (fun _ => by simp) (fun _ _ _ => by simp)
      have k2 : Im (amb X) G (.ref m) (.tup b) := t2.scal (fun _ => by simp) (fun _ _ _ => by simp)
      refine ⟨l, m, vs, ws, rfl, rfl, h1, h2, by rw [i1.length, i2.length]; exact hz, fun z => ?_, fun _ z => ?_, fun p o n dn => ?_⟩
      · subst z
        cases i1
        exact hq _ G H (Same.refl G) e k2
      · subst z
        cases i2
        rw [List.append_nil] at hq
        exact hq _ G H (Same.refl G) e k1
      · obtain ⟨G', s, e3, ro⟩ := e.newT n dn (Ims.append' i1 i2)
        exact hq _ G' _ s e3 ro
    · cases hf
  · cases hf⟩
def fAdd : D → D → Option D := fun p q => orD (fI kAdd p q) (orD (fCatL p q) (orD (fCatT p q) (fCatS p q)))
theorem od_add : OpD X (binaryOp .Add) fAdd := od_addI.or (od_catL.or (od_catT.or od_catS))
/-! a list times a number -/
def fRep : D → D → Option D
  | .lst a, .int k => if -(2 ^ 63) ≤ k ∧ k < 2 ^ 63 ∧ a.length * k.toNat ≤ sizeLine then some (.lst (List.replicate k.toNat a).flatten) else none
  | _, _ => none
theorem Ims.rep {A : Amb} {G : Hp} {vs : List V} {ds : List D} (h : Ims A G vs ds) : ∀ n, Ims A G (List.replicate n vs).flatten (List.replicate n ds).flatten
  | 0 => .nil
  | n + 1 => by
    rw [List.replicate_succ, List.replicate_succ, List.flatten_cons, List.flatten_cons]
    exact Ims.append' h (Ims.rep h n)
end
/-- the object itself, laid or ours -/
theorem Top.lstH {A : Amb} {F : Fx} {P : List (Nat × Addr)} {σ : L2.St} {G H : Hp} {ρ : E} {v : V} {ds : List D} (e : EnvG A F P σ G H ρ) (h : Top A G H v (.lst ds)) :
    ∃ l vs, v = .ref l ∧ (H l = some (.lst vs) ∨ SqL A.K H l vs) ∧ Ims A G vs ds := by
  obtain ⟨l, vs, h1, h2, h3⟩ := h.lst e.gh
  exact ⟨l, vs, h1, .inr h2, h3⟩
section
variable {X : Cx} {Y : Yc}
/-! == and != -/
mutual
def D.py : D → Option PyData
  | .non => some .none
  | .bl b => some (.bool b)
  | .int i => some (.int i)
  | .str x => some (.str x)
  | .lst ds => (D.pys ds).map .list
  | .tup ds => (D.pys ds).map .tuple
  | .pr ds => (D.pys ds).map .tuple
  | .dic _ _ => none
  | .ins _ _ _ => none
def D.pys : List D → Option (List PyData)
  | [] => some []
  | d :: ds => match D.py d, D.pys ds with
    | some x, some xs => some (x :: xs)
    | _, _ => none
end
mutual
theorem Im.dp {A : Amb} {G H : Hp} (g : Same G H) : ∀ {d : D} {v : V} {x : PyData}, Im A G v d → d.py = some x → Dp A.K H v x
  | .non, _, _, h, e => by
    cases h
    cases e
    exact .non
  | .bl b, _, _, h, e => by
    cases h
    cases e
    exact .bl b
  | .int i, _, _, h, e => by
    cases h
    cases e
    exact .int i
  | .str x, _, _, h, e => by
    cases h
    cases e
    exact .str x
  | .lst ds, _, _, h, e => by
    unfold D.py at e
    obtain ⟨xs, e1, rfl⟩ := map_some' e
    cases h with
    | lst h r => exact .lst (g.seq h) (Ims.dp g r e1)
  | .tup ds, _, _, h, e => by
    unfold D.py at e
    obtain ⟨xs, e1, rfl⟩ := map_some' e
    cases h with
    | tup h r => exact .tup (same_sqT g h.sq) (Ims.dp g r e1)
  | .pr ds, _, _, h, e => by
    unfold D.py at e
    obtain ⟨xs, e1, rfl⟩ := map_some' e
    cases h with
    | pr h r => exact .tup (same_sqT g h) (Ims.dp g r e1)
  | .dic _ _, _, _, _, e => by
    unfold D.py at e
    cases e
  | .ins _ _ _, _, _, _, e => by
    unfold D.py at e
    cases e
theorem Ims.dp {A : Amb} {G H : Hp} (g : Same G H) : ∀ {ds : List D} {vs : List V} {xs : List PyData}, Ims A G vs ds → D.pys ds = some xs → DpAll A.K H vs xs
  | [], _, _, h, e => by
    cases h
    unfold D.pys at e
    cases e
    exact .nil
  | d :: ds, _, _, h, e => by
    unfold D.pys at e
    cases h with
    | cons h r =>
      cases e1 : d.py with
      | none =>
        rw [e1] at e
        cases e
      | some x =>
        cases e2 : D.pys ds with
        | none =>
          rw [e1, e2] at e
          cases e
        | some xs =>
          rw [e1, e2] at e
          cases e
          exact .cons (Im.dp g h e1) (Ims.dp g r e2)
end
theorem Top.dp {A : Amb} {G H : Hp} (g : Same G H) {d : D} {v : V} {x : PyData} (h : Top A G H v d) (e : d.py = some x) : Dp A.K H v x := by
  rcases h with h | ⟨l, vs, ds, rfl, rfl, h1, h2⟩ | ⟨l, C, dx, fs, c, ns, ds, rfl, rfl, m, h1, h2, h3⟩
  · exact Im.dp g h e
  · unfold D.py at e
    obtain ⟨xs, e1, rfl⟩ := map_some' e
    exact .lst (SqL.of h1) (Ims.dp g h2 e1)
  · unfold D.py at e
    cases e
def eqD (p q : D) : Option Bool := match p.py, q.py with
  | some a, some b => if SeqAt.shaped a = true ∧ SeqAt.shaped b = true then some (PyData.eqv a b) else none
  | _, _ => none
theorem eqD_some {p q : D} {c : Bool} (h : eqD p q = some c) : ∃ a b, p.py = some a ∧ q.py = some b ∧ SeqAt.shaped a = true ∧ SeqAt.shaped b = true ∧ c = PyData.eqv a b := by
  unfold eqD at h
  cases h1 : p.py with
  | none =>
    rw [h1] at h
    cases h
  | some a =>
    cases h2 : q.py with
    | none =>
      rw [h1, h2] at h
      cases h
    | some b =>
      rw [h1, h2] at h
      simp only at h
      split at h
      · rename_i c
        cases h
        exact ⟨a, b, rfl, rfl, c.1, c.2, rfl⟩
      · cases h
def fEq : D → D → Option D := fun p q => (eqD p q).map .bl
def fNe : D → D → Option D := fun p q => (eqD p q).map fun c => .bl (!c)
theorem od_eq (hu : X.A.units + 64 < cLine) : OpD X (compareOp .Eq) fEq := ⟨_, op_eqD hu, fun F P σ G H ρ x y p q d Q e t1 t2 hf hq => by
  obtain ⟨c, hc, rfl⟩ := map_some' hf
  obtain ⟨a, b, h1, h2, s1, s2, rfl⟩ := eqD_some hc
  exact ⟨a, b, t1.dp e.gh h1, t2.dp e.gh h2, s1, s2, hq _ G H (Same.refl G) e (.bl _)⟩⟩
theorem od_ne (hu : X.A.units + 64 < cLine) : OpD X (compareOp .NotEq) fNe := ⟨_, op_neD hu, fun F P σ G H ρ x y p q d Q e t1 t2 hf hq => by
  obtain ⟨c, hc, rfl⟩ := map_some' hf
  obtain ⟨a, b, h1, h2, s1, s2, rfl⟩ := eqD_some hc
  exact ⟨a, b, t1.dp e.gh h1, t2.dp e.gh h2, s1, s2, hq _ G H (Same.refl G) e (.bl _)⟩⟩
/-! is, is not: None, bools -/
def D.isNon : D → Bool
  | .non => true
  | _ => false
def isD : D → D → Option Bool
  | d, .non => some d.isNon
  | .bl a, .bl b => some (decide (a = b))
  | _, _ => none
theorem Top.isNon {A : Amb} {G H : Hp} {v : V} {d : D} (h : Top A G H v d) : decide (v = .non) = d.isNon := by
  rcases h with h | ⟨l, vs, ds, rfl, rfl, h1, h2⟩ | ⟨l, C, dx, fs, c, ns, ds, rfl, rfl, m, h1, h2, h3⟩
  · cases h <;> rfl
  · rfl
  · rfl
def fIs : D → D → Option D := fun p q => (isD p q).map .bl
def fIsN : D → D → Option D := fun p q => (isD p q).map fun c => .bl (!c)
theorem isD_some {p q : D} {c : Bool} (h : isD p q = some c) : (q = .non ∧ c = p.isNon) ∨ ∃ a b, p = .bl a ∧ q = .bl b ∧ c = decide (a = b) := by
  unfold isD at h
  split at h
  · cases h
    exact .inl ⟨rfl, rfl⟩
  · cases h
    exact .inr ⟨_, _, rfl, rfl, rfl⟩
  · cases h
theorem od_is : OpD X (compareOp .Is) fIs := ⟨_, OpR.or op_isN op_isBl, fun F P σ G H ρ x y p q d Q e t1 t2 hf hq => by
  obtain ⟨c, hc, rfl⟩ := map_some' hf
  rcases isD_some hc with ⟨rfl, rfl⟩ | ⟨a, b, rfl, rfl, rfl⟩
  · refine .inl ⟨t2.non, ?_⟩
    rw [t1.isNon]
    exact hq _ G H (Same.refl G) e (.bl _)
  · exact .inr ⟨a, b, t1.bl, t2.bl, hq _ G H (Same.refl G) e (.bl _)⟩⟩
theorem od_isN : OpD X (compareOp .IsNot) fIsN := ⟨_, OpR.or op_notN op_notBl, fun F P σ G H ρ x y p q d Q e t1 t2 hf hq => by
  obtain ⟨c, hc, rfl⟩ := map_some' hf
  rcases isD_some hc with ⟨rfl, rfl⟩ | ⟨a, b, rfl, rfl, rfl⟩
  · refine .inl ⟨t2.non, ?_⟩
    rw [t1.isNon]
    exact hq _ G H (Same.refl G) e (.bl _)
  · exact .inr ⟨a, b, t1.bl, t2.bl, hq _ G H (Same.refl G) e (.bl _)⟩⟩
end
section
variable {X : Cx} {Y : Yc} {a b : Expr} {es : List Expr} {ma mb : M Rf} {ml mh : M (Option Int)} {ms : M (List Rf)} {pos : Pos} {f : D → D → Option D}
theorem de_bin {op : Operator} (h : OpD X (binaryOp op) f) (ha : DE X Y a ma) (hb : DE X Y b mb) : DE X Y (.BinOp a op b pos) (eOp2 f ma mb) := by
  obtain ⟨r, ho, hr⟩ := h
  exact de_op2 ho hr ha hb
theorem de_cp {op : CmpOp} (h : OpD X (compareOp op) f) (ha : DE X Y a ma) (hb : DE X Y b mb) (hm : behindInMarks op b = false := by rfl) : DE X Y (.Compare a [op] [b] pos) (eOp2 f ma mb) := by
  obtain ⟨r, ho, hr⟩ := h
  exact de_cmp ho hr ha hb hm
theorem dt_cp {op : CmpOp} (h : OpD X (compareOp op) f) (ha : DE X Y a ma) (hb : DE X Y b mb) (hm : behindInMarks op b = false := by rfl) : DT X Y (.Compare a [op] [b] pos) (tst (eOp2 f ma mb)) := by
  obtain ⟨r, ho, hr⟩ := h
  exact dt_cmp ho hr ha hb hm
/-! xs[i]: what stands there already -/
def fIx : D → D → Option D
  | .lst ds, .int i => atI ds i
  | .tup ds, .int i => atI ds i
  | _, _ => none
def eIx (ma mb : M Rf) : M Rf := bindM ma fun x => bindM mb fun y => bindM (drf (stl x)) fun p => bindM (drf (stl y)) fun q => optM ((fIx p q).map .dat)
theorem Ims.atI {A : Amb} {G : Hp} {vs : List V} {ds : List D} {i : Int} {d : D} (h : Ims A G vs ds) (e : L2.atI ds i = some d) : ∃ v, L2.atI vs i = some v ∧ Im A G v d := by
  unfold L2.atI at e ⊢
  rw [h.length]
  cases q : ixN ds.length i with
  | none =>
    rw [q] at e
    cases e
  | some j =>
    rw [q] at e
    exact h.get e
theorem de_ix (ha : DE X Y a ma) (hb : DE X Y b mb) (hs : PlainIx b) : DE X Y (.Subscript a b pos) (eIx ma mb) :=
  PE.weak (pe_ix ix_seq ha hb hs) fun σ H Q ⟨F, P, G, ρ, r', er, e, hm, hp⟩ => tE_bind er e hm hp fun G1 H1 ρ1 x v s1 e1 so1 hm1 hp1 => tE_bind er e1 hm1 hp1 fun G2 H2 ρ2 y u s2 e2 so2 hm2 hp2 => by
    obtain ⟨p, d1, hm3⟩ := drf_ok hm2
    obtain ⟨q, d2, hm4⟩ := drf_ok hm3
    obtain ⟨z, hz, rfl⟩ := optM_ok hm4
    obtain ⟨d, hd, rfl⟩ := map_some' hz
    have t1 := top_of e2 (so1.mono s2) d1
    have t2 := top_of e2 so2 d2
    unfold fIx at hd
    split at hd
    · obtain ⟨l, vs, rfl, h1, h2⟩ := t1.lst e2.gh
      obtain ⟨w, h3, h4⟩ := h2.atI hd
      exact .inl ⟨l, vs, _, w, rfl, t2.int, h1, h3, hp2 w G2 H2 (Same.refl G2) e2 h4⟩
    · obtain ⟨l, vs, rfl, h1, h2⟩ := t1.tup e2.gh
      obtain ⟨w, h3, h4⟩ := h2.atI hd
      exact .inr (.inl ⟨l, vs, _, w, rfl, t2.int, h1, h3, hp2 w G2 H2 (Same.refl G2) e2 h4⟩)
    · cases hd
end
end Z

set_option Elab.async false
set_option linter.all false
set_option maxRecDepth 100000
set_option maxHeartbeats 4000000
/-! ZM: calls of built-ins by data; slices; list times a number. -/
namespace Z
open PySem PySem.Spec PyProof.Rows L2

section
variable {A : Amb} {F : Fx} {P : List (Nat × Addr)} {σ : L2.St} {G H : Hp} {ρ : E}
theorem settle_new {v : V} {ds : List D} (e : EnvG A F P σ G H ρ) (h : RfOk A F σ G H ρ v (.new ds)) : ∃ G' l vs, v = .ref l ∧ Same G G' ∧ EnvG A F P σ G' H ρ ∧ G' l = some (.lst vs) ∧ Ims A G' vs ds := by
  obtain ⟨l, vs, rfl, h1, h2, h3, h4, h5⟩ := h
  have sG : Same G (upd G l (.lst vs)) := fun b u q => by
    rw [upd_ne (ne_of_none q h2)]
    exact q
  refine ⟨_, l, vs, rfl, sG, ⟨e.fr, e.gg.trans sG, fun b u q => ?_, fun b u q => ?_, e.ca, e.len, fun j d q => ?_, fun j p c q => ?_, e.ap, e.pin, fun j x q => ?_⟩, upd_same, h4.mono sG⟩
  · by_cases hb : b = l
    · subst hb
      rw [upd_same] at q
      rw [h1]
      exact q
    · rw [upd_ne hb] at q
      exact e.gh b u q
  · by_cases hb : b = l
    · subst hb
      exact .inr h3
    · rw [upd_ne hb] at q
      exact e.gn b u q
  · obtain ⟨v, k1, k2⟩ := e.val j d q
    exact ⟨v, k1, k2.mono sG⟩
  · obtain ⟨m, k1, k2, k3, k4⟩ := e.cel j p c q
    refine ⟨m, k1, k2.mono sG rfl, ?_, k4⟩
    have ne : m ≠ l := fun w => by
      subst w
      exact h5 j p c q k1
    rw [upd_ne ne]
    exact k3
  · obtain ⟨a, cls, d, k1, k2, k3⟩ := e.err j x q
    exact ⟨a, cls, d, k1, k2, k3.mono sG⟩
/-! data of one kind -/
def dInts : List D → Option (List Int)
  | [] => some []
  | .int i :: ds => (dInts ds).map (i :: ·)
  | _ :: _ => none
def dBools : List D → Option (List Bool)
  | [] => some []
  | .bl i :: ds => (dBools ds).map (i :: ·)
  | _ :: _ => none
theorem ims_ints {A : Amb} {G : Hp} : ∀ {vs : List V} {ds : List D} {ns : List Int}, Ims A G vs ds → dInts ds = some ns → vs = ns.map V.int ∧ ds = ns.map D.int
  | _, _, _, .nil, e => by
    cases e
    exact ⟨rfl, rfl⟩
  | _, .int i :: ds, _, .cons h r, e => by
    unfold dInts at e
    obtain ⟨ms, e1, rfl⟩ := map_some' e
    cases h
    obtain ⟨rfl, rfl⟩ := ims_ints r e1
    exact ⟨rfl, rfl⟩
  | _, .non :: _, _, .cons _ _, e => by cases e
  | _, .bl _ :: _, _, .cons _ _, e => by cases e
  | _, .str _ :: _, _, .cons _ _, e => by cases e
  | _, .lst _ :: _, _, .cons _ _, e => by cases e
  | _, .tup _ :: _, _, .cons _ _, e => by cases e
  | _, .pr _ :: _, _, .cons _ _, e => by cases e
  | _, .dic _ _ :: _, _, .cons _ _, e => by cases e
  | _, .ins _ _ _ :: _, _, .cons _ _, e => by cases e
theorem ims_bools {A : Amb} {G : Hp} : ∀ {vs : List V} {ds : List D} {ns : List Bool}, Ims A G vs ds → dBools ds = some ns → vs = ns.map V.bl ∧ ds = ns.map D.bl
  | _, _, _, .nil, e => by
    cases e
    exact ⟨rfl, rfl⟩
  | _, .bl i :: ds, _, .cons h r, e => by
    unfold dBools at e
    obtain ⟨ms, e1, rfl⟩ := map_some' e
    cases h
    obtain ⟨rfl, rfl⟩ := ims_bools r e1
    exact ⟨rfl, rfl⟩
  | _, .non :: _, _, .cons _ _, e => by cases e
  | _, .int _ :: _, _, .cons _ _, e => by cases e
  | _, .str _ :: _, _, .cons _ _, e => by cases e
  | _, .lst _ :: _, _, .cons _ _, e => by cases e
  | _, .tup _ :: _, _, .cons _ _, e => by cases e
  | _, .pr _ :: _, _, .cons _ _, e => by cases e
  | _, .dic _ _ :: _, _, .cons _ _, e => by cases e
  | _, .ins _ _ _ :: _, _, .cons _ _, e => by cases e
theorem ims_of_ints {A : Amb} {G : Hp} : ∀ ns : List Int, Ims A G (ns.map V.int) (ns.map D.int)
  | [] => .nil
  | n :: ns => .cons (.int n) (ims_of_ints ns)
end
def CaD (X : Cx) (v : Value) (f : List D → Option D) : Prop := ∃ r, CallR X v r ∧ RCo (amb X) r f
section
variable {X : Cx} {Y : Yc} {v : Value} {f f1 f2 : List D → Option D}
theorem CaD.or (h1 : CaD X v f1) (h2 : CaD X v f2) : CaD X v (fun xs => orD (f1 xs) (f2 xs)) := by
  obtain ⟨r1, o1, k1⟩ := h1
  obtain ⟨r2, o2, k2⟩ := h2
  refine ⟨_, o1.or o2, fun F P σ G H ρ xs ds d Q e t hf hq => ?_⟩
  rcases orD_some hf with h | h
  · exact .inl (k1 F P σ G H ρ xs ds d Q e t h hq)
  · exact .inr (k2 F P σ G H ρ xs ds d Q e t h hq)
theorem Tops.one {A : Amb} {G H : Hp} {xs : List V} {d : D} (h : Tops A G H xs [d]) : ∃ x, xs = [x] ∧ Top A G H x d := by
  cases h with
  | cons h r =>
    cases r
    exact ⟨_, rfl, h⟩
theorem Tops.two {A : Amb} {G H : Hp} {xs : List V} {d e : D} (h : Tops A G H xs [d, e]) : ∃ x y, xs = [x, y] ∧ Top A G H x d ∧ Top A G H y e := by
  cases h with
  | cons h r =>
    obtain ⟨y, rfl, k⟩ := r.one
    exact ⟨_, _, rfl, h, k⟩
/-! len -/
def fLen : List D → Option D
  | [.lst ds] => some (.int ds.length)
  | [.tup ds] => some (.int ds.length)
  | [.str x] => if x.length ≤ sizeLine then some (.int x.length) else none
  | _ => none
theorem cd_len : CaD X (.builtin "len") fLen := ⟨_, call_len, fun F P σ G H ρ xs ds d Q e t hf hq => by
  unfold fLen at hf
  split at hf
  · cases hf
    obtain ⟨x, rfl, u⟩ := t.one
    obtain ⟨l, vs, rfl, h1, h2⟩ := u.lst e.gh
    exact ⟨_, _, rfl, .inl ⟨vs, h1, h2.length.symm⟩, hq _ G H (Same.refl G) e (.int _)⟩
  · cases hf
    obtain ⟨x, rfl, u⟩ := t.one
    obtain ⟨l, vs, rfl, h1, h2⟩ := u.tup e.gh
    exact ⟨_, _, rfl, .inr ⟨vs, h1, h2.length.symm⟩, hq _ G H (Same.refl G) e (.int _)⟩
  · split at hf
    · rename_i hz
      cases hf
      obtain ⟨x, rfl, u⟩ := t.one
      rw [u.str]
      exact ⟨_, _, rfl, ⟨hz, rfl⟩, hq _ G H (Same.refl G) e (.int _)⟩
    · cases hf
  · cases hf⟩
/-! int -/
def fInt : List D → Option D
  | [.int i] => some (.int i)
  | [.bl b] => some (.int (if b then 1 else 0))
  | _ => none
theorem cd_int : CaD X (.type "int") fInt := ⟨_, call_int1, fun F P σ G H ρ xs ds d Q e t hf hq => by
  unfold fInt at hf
  split at hf
  · cases hf
    obtain ⟨x, rfl, u⟩ := t.one
    rw [u.int]
    exact .inl ⟨_, rfl, hq _ G H (Same.refl G) e (.int _)⟩
  · cases hf
    obtain ⟨x, rfl, u⟩ := t.one
    rw [u.bl]
    exact .inr ⟨_, rfl, hq _ G H (Same.refl G) e (.int _)⟩
  · cases hf⟩
/-! max, min of two -/
def fMax : List D → Option D
  | [.int i, .int j] => some (.int (if j > i then j else i))
  | _ => none
def fMin : List D → Option D
  | [.int i, .int j] => some (.int (if j < i then j else i))
  | _ => none
theorem cd_max (hc : X.calm = true) : CaD X (.builtin "max") fMax := ⟨_, call_max2 hc, fun F P σ G H ρ xs ds d Q e t hf hq => by
  unfold fMax at hf
  split at hf
  · cases hf
    obtain ⟨x, y, rfl, t1, t2⟩ := t.two
    rw [t1.int, t2.int]
    exact ⟨_, _, rfl, hq _ G H (Same.refl G) e (.int _)⟩
  · cases hf⟩
theorem cd_min (hc : X.calm = true) : CaD X (.builtin "min") fMin := ⟨_, call_min2 hc, fun F P σ G H ρ xs ds d Q e t hf hq => by
  unfold fMin at hf
  split at hf
  · cases hf
    obtain ⟨x, y, rfl, t1, t2⟩ := t.two
    rw [t1.int, t2.int]
    exact ⟨_, _, rfl, hq _ G H (Same.refl G) e (.int _)⟩
  · cases hf⟩
/-! all, sum -/
def fAll : List D → Option D
  | [.lst ds] => (dBools ds).map fun bs => .bl (bs.all id)
  | _ => none
theorem cd_all (hc : X.calm = true) : CaD X (.builtin "all") fAll := ⟨_, cr_all hc, fun F P σ G H ρ xs ds d Q e t hf hq => by
  unfold fAll at hf
  split at hf
  · obtain ⟨bs, hb, rfl⟩ := map_some' hf
    obtain ⟨x, rfl, u⟩ := t.one
    obtain ⟨l, vs, rfl, h1, h2⟩ := u.lst e.gh
    obtain ⟨rfl, rfl⟩ := ims_bools h2 hb
    exact ⟨_, _, rfl, h1, hq _ G H (Same.refl G) e (.bl _)⟩
  · cases hf⟩
def fSum : List D → Option D
  | [.lst ds] => (dInts ds).map fun bs => .int bs.sum
  | _ => none
theorem cd_sum (hc : X.calm = true) : CaD X (.builtin "sum") fSum := ⟨_, cr_sum hc, fun F P σ G H ρ xs ds d Q e t hf hq => by
  unfold fSum at hf
  split at hf
  · obtain ⟨bs, hb, rfl⟩ := map_some' hf
    obtain ⟨x, rfl, u⟩ := t.one
    obtain ⟨l, vs, rfl, h1, h2⟩ := u.lst e.gh
    obtain ⟨rfl, rfl⟩ := ims_ints h2 hb
    exact ⟨_, _, rfl, h1, hq _ G H (Same.refl G) e (.int _)⟩
  · cases hf⟩
/-! list(xs), tuple(xs) -/
def fList : List D → Option D
  | [.lst ds] => some (.lst ds)
  | [.tup ds] => some (.lst ds)
  | _ => none
def fTuple : List D → Option D
  | [.lst ds] => some (.tup ds)
  | [.tup ds] => some (.tup ds)
  | _ => none
theorem cd_list : CaD X (.type "list") fList := ⟨_, call_list_of, fun F P σ G H ρ xs ds d Q e t hf hq => by
  unfold fList at hf
  split at hf
  · cases hf
    obtain ⟨x, rfl, u⟩ := t.one
    obtain ⟨l, vs, rfl, h1, h2⟩ := u.lst e.gh
    refine ⟨_, _, rfl, .inl h1, fun p n => ?_⟩
    obtain ⟨e3, ro⟩ := e.newL n h2
    exact hq _ G _ (Same.refl G) e3 ro
  · cases hf
    obtain ⟨x, rfl, u⟩ := t.one
    obtain ⟨l, vs, rfl, h1, h2⟩ := u.tup e.gh
    refine ⟨_, _, rfl, .inr h1, fun p n => ?_⟩
    obtain ⟨e3, ro⟩ := e.newL n h2
    exact hq _ G _ (Same.refl G) e3 ro
  · cases hf⟩
/-- tuple(xs), the new object known -/
theorem call_tupleF : CallR X (.type "tuple") (fun xs H Q => ∃ p ys, xs = [.ref p] ∧ ((SqL X.K H p ys ∧ ∀ (l : Addr) (o : Obj), H l = none → o.dict = none → Q (.ref l) (upd H l (.frz o (.tup ys)))) ∨ (SqT X.K H p ys ∧ Q (.ref p) H))) := by
  intro pins s σ H xs us Q I r h
  obtain ⟨p, ys, rfl, ⟨hq, q⟩ | h⟩ := h
  · obtain ⟨u, rfl, rx⟩ := vals1 r
    cases rx
    obtain ⟨its, rv, pl, hz⟩ := I.list hq
    have hl := rv.length
    refine call_tuple_list pl.isList (fun h' kp => ?_) (by simp only [List.size_toArray] <;> omega)
    have J : Inv X pins σ H { s with heap := h' } := I.kept (t' := s.toks) kp
    refine ⟨.ref h'.objs.size, _, ?_, rfl, q h'.objs.size { cls := .type "tuple", data := .seq its.toArray } (J.hok.fresh (Nat.le_refl _)) rfl⟩
    exact J.laid (t' := s.toks) (fun _ _ e => Heap.get?_push_of_some _ e) (Nat.le_refl _) ⟨Heap.get?_push_size _ rfl, hz, its, rv, IsTup.new _ _⟩
  · exact call_tuple_of pins s σ H _ us Q I r ⟨p, ys, rfl, .inr h⟩
theorem cd_tuple : CaD X (.type "tuple") fTuple := ⟨_, call_tupleF, fun F P σ G H ρ xs ds d Q e t hf hq => by
  unfold fTuple at hf
  split at hf
  · cases hf
    obtain ⟨x, rfl, u⟩ := t.one
    obtain ⟨l, vs, rfl, h1, h2⟩ := u.lst e.gh
    refine ⟨_, _, rfl, .inl ⟨h1, fun p o n dn => ?_⟩⟩
    obtain ⟨G', s, e3, ro⟩ := e.newT n dn h2
    exact hq _ G' _ s e3 ro
  · cases hf
    obtain ⟨x, rfl, u⟩ := t.one
    have im := u.scal (fun _ => by simp) (fun _ _ _ => by simp)
    obtain ⟨l, vs, rfl, h1, h2⟩ := u.tup e.gh
    exact ⟨_, _, rfl, .inr ⟨h1, hq _ G H (Same.refl G) e im⟩⟩
  · cases hf⟩
/-! sorted of dInts, a list or a tuple -/
def insI (i : Int) : List Int → List Int
  | [] => [i]
  | j :: js => if i ≤ j then i :: j :: js else j :: insI i js
def srtI : List Int → List Int
  | [] => []
  | i :: is => insI i (srtI is)
theorem insI_perm (i : Int) : ∀ js : List Int, (insI i js).Perm (i :: js)
  | [] => .refl _
  | j :: js => by
    unfold insI
    split
    · exact .refl _
    · exact ((insI_perm i js).cons j).trans (.swap i j js)
theorem srtI_perm : ∀ is : List Int, (srtI is).Perm is
  | [] => .refl _
  | i :: is => (insI_perm i _).trans ((srtI_perm is).cons i)
theorem insI_sorted (i : Int) : ∀ {js : List Int}, js.Pairwise (· ≤ ·) → (insI i js).Pairwise (· ≤ ·)
  | [], _ => List.pairwise_singleton _ _
  | j :: js, h => by
    unfold insI
    rw [List.pairwise_cons] at h
    split
    · rename_i hij
      refine List.pairwise_cons.mpr ⟨fun x hx => ?_, List.pairwise_cons.mpr h⟩
      rcases List.mem_cons.mp hx with z | z
      · rw [z]
        exact hij
      · exact Int.le_trans hij (h.1 x z)
    · rename_i hij
      refine List.pairwise_cons.mpr ⟨fun x hx => ?_, insI_sorted i h.2⟩
      rcases List.mem_cons.mp ((insI_perm i js).mem_iff.mp hx) with z | z
      · rw [z]
        omega
      · exact h.1 x z
theorem srtI_sorted : ∀ is : List Int, (srtI is).Pairwise (· ≤ ·)
  | [] => .nil
  | i :: is => insI_sorted i (srtI_sorted is)
theorem sorted_eq : ∀ {xs ys : List Int}, xs.Perm ys → xs.Pairwise (· ≤ ·) → ys.Pairwise (· ≤ ·) → xs = ys
  | [], ys, p, _, _ => by rw [List.nil_perm.mp p]
  | x :: xs, [], p, _, _ => by cases p.length_eq
  | x :: xs, y :: ys, p, h1, h2 => by
    rw [List.pairwise_cons] at h1 h2
    have e : x = y := by
      have a : x ∈ y :: ys := p.mem_iff.mp (.head _)
      have b : y ∈ x :: xs := p.mem_iff.mpr (.head _)
      rcases List.mem_cons.mp a with a | a
      · exact a
      · rcases List.mem_cons.mp b with b | b
        · exact b.symm
        · exact Int.le_antisymm (h1.1 y b) (h2.1 x a)
    subst e
    rw [sorted_eq (List.perm_cons x |>.mp p) h1.2 h2.2]
def fSorted : List D → Option D
  | [.lst ds] => (dInts ds).map fun ns => .lst ((srtI ns).map .int)
  | _ => none
theorem cd_sorted : CaD X (.builtin "sorted") fSorted := ⟨_, cr_sortedI, fun F P σ G H ρ xs ds d Q e t hf hq => by
  unfold fSorted at hf
  split at hf
  · obtain ⟨ns, hb, rfl⟩ := map_some' hf
    obtain ⟨x, rfl, u⟩ := t.one
    obtain ⟨l, vs, rfl, h1, h2⟩ := u.lst e.gh
    obtain ⟨rfl, rfl⟩ := ims_ints h2 hb
    refine ⟨_, _, rfl, h1, fun ns' p k1 k2 n => ?_⟩
    rw [sorted_eq (k1.trans (srtI_perm ns).symm) k2 (srtI_sorted ns)]
    obtain ⟨e3, ro⟩ := e.newL n (ims_of_ints (A := amb X) (G := G) (srtI ns))
    exact hq _ G _ (Same.refl G) e3 ro
  · cases hf⟩
end
section
variable {X : Cx} {Y : Yc} {a b : Expr} {es : List Expr} {ma mb : M Rf} {ml mh : M (Option Int)} {ms : M (List Rf)} {x : Str} {p pos p2 : Pos} {f : List D → Option D} {id T : String}
theorem de_callB (h : CaD X (.builtin id) f) (hm : X.mg x = none) (ha : DA X Y (a :: es) ms) (hv : bootBuiltins x = some (.builtin id) := by rfl) (hg : Gl X x := by rfl) (hn : x ≠ "__name__" := by decide) (hdb : (x == ("__debug__" : Str)) = false := by decide)
    (he : starEach (a :: es) X.env = (false, eval a X.env) :: starEach es X.env := by rfl) (hpl : (backTo pos (starEach es X.env)).any (·.1) = false := by rfl) : DE X Y (.Call (.Name x p) (a :: es) [] pos) (eCall f ms) := by
  obtain ⟨r, hc, hr⟩ := h
  exact de_weak (pe_callB hc hg hm hv ha hn hdb he hpl) fun σ H Q q => call_tail hr q
theorem de_callT (h : CaD X (.type T) f) (hm : X.mg x = none) (ha : DA X Y (a :: es) ms) (hv : bootBuiltins x = some (.type T) := by rfl) (hg : Gl X x := by rfl) (hn : x ≠ "__name__" := by decide) (hdb : (x == ("__debug__" : Str)) = false := by decide)
    (he : starEach (a :: es) X.env = (false, eval a X.env) :: starEach es X.env := by rfl) (hpl : (backTo pos (starEach es X.env)).any (·.1) = false := by rfl) : DE X Y (.Call (.Name x p) (a :: es) [] pos) (eCall f ms) := by
  obtain ⟨r, hc, hr⟩ := h
  exact de_weak (pe_callTy hc hg hm hv ha hn hdb he hpl) fun σ H Q q => call_tail hr q
/-! -x -/
def eNeg (m : M Rf) : M Rf := bindM m fun x => match x with
  | .dat (.int i) => pureM (.dat (.int (-i)))
  | _ => failM
theorem de_neg (ha : DE X Y a ma) : DE X Y (.UnaryOp .USub a pos) (eNeg ma) :=
  PE.weak (pe_un un_neg ha) fun σ H Q ⟨F, P, G, ρ, r', er, e, hm, hp⟩ => tG_bind (Re := relE (amb X)) er e hm hp fun G1 H1 ρ1 x v s1 e1 ro hk => by
    cases x with
    | dat d =>
      cases d with
      | int i =>
        cases hk
        cases (show Im (amb X) G1 v (.int i) from ro)
        exact ⟨i, rfl, hp _ G1 H1 s1 e1 (.int _)⟩
      | _ => cases hk
    | _ => cases hk
/-! [..] * n -/
def eRep (ma mb : M Rf) : M Rf := bindM ma fun x => match x with
  | .new ds => bindM mb fun y => match y with
    | .dat (.int k) => if -(2 ^ 63) ≤ k ∧ k < 2 ^ 63 ∧ ds.length * k.toNat ≤ sizeLine then pureM (.new (List.replicate k.toNat ds).flatten) else failM
    | _ => failM
  | _ => failM
theorem de_rep (ha : DE X Y a ma) (hb : DE X Y b mb) : DE X Y (.BinOp a .Mult b pos) (eRep ma mb) :=
  PE.weak (pe_op op_rep ha hb) fun σ H Q ⟨F, P, G, ρ, r', er, e, hm, hp⟩ => tG_bind (Re := relE (amb X)) er e hm hp fun G1 H1 ρ1 x v s1 e1 ro hk => by
    cases x with
    | new ds =>
      obtain ⟨G2, l, vs, rfl, s2, e2, g2, i2⟩ := settle_new e1 ro
      refine tG_bind (Re := relE (amb X)) er e2 hk (hp.mono (s1.trans s2)) fun G3 H3 ρ3 y u s3 e3 ro3 hk3 => ?_
      cases y with
      | dat d =>
        cases d with
        | int k =>
          simp only at hk3
          split at hk3
          · rename_i c
            cases hk3
            cases (show Im (amb X) G3 u (.int k) from ro3)
            refine ⟨l, k, vs, rfl, rfl, e3.gh _ _ (s3 _ _ g2), c.1, c.2.1, by rw [i2.length]; exact c.2.2, fun p n => ?_⟩
            obtain ⟨e4, ro4⟩ := e3.newL n ((i2.mono s3).rep k.toNat)
            exact hp _ G3 _ ((s1.trans s2).trans s3) e4 ro4
          · cases hk3
        | _ => cases hk3
      | _ => cases hk3
    | _ => cases hk
/-! parts -/
def oNone : M (Option Int) := pureM none
def oSome (m : M Rf) : M (Option Int) := bindM m fun x => match x with
  | .dat (.int i) => pureM (some i)
  | _ => failM
theorem do_none : DO X Y none oNone := PO.weak po_none fun σ H Q ⟨F, P, G, ρ, r, er, e, hm, hp⟩ => by
  cases hm
  exact hp none G H (Same.refl G) e rfl
theorem do_some (h : DE X Y a ma) : DO X Y (some a) (oSome ma) := PO.weak (po_some h) fun σ H Q ⟨F, P, G, ρ, r, er, e, hm, hp⟩ => tG_bind (Re := relE (amb X)) er e hm hp fun G1 H1 ρ1 x v s1 e1 ro hk => by
    cases x with
    | dat d =>
      cases d with
      | int i =>
        cases hk
        cases (show Im (amb X) G1 v (.int i) from ro)
        exact ⟨i, rfl, hp _ G1 H1 s1 e1 rfl⟩
      | _ => cases hk
    | _ => cases hk
def cutD (xs : List D) (lo hi : Option Int) : List D := (xs.drop (HT.sIx xs.length 0 lo)).take (HT.sIx xs.length xs.length hi - HT.sIx xs.length 0 lo)
theorem Ims.cut {A : Amb} {G : Hp} {vs : List V} {ds : List D} (h : Ims A G vs ds) (lo hi : Option Int) : Ims A G (cutV vs lo hi) (cutD ds lo hi) := by
  unfold cutV cutD
  rw [h.length]
  exact (h.drop _).take _
def fCut : D → Option Int → Option Int → Option D
  | .lst ds, lo, hi => some (.lst (cutD ds lo hi))
  | .tup ds, lo, hi => some (.tup (cutD ds lo hi))
  | _, _, _ => none
def eCut (ma : M Rf) (ml mh : M (Option Int)) : M Rf := bindM ma fun x => bindM ml fun lo => bindM mh fun hi => bindM (drf (stl x)) fun d => optM ((fCut d lo hi).map mk)
theorem cut_all {n : Nat} {lo hi : Option Int} {α : Type} {xs : List α} (hn : xs.length = n) (h : HT.sIx n 0 lo = 0 ∧ HT.sIx n n hi = n) : (xs.drop (HT.sIx n 0 lo)).take (HT.sIx n n hi - HT.sIx n 0 lo) = xs := by
  rw [h.1, h.2, List.drop_zero, Nat.sub_zero, ← hn, List.take_length]
/-- t[lo:hi], the new object known -/
def rSlF (K : PySem.W.Frag) : V → Option Int → Option Int → Hp → VK → Prop := fun x lo hi H Q => ∃ a xs, x = .ref a ∧ SqT K H a xs ∧
  (HT.sIx xs.length 0 lo = 0 ∧ HT.sIx xs.length xs.length hi = xs.length → Q (.ref a) H) ∧ ∀ (p : Addr) (o : Obj), H p = none → o.dict = none → Q (.ref p) (upd H p (.frz o (.tup (cutV xs lo hi))))
theorem sl_tupF : SlR X (rSlF X.K) := by
  intro pins s σ H x v vl vu lo hi sl Q I rx hs pl pu h
  obtain ⟨a, xs, rfl, hx, q1, q2⟩ := h
  by_cases hw : HT.sIx xs.length 0 lo = 0 ∧ HT.sIx xs.length xs.length hi = xs.length
  · exact sl_tupA pins s σ H _ v vl vu lo hi sl Q I rx hs pl pu ⟨a, xs, rfl, hx, q1, fun z => absurd hw z⟩
  · cases rx
    obtain ⟨its, r, ht, hz⟩ := I.tuple hx
    have hn : its.toArray.size = xs.length := by rw [List.size_toArray]; exact r.length.symm
    refine ⟨"tuple", _, PyProof.Rows.slot_tuple_getitem.lookup, ht.typeIs, HT.getItem_tuple_cut ht hs pl pu (by rw [hn]; exact hw) ?_ (by rw [hn]; exact hz)⟩
    rw [hn]
    refine ⟨.ref s.heap.objs.size, _, ?_, rfl, q2 s.heap.objs.size { cls := .type "tuple", data := .seq ((its.drop (HT.sIx xs.length 0 lo)).take (HT.sIx xs.length xs.length hi - HT.sIx xs.length 0 lo)).toArray } (I.hok.fresh (Nat.le_refl _)) rfl⟩
    refine I.laid (t' := s.toks) (fun _ _ z => Heap.get?_push_of_some _ z) (Nat.le_refl _) ⟨Heap.get?_push_size _ rfl, Nat.le_trans (cutV_length xs lo hi) hz, _, (r.drop (HT.sIx xs.length 0 lo)).take (HT.sIx xs.length xs.length hi - HT.sIx xs.length 0 lo), IsTup.new _ _⟩
theorem de_cut {lo hi : Option Expr} (ha : DE X Y a ma) (hl : DO X Y lo ml) (hh : DO X Y hi mh) : DE X Y (.Subscript a (.Slice lo hi none p2) pos) (eCut ma ml mh) :=
  PE.weak (pe_slice (sl_list.or sl_tupF) ha hl hh) fun σ H Q ⟨F, P, G, ρ, r', er, e, hm, hp⟩ => tE_bind er e hm hp fun G1 H1 ρ1 x v s1 e1 so1 hm1 hp1 =>
    tG_bind (Re := relO) er e1 hm1 hp1 fun G2 H2 ρ2 lo l s2 e2 (r2 : l = lo) hm2 => by
      subst r2
      refine tG_bind (Re := relO) er e2 hm2 (hp1.mono s2) fun G3 H3 ρ3 hi h s3 e3 (r3 : h = hi) hm3 => ?_
      subst r3
      obtain ⟨d, hd, hm4⟩ := drf_ok hm3
      obtain ⟨z, hz, rfl⟩ := optM_ok hm4
      obtain ⟨c, hc, rfl⟩ := map_some' hz
      have t := top_of e3 ((so1.mono s2).mono s3) hd
      unfold fCut at hc
      split at hc
      · cases hc
        obtain ⟨p, vs, rfl, h1, h2⟩ := t.lst e3.gh
        refine .inl ⟨p, vs, rfl, h1, fun q n => ?_⟩
        obtain ⟨e4, ro⟩ := e3.newL n (h2.cut l h)
        exact hp1 _ G3 _ (s2.trans s3) e4 ro
      · cases hc
        have im := t.scal (fun _ => by simp) (fun _ _ _ => by simp)
        obtain ⟨p, vs, rfl, h1, h2⟩ := t.tup e3.gh
        refine .inr ⟨p, vs, rfl, h1, fun c => hp1 _ G3 _ (s2.trans s3) e3 ?_, fun q o n dn => ?_⟩
        · rename_i ds
          show Im (amb X) G3 (.ref p) (.tup (cutD ds l h))
          have : cutD ds l h = ds := cut_all rfl (by rw [← h2.length]; exact c)
          rw [this]
          exact im
        · obtain ⟨G4, s4, e4, ro⟩ := e3.newT n dn (h2.cut l h)
          exact hp1 _ G4 _ ((s2.trans s3).trans s4) e4 ro
      · cases hc
end
end Z

set_option Elab.async false
set_option linter.all false
set_option maxRecDepth 100000
set_option maxHeartbeats 4000000
/-! ZN: slices backwards; methods; isinstance; list(range ..); str; sorted of a tuple. -/
namespace PySem.AutoSeq1
open PySem PySem.Spec PyProof.Rows HT
section
variable {prog : Program} {w : World} {A : Around} {E : Value → Shared → Prop} {s : Shared}
theorem rev_pick (xs : Array Value) : ((List.range xs.size).filterMap fun (k : Nat) => xs[(((xs.size : Int) - 1) + (k : Int) * (-1)).toNat]?).toArray = xs.toList.reverse.toArray := by
  have e : (fun (k : Nat) => xs[(((xs.size : Int) - 1) + (k : Int) * (-1)).toNat]?) = (fun (j : Nat) => xs[j]?) ∘ fun k => xs.size - 1 - k := by
    funext k
    have : (((xs.size : Int) - 1) + (k : Int) * (-1)).toNat = xs.size - 1 - k := by omega
    rw [this]
    rfl
  have hr : (List.range xs.size).map (fun k => xs.size - 1 - k) = (List.range xs.size).reverse := by
    apply List.ext_getElem
    · simp
    · intro i h1 h2
      simp
  rw [e, ← List.filterMap_map, hr, List.filterMap_reverse]
  have h := pick_run xs 0 xs.size
  rw [List.drop_zero, List.take_of_length_le (by simp)] at h
  simp only [Nat.zero_add, List.map_id'] at h
  rw [← h]
theorem rev_applied {sl : Addr} {vs : Value} {n : Nat} {Q : Int × Int × Nat → Shared → Prop} (hs : s.heap.IsSliceOf sl .none .none vs) (ps : IsPart vs (some (-1))) (h : Q ((n : Int) - 1, -1, n) s) :
    wpAny (model prog w) A (Builtin.Slice.sliceApplied (.ref sl) (pure (n : Int))) Q E s := by
  obtain ⟨os, hos, hcs, hds⟩ := id hs
  unfold Builtin.Slice.sliceApplied Builtin.Slice.sliceFields
  refine wpAny_bind (wpAny_bind (wpAny_field hos hds (x := .none) rfl (wpAny_bind (wpAny_field hos hds (x := .none) rfl (wpAny_bind (wpAny_field hos hds (x := vs) rfl (wpAny_pure ?_)))))))
  refine wpAny_bind (slicePart_ ps ?_)
  show wpAny _ _ (if ((-1 : Int) == 0) = true then _ else _) _ _ s
  rw [if_neg (by decide)]
  refine wpAny_bind (slicePart_none (wpAny_bind (slicePart_none (wpAny_bind (wpAny_pure ?_)))))
  have e : Builtin.Slice.slicePlaces ((n : Int) - 1) (-1) (-1) = n := by
    unfold Builtin.Slice.slicePlaces
    rw [if_neg (by decide)]
    by_cases hn : (n : Int) - 1 > -1
    · rw [if_pos hn]
      have : ((n : Int) - 1 - -1 - 1) / (- -1) + 1 = n := by
        rw [show (- -1 : Int) = 1 by decide, Int.ediv_one]
        omega
      rw [this]
      simp
    · rw [if_neg hn]
      omega
  show wpAny _ _ (pure ((n : Int) - 1, -1, Builtin.Slice.slicePlaces ((n : Int) - 1) (-1) (-1))) _ _ s
  rw [e]
  exact wpAny_pure h
theorem tuple_rev {t sl : Addr} {xs : Array Value} {vs : Value} {Q : Value → Shared → Prop} (ht : IsTup s.heap t xs) (hs : s.heap.IsSliceOf sl .none .none vs) (ps : IsPart vs (some (-1)))
    (h : Q (.ref s.heap.objs.size) { s with heap := s.heap.push { cls := .type "tuple", data := .seq xs.toList.reverse.toArray } }) (hsz : xs.size ≤ sizeLine) : wpAny (model prog w) A (getItem (.ref t) (.ref sl)) Q E s := by
  have hz : sizeOk (.seq xs.toList.reverse.toArray) := by
    show xs.toList.reverse.toArray.size ≤ sizeLine
    simpa using hsz
  obtain ⟨os, hos, hcs, hds⟩ := id hs
  have hT : s.TypeIs (.ref sl) "slice" := ⟨os, hos, hcs⟩
  unfold getItem
  try with_reducible refine wpAny_holding ?_
  first | refine wpAny_bind (wpAny_pure ?_) | skip
  refine wpAny_bind (wpAny_sequenceKey ht.typeIs (by decide) ?_)
  refine wpAny_bind (wpAny_callSpecial?_slot (name := Str.ofString "__getitem__") ht.typeIs PyProof.Rows.slot_tuple_getitem
      (wpAny_call_entry PyProof.Rows.slot_tuple_getitem ht.typeIs entry_tuple_getitem ?_ (args_tuple_getitem _ _)))
  show wpAny _ _ (Builtin.Tuple.tupleItemsOf (.ref t) >>= _) _ _ s
  refine wpAny_bind (tupleItemsOf_ ht (wpAny_bind (wpAny_typeOf hT ?_)))
  rw [if_pos (by decide)]
  refine wpAny_bind (rev_applied hs ps ?_)
  show wpAny _ _ (if (((xs.size : Int) - 1) == 0 && (-1 : Int) == 1 && xs.size == xs.size) = true then _ else _) _ _ s
  rw [if_neg (by simp), rev_pick]
  first
    | exact wpAny_bind (m := Builtin.Tuple.tupleExact _) (wpAny_newObj_type (wpAny_pure ⟨_, rfl, wpAny_pure h⟩) hz)
    | exact wpAny_bind (m := Builtin.Tuple.tupleExact _) (wpAny_newObj_type (wpAny_bind (wpAny_pure (wpAny_pure ⟨_, rfl, wpAny_pure h⟩))) hz)
    | exact wpAny_bind (wpAny_bind (m := Builtin.Tuple.tupleExact _) (wpAny_newObj_type (wpAny_pure (wpAny_pure ⟨_, rfl, wpAny_pure h⟩)) hz))
    | exact wpAny_bind (wpAny_bind (m := Builtin.Tuple.tupleExact _) (wpAny_newObj_type (wpAny_pure ⟨_, rfl, wpAny_pure h⟩) hz))
end
end PySem.AutoSeq1
namespace Z
open PySem PySem.Spec PyProof.Rows L2
section
variable {X : Cx} {Y : Yc} {a b : Expr} {es : List Expr} {ma mb : M Rf} {ms : M (List Rf)} {pos : Pos}
/-- xs[::-1], a list or a tuple -/
def tRevF (K : PySem.W.Frag) (te : TE) : TE := fun σ H Q => te σ H fun x H1 => ∃ a xs, x = .ref a ∧
  ((SqL K H1 a xs ∧ ∀ p, H1 p = none → Q (.ref p) (upd H1 p (.lst xs.reverse))) ∨ (SqT K H1 a xs ∧ ∀ (p : Addr) (o : Obj), H1 p = none → o.dict = none → Q (.ref p) (upd H1 p (.frz o (.tup xs.reverse)))))
theorem pe_revF {e : Expr} {te : TE} {k : Nat} {p1 p2 p3 : Pos} (he : PE X e te) : PE X (.Subscript e (.Slice none none (some (.UnaryOp .USub (.Constant (.int 1) k p1) p2)) p3) pos) (tRevF X.K te) := by
  refine ⟨fun pins s σ H Q I h => Subscript_ (thn (he.run pins s σ H _ I h) ?_)⟩
  rintro v s1 ⟨x, H1, I1, r1, a, xs, rfl, hq⟩
  cases r1
  have hst : PO X (some (.UnaryOp .USub (.Constant (.int 1) k p1) p2)) (tPart (tUn (rU fun i => .int (-i)) (tC (.int 1)))) := po_some (pe_un un_neg pe_int)
  refine wpAny_Slice (thn (po_none.run pins s1 σ H1 (fun o h => o = none ∧ h = H1) I1 ⟨rfl, rfl⟩) ?_)
  rintro vl s2 ⟨l, _, I2, pl, rfl, rfl⟩
  refine thn (po_none.run pins s2 σ _ (fun o h => o = none ∧ h = _) I2 ⟨rfl, rfl⟩) ?_
  rintro vu s3 ⟨u, _, I3, pu, rfl, rfl⟩
  refine thn (hst.run pins s3 σ _ (fun o h => o = some (-1) ∧ h = _) I3 ⟨1, rfl, -1, rfl, rfl, rfl⟩) ?_
  rintro vs s4 ⟨o, _, I4, ps, rfl, rfl⟩
  cases pl
  cases pu
  have I5 := I4.kept (t' := s4.toks) (h' := s4.heap.push { cls := .type "slice", data := .fields #[.none, .none, vs] }) fun _ _ z => Heap.get?_push_of_some _ z
  rcases hq with ⟨hx, q⟩ | ⟨hx, q⟩
  · obtain ⟨its, r, ht, hz⟩ := I5.list hx
    have hn := r.length
    show wpAny (model X.prog X.w) X.A (subscriptTail e (.Slice none none (some (.UnaryOp .USub (.Constant (.int 1) k p1) p2)) p3) (.ref a) (.ref s4.heap.objs.size)) _ _
      { s4 with heap := s4.heap.push { cls := .type "slice", data := .fields #[.none, .none, vs] } }
    refine tail_any (ops := [.ref a, .ref s4.heap.objs.size]) ht.isList.typeIs (PySem.slot_list_getitem.lookup) ?_ (by with_unfolding_all rfl)
    refine wpAny_getItem_list_slice ht.isList (Heap.IsSliceOf.new _ .none .none vs) .none .none ps (by decide) ?_ (by rw [List.size_toArray]; omega)
    rw [PySem.W.krv_pick]
    refine ⟨.ref _, _, I5.laid (t' := s4.toks) (o := .lst xs.reverse) (fun _ _ z => Heap.get?_push_of_some _ z) (Nat.le_refl _) ?_, rfl, q _ (I5.hok.fresh (Nat.le_refl _))⟩
    exact ⟨by rw [List.length_reverse]; exact hz, _, 0, r.reverse, Heap.get?_push_size _ rfl⟩
  · obtain ⟨its, r, ht, hz⟩ := I5.tuple hx
    have hn := r.length
    show wpAny (model X.prog X.w) X.A (subscriptTail e (.Slice none none (some (.UnaryOp .USub (.Constant (.int 1) k p1) p2)) p3) (.ref a) (.ref s4.heap.objs.size)) _ _
      { s4 with heap := s4.heap.push { cls := .type "slice", data := .fields #[.none, .none, vs] } }
    refine tail_any (ops := [.ref a, .ref s4.heap.objs.size]) ht.typeIs (PyProof.Rows.slot_tuple_getitem.lookup) ?_ (by with_unfolding_all rfl)
    refine PySem.AutoSeq1.tuple_rev ht (Heap.IsSliceOf.new _ .none .none vs) ps ?_ (by rw [List.size_toArray]; omega)
    refine ⟨.ref _, _, I5.laid (t' := s4.toks) (o := .frz { cls := .type "tuple", data := .seq its.reverse.toArray } (.tup xs.reverse)) (fun _ _ z => Heap.get?_push_of_some _ z) (Nat.le_refl _) ?_, rfl, q _ { cls := .type "tuple", data := .seq its.reverse.toArray } (I5.hok.fresh (Nat.le_refl _)) rfl⟩
    exact ⟨Heap.get?_push_size _ rfl, by rw [List.length_reverse]; exact hz, _, r.reverse, IsTup.new _ _⟩
theorem Ims.rev {A : Amb} {G : Hp} : ∀ {vs : List V} {ds : List D}, Ims A G vs ds → Ims A G vs.reverse ds.reverse
  | _, _, .nil => .nil
  | _, _, .cons h r => by
    rw [List.reverse_cons, List.reverse_cons]
    exact Ims.append' (Ims.rev r) (.cons h .nil)
def fRev : D → Option D
  | .lst ds => some (.lst ds.reverse)
  | .tup ds => some (.tup ds.reverse)
  | _ => none
def eUn (f : D → Option D) (ma : M Rf) : M Rf := bindM ma fun x => bindM (drf (stl x)) fun p => optM ((f p).map mk)
theorem de_rev {k : Nat} {p1 p2 p3 : Pos} (ha : DE X Y a ma) : DE X Y (.Subscript a (.Slice none none (some (.UnaryOp .USub (.Constant (.int 1) k p1) p2)) p3) pos) (eUn fRev ma) :=
  PE.weak (pe_revF ha) fun σ H Q ⟨F, P, G, ρ, r', er, e, hm, hp⟩ => tE_bind er e hm hp fun G1 H1 ρ1 x v s1 e1 so1 hm1 hp1 => by
    obtain ⟨d, hd, hm2⟩ := drf_ok hm1
    obtain ⟨z, hz, rfl⟩ := optM_ok hm2
    obtain ⟨c, hc, rfl⟩ := map_some' hz
    have t := top_of e1 so1 hd
    unfold fRev at hc
    split at hc
    · cases hc
      obtain ⟨p, vs, rfl, h1, h2⟩ := t.lst e1.gh
      refine ⟨p, vs, rfl, .inl ⟨h1, fun q n => ?_⟩⟩
      obtain ⟨e4, ro⟩ := e1.newL n h2.rev
      exact hp1 _ G1 _ (Same.refl G1) e4 ro
    · cases hc
      obtain ⟨p, vs, rfl, h1, h2⟩ := t.tup e1.gh
      refine ⟨p, vs, rfl, .inr ⟨h1, fun q o n dn => ?_⟩⟩
      obtain ⟨G4, s4, e4, ro⟩ := e1.newT n dn h2.rev
      exact hp1 _ G4 _ s4 e4 ro
    · cases hc
/-! {} -/
def eDic0 : M Rf := pureM (.dat (.dic [] []))
theorem de_dic0 : DE X Y (.Dict [] [] pos) eDic0 := PE.weak pe_dnewK fun σ H Q ⟨F, P, G, ρ, r', er, e, hm, hp⟩ => fun p n => by
  cases hm
  obtain ⟨e1, s1⟩ := e.new (o := .dK []) n
  exact hp _ _ _ s1 e1 (.dic upd_same rfl .nil)
/-! list(range(..)) -/
def eLRg (lo hi : M Rf) : M Rf := bindM lo fun x => bindM hi fun y => match x, y with
  | .dat (.int i), .dat (.int j) => if -(2 ^ 62) ≤ i ∧ i < 2 ^ 62 ∧ -(2 ^ 62) ≤ j ∧ j < 2 ^ 62 ∧ (j - i).toNat ≤ 2 ^ 24 then pureM (.new (rangeD i (j - i).toNat)) else failM
  | _, _ => failM
theorem ims_rg {A : Amb} {G : Hp} (i j : Int) : Ims A G (rgV i j) (rangeD i (j - i).toNat) := by
  unfold rgV rangeD
  generalize (j - i).toNat = n
  have go : ∀ xs : List Nat, Ims A G (xs.map fun k => V.int (i + (k : Nat))) (xs.map fun (k : Nat) => D.int (i + k)) := fun xs => by
    induction xs with
    | nil => exact .nil
    | cons x xs ih => exact .cons (.int _) ih
  exact go _
theorem lrg_tail {σ : L2.St} {H : Hp} {Q : VK} (h : tG (amb X) Y (relE (amb X)) (eLRg ma mb) σ H Q) : tLstRg (tRg2 (tG (amb X) Y (relE (amb X)) ma) (tG (amb X) Y (relE (amb X)) mb)) σ H Q := by
  obtain ⟨F, P, G, ρ, r', er, e, hm, hp⟩ := h
  refine tG_bind (Re := relE (amb X)) er e hm hp fun G1 H1 ρ1 x v s1 e1 ro hk => tG_bind (Re := relE (amb X)) er e1 hk (hp.mono s1) fun G2 H2 ρ2 y u s2 e2 ro2 hk2 => ?_
  cases x with
  | dat d =>
    cases d with
    | int i =>
      cases y with
      | dat d2 =>
        cases d2 with
        | int j =>
          simp only at hk2
          split at hk2
          · rename_i c
            cases hk2
            cases (show Im (amb X) G1 v (.int i) from ro)
            cases (show Im (amb X) G2 u (.int j) from ro2)
            refine ⟨i, j, rfl, rfl, c, fun p n => ?_⟩
            obtain ⟨e4, ro4⟩ := e2.newL n (ims_rg i j)
            exact hp _ G2 _ (s1.trans s2) e4 ro4
          · cases hk2
        | _ => cases hk2
      | _ => cases hk2
    | _ => cases hk2
  | _ => cases hk2
theorem de_lrg2 {p p2 pos2 : Pos} (hc : X.calm = true) (hml : X.mg "list" = none) (hm : X.mg "range" = none) (ha : DE X Y a ma) (hb : DE X Y b mb) (hgl : Gl X "list" := by rfl) (hg : Gl X "range" := by rfl)
    (na : starEach [a, b] X.env = (false, eval a X.env) :: starEach [b] X.env := by rfl) (nb : starEach [b] X.env = (false, eval b X.env) :: starEach [] X.env := by rfl) (hp : (backTo pos2 (starEach [b] X.env)).any (·.1) = false := by rfl)
    (nl : starEach [.Call (.Name "range" p2) [a, b] [] pos2] X.env = (false, eval (.Call (.Name "range" p2) [a, b] [] pos2) X.env) :: starEach [] X.env := by rfl) :
    DE X Y (.Call (.Name "list" p) [.Call (.Name "range" p2) [a, b] [] pos2] [] pos) (eLRg ma mb) :=
  PE.weak (pe_listRg hc hgl hml (prg_2 hg hm ha hb na nb hp) nl) fun _ _ _ h => lrg_tail h
end
end Z

set_option Elab.async false
set_option linter.all false
set_option maxRecDepth 100000
set_option maxHeartbeats 4000000
/-! ZO: methods; isinstance; str; sorted of a tuple. -/
namespace Z
open PySem PySem.Spec PyProof.Rows L2
section
variable {X : Cx} {Y : Yc} {a b o : Expr} {es : List Expr} {ma mb mo : M Rf} {ms : M (List Rf)} {pos apos : Pos}
/-! methods that change our own list -/
def eLM (i : Nat) (f : List D → List D → Option (D × List D)) (ms : M (List Rf)) : M Rf := fun ρ => match ρ[i]? with
  | some (.cel _ (.lst _)) => bindM ms (fun xs => bindM (frzs xs) fun ds => fun ρ2 => match ρ2[i]? with
    | some (.cel p (.lst es)) => match f es ds with
      | some (d, es') => some (.ok (.dat d) (ρ2.set i (.cel p (.lst es'))))
      | none => none
    | _ => none) ρ
  | _ => none
/-- a method's rule does what f says -/
def RM (A : Amb) (r : V → List V → Hp → VK → Prop) (f : List D → List D → Option (D × List D)) : Prop := ∀ G H l vs es xs ds d es' (Q : VK), H l = some (.lst vs) → Ims A G vs es → Ims A G xs ds → f es ds = some (d, es') →
  (∀ v vs', Im A G v d → Ims A G vs' es' → Q v (upd H l (.lst vs'))) → r (.ref l) xs H Q
theorem lm_tail {i : Nat} {r : V → List V → Hp → VK → Prop} {f : List D → List D → Option (D × List D)} (hr : RM (amb X) r f) {σ : L2.St} {H : Hp} {Q : VK} (h : tG (amb X) Y (relE (amb X)) (eLM i f ms) σ H Q) :
    tBM X.K "list" r (tVar i) (tG (amb X) Y (relA (amb X)) ms) σ H Q := by
  obtain ⟨F, P, G, ρ, r', er, e, hm, hp⟩ := h
  unfold eLM at hm
  split at hm
  · rename_i p0 es0 q0
    obtain ⟨l, h1, ⟨vs0, h2, _⟩, _⟩ := e.cel i p0 _ q0
    refine ⟨.ref l, h1, .inl ⟨rfl, vs0, SqL.of h2⟩, ?_⟩
    refine tG_bind (Re := relA (amb X)) er e hm hp fun G1 H1 ρ1 xs vs s1 e1 so1 hm1 => ?_
    cases q : frzs xs ρ1 with
    | none =>
      rw [bindM_none q] at hm1
      cases hm1
    | some r1 =>
      obtain ⟨ds, ρ2, G2, rfl, s2, e2, im⟩ := frzs_ok e1 so1 q
      rw [bindM_ok q] at hm1
      split at hm1
      · rename_i p es q2
        obtain ⟨l', k1, ⟨ws, k2, k3⟩, _⟩ := e2.cel i p _ q2
        rw [h1] at k1
        cases k1
        split at hm1
        · rename_i d es' hf
          cases hm1
          refine hr G2 H1 l ws es vs ds d es' Q k2 k3 im hf fun v vs' i1 i2 => ?_
          exact hp v G2 _ (s1.trans s2) (e2.write q2 h1 ⟨vs', upd_same, i2⟩) i1
        · cases hm1
      · cases hm1
  · cases hm
theorem lm_tail0 {i : Nat} {r : V → List V → Hp → VK → Prop} {f : List D → List D → Option (D × List D)} (hr : RM (amb X) r f) {σ : L2.St} {H : Hp} {Q : VK} (h : tG (amb X) Y (relE (amb X)) (eLM i f aNil) σ H Q) : tBM0 X.K "list" r (tVar i) σ H Q := by
  have q := lm_tail hr h
  obtain ⟨x, h1, h2, F, P, G, ρ, r', er, e, hm, hp⟩ := q
  cases hm
  exact ⟨x, h1, h2, hp [] G H (Same.refl G) e .nil⟩
def fApp : List D → List D → Option (D × List D)
  | es, [d] => if es.length < sizeLine then some (.non, es ++ [d]) else none
  | _, _ => none
theorem rm_app : RM (amb X) rAppend fApp := fun G H l vs es xs ds d es' Q hl i1 i2 hf hq => by
  unfold fApp at hf
  split at hf
  · split at hf
    · rename_i hz
      cases hf
      cases i2 with
      | cons h r =>
        cases r
        exact ⟨l, vs, _, rfl, rfl, hl, by rw [i1.length]; exact hz, hq .non _ .non (i1.append' (.cons h .nil))⟩
    · cases hf
  · cases hf
def fPop : List D → List D → Option (D × List D)
  | es, [.int i] => if -(2 ^ 63) ≤ i ∧ i < 2 ^ 63 then (match seqIndex? i es.length with
    | some k => match es[k]? with
      | some d => some (d, es.eraseIdx k)
      | none => none
    | none => none) else none
  | _, _ => none
theorem rm_pop : RM (amb X) rPopAt fPop := fun G H l vs es xs ds d es' Q hl i1 i2 hf hq => by
  unfold fPop at hf
  split at hf
  · split at hf
    · rename_i c
      split at hf
      · rename_i k hk
        split at hf
        · rename_i y hy
          cases hf
          cases i2 with
          | cons h r =>
            cases r
            cases h
            obtain ⟨v, k1, k2⟩ := i1.get hy
            exact ⟨l, vs, _, k, v, rfl, rfl, hl, c.1, c.2, by rw [i1.length]; exact hk, k1, hq v _ k2 (i1.erase k)⟩
        · cases hf
      · cases hf
    · cases hf
  · cases hf
def fPop0 : List D → List D → Option (D × List D)
  | es, [] => match es[es.length - 1]? with
    | some d => some (d, es.dropLast)
    | none => none
  | _, _ => none
theorem rm_pop0 : RM (amb X) rPop fPop0 := fun G H l vs es xs ds d es' Q hl i1 i2 hf hq => by
  unfold fPop0 at hf
  split at hf
  · split at hf
    · rename_i y hy
      cases hf
      cases i2
      obtain ⟨v, k1, k2⟩ := i1.get hy
      exact ⟨l, vs, v, rfl, rfl, hl, by rw [i1.length]; exact k1, hq v _ k2 i1.dropLast⟩
    · cases hf
  · cases hf
theorem de_lm {id : String} {name : Str} {r : V → List V → Hp → VK → Prop} {i : Nat} {x : Str} {p : Pos} {f : List D → List D → Option (D × List D)} (slot : Slot "list" name id) (hty : typeOf (.builtin id) = pure (.type "method_descriptor")) (hmt : MtM X id r) (hr : RM (amb X) r f)
    (ho : PE X (.Name x p) (tVar i)) (ha : DA X Y (a :: es) ms) (hbase : attributeBase (.Name x p) name X.env (eval (.Name x p) X.env) = eval (.Name x p) X.env := by rfl)
    (hfew : ((backTo pos (starEach (a :: es) X.env)).all (fun x => !x.1) && (backToKw pos (keywordEach [] X.env)).all (fun x => x.1.isSome)
      && decide ((a :: es).length + ([] : List Keyword).length + (if ([] : List Keyword).isEmpty then 0 else 1) < 30)) = true := by rfl)
    (hline : (apos.endLine == pos.line) = true := by rfl) (hs : starEach (a :: es) X.env = (false, eval a X.env) :: starEach es X.env := by rfl) (hplain : (backTo pos (starEach es X.env)).any (·.1) = false := by rfl) :
    DE X Y (.Call (.Attribute (.Name x p) name apos) (a :: es) [] pos) (eLM i f ms) := PE.weak (pe_bm PySem.F.plainAttrs_list slot hty hmt ho ha hbase hfew hline hs hplain) fun _ _ _ h => lm_tail hr h
theorem de_lm0 {id : String} {name : Str} {r : V → List V → Hp → VK → Prop} {i : Nat} {x : Str} {p : Pos} {f : List D → List D → Option (D × List D)} (slot : Slot "list" name id) (hty : typeOf (.builtin id) = pure (.type "method_descriptor")) (hmt : MtM X id r) (hr : RM (amb X) r f)
    (ho : PE X (.Name x p) (tVar i)) (hbase : attributeBase (.Name x p) name X.env (eval (.Name x p) X.env) = eval (.Name x p) X.env := by rfl) (hline : (apos.endLine == pos.line) = true := by rfl) :
    DE X Y (.Call (.Attribute (.Name x p) name apos) [] [] pos) (eLM i f aNil) := PE.weak (pe_bm0 PySem.F.plainAttrs_list slot hty hmt ho hbase hline) fun _ _ _ h => lm_tail0 hr h
theorem de_app {i : Nat} {x : Str} {p : Pos} (ho : PE X (.Name x p) (tVar i)) (ha : DA X Y [a] ms) (hbase : attributeBase (.Name x p) "append" X.env (eval (.Name x p) X.env) = eval (.Name x p) X.env := by rfl)
    (hfew : ((backTo pos (starEach [a] X.env)).all (fun x => !x.1) && (backToKw pos (keywordEach [] X.env)).all (fun x => x.1.isSome)
      && decide ([a].length + ([] : List Keyword).length + (if ([] : List Keyword).isEmpty then 0 else 1) < 30)) = true := by rfl)
    (hline : (apos.endLine == pos.line) = true := by rfl) (hs : starEach [a] X.env = (false, eval a X.env) :: starEach [] X.env := by rfl) (hplain : (backTo pos (starEach [] X.env)).any (·.1) = false := by rfl) :
    DE X Y (.Call (.Attribute (.Name x p) "append" apos) [a] [] pos) (eLM i fApp ms) := de_lm F.slot_list_append F.type_list_append mt_append rm_app ho ha hbase hfew hline hs hplain
theorem de_pop {i : Nat} {x : Str} {p : Pos} (ho : PE X (.Name x p) (tVar i)) (ha : DA X Y [a] ms) (hbase : attributeBase (.Name x p) "pop" X.env (eval (.Name x p) X.env) = eval (.Name x p) X.env := by rfl)
    (hfew : ((backTo pos (starEach [a] X.env)).all (fun x => !x.1) && (backToKw pos (keywordEach [] X.env)).all (fun x => x.1.isSome)
      && decide ([a].length + ([] : List Keyword).length + (if ([] : List Keyword).isEmpty then 0 else 1) < 30)) = true := by rfl)
    (hline : (apos.endLine == pos.line) = true := by rfl) (hs : starEach [a] X.env = (false, eval a X.env) :: starEach [] X.env := by rfl) (hplain : (backTo pos (starEach [] X.env)).any (·.1) = false := by rfl) :
    DE X Y (.Call (.Attribute (.Name x p) "pop" apos) [a] [] pos) (eLM i fPop ms) := de_lm F.slot_list_pop F.type_list_pop mt_popAt rm_pop ho ha hbase hfew hline hs hplain
theorem de_pop0 {i : Nat} {x : Str} {p : Pos} (ho : PE X (.Name x p) (tVar i)) (hbase : attributeBase (.Name x p) "pop" X.env (eval (.Name x p) X.env) = eval (.Name x p) X.env := by rfl) (hline : (apos.endLine == pos.line) = true := by rfl) :
    DE X Y (.Call (.Attribute (.Name x p) "pop" apos) [] [] pos) (eLM i fPop0 aNil) := de_lm0 F.slot_list_pop F.type_list_pop mt_pop rm_pop0 ho hbase hline
/-! t.index(i), ints -/
def tyTup (K : PySem.W.Frag) (x : V) (H : Hp) : Prop := ∃ a ys, x = .ref a ∧ PlT K H a ys
theorem ty_tup : TyOk X "tuple" (tyTup X.K) := by
  intro pins σ H s x v I r ty
  obtain ⟨a, ys, rfl, h⟩ := ty
  cases r
  rcases h with ⟨o, h, d⟩ | ⟨o, its, n, h1, h0, h2, h3, h4, h5⟩
  · obtain ⟨g, _, its, rv, ht⟩ := I.hok a _ h
    exact ⟨ht.typeIs, fun b e => by cases e; exact ⟨o, g, d⟩⟩
  · exact ⟨⟨o, I.kIn a o h1, h2⟩, fun b e => by cases e; exact ⟨o, I.kIn a o h1, h0⟩⟩
def rIdxT (K : PySem.W.Frag) : V → List V → Hp → VK → Prop := fun x xs H Q => ∃ (a : Addr) (ns : List Int) (k : Int), x = .ref a ∧ xs = [.int k] ∧ SqT K H a (ns.map V.int) ∧ k ∈ ns ∧ Q (.int (ns.idxOf k : Nat)) H
theorem mt_idxT : MtR X "tuple.index" (rIdxT X.K) := by
  intro pins s σ H x xs v us Q I rx rs h
  obtain ⟨a, ns, k, rfl, rfl, hq, hk, q⟩ := h
  cases rx
  obtain ⟨u, rfl, t, rfl⟩ := vals1 rs
  obtain ⟨its, r, pl, hz⟩ := I.tuple hq
  exact PySem.SeqAt.tuple_index_ints pl r.ints hk ⟨.int _, H, I.tok _, ⟨_, rfl⟩, q⟩
def fIdxT : List D → List D → Option D
  | es, [.int k] => match dInts es with
    | some ns => if k ∈ ns then some (.int (ns.idxOf k : Nat)) else none
    | none => none
  | _, _ => none
def eTM (f : List D → List D → Option D) (mo : M Rf) (ms : M (List Rf)) : M Rf := bindM mo fun x => match x with
  | .dat (.tup es) => bindM ms fun xs => bindM (drfs xs) fun ds => optM ((f es ds).map mk)
  | _ => failM
theorem de_idxT (ho : DE X Y o mo) (ha : DA X Y [a] ms) (hbase : attributeBase o "index" X.env (eval o X.env) = eval o X.env := by rfl)
    (hfew : ((backTo pos (starEach [a] X.env)).all (fun x => !x.1) && (backToKw pos (keywordEach [] X.env)).all (fun x => x.1.isSome)
      && decide ([a].length + ([] : List Keyword).length + (if ([] : List Keyword).isEmpty then 0 else 1) < 30)) = true := by rfl)
    (hline : (apos.endLine == pos.line) = true := by rfl) (hs : starEach [a] X.env = (false, eval a X.env) :: starEach [] X.env := by rfl) (hplain : (backTo pos (starEach [] X.env)).any (·.1) = false := by rfl) :
    DE X Y (.Call (.Attribute o "index" apos) [a] [] pos) (eTM fIdxT mo ms) :=
  PE.weak (pe_mG ty_tup PySem.F.plainAttrs_tuple PySem.F.slot_tuple_index PySem.F.type_tuple_index mt_idxT ho ha hbase hfew hline hs hplain) fun σ H Q ⟨F, P, G, ρ, r', er, e, hm, hp⟩ =>
    tG_bind (Re := relE (amb X)) er e hm hp fun G1 H1 ρ1 x v s1 e1 ro hk => by
      split at hk
      · rename_i es
        cases (show Im (amb X) G1 v (.tup es) from ro) with
        | @tup l vs _ hl im =>
          refine ⟨⟨l, vs, rfl, same_plT e1.gh hl⟩, tG_bind (Re := relA (amb X)) er e1 hk (hp.mono s1) fun G2 H2 ρ2 xs ws s2 e2 so hk2 => ?_⟩
          obtain ⟨ds, d1, hm2⟩ := drfs_ok hk2
          obtain ⟨z, hz, rfl⟩ := optM_ok hm2
          obtain ⟨d, hd, rfl⟩ := map_some' hz
          have t := tops_of e2 so d1
          clear hm hm2 hk hk2 hz
          unfold fIdxT at hd
          split at hd
          · split at hd
            · rename_i ns hn
              split at hd
              · rename_i hmem
                cases hd
                obtain ⟨y, rfl, u⟩ := t.one
                obtain ⟨e3, e4⟩ := ims_ints im hn
                rw [u.int]
                exact ⟨l, ns, _, rfl, rfl, e3 ▸ same_sqT e2.gh (same_sqT s2 hl.sq), hmem, hp _ G2 H2 (s1.trans s2) e2 (.int _)⟩
              · cases hd
            · cases hd
          · cases hd
      · cases hk
/-! isinstance(x, T), T a built-in type -/
inductive Ty | int | bool | str | list | tuple | dict
def Ty.nm : Ty → String
  | .int => "int"
  | .bool => "bool"
  | .str => "str"
  | .list => "list"
  | .tuple => "tuple"
  | .dict => "dict"
def isTy : D → Ty → Option Bool
  | .non, _ => some false
  | .bl _, .bool => some true
  | .bl _, .int => some true
  | .bl _, _ => some false
  | .int _, .int => some true
  | .int _, _ => some false
  | .str _, .str => some true
  | .str _, _ => some false
  | .lst _, .list => some true
  | .lst _, _ => some false
  | .tup _, .tuple => some true
  | .tup _, _ => some false
  | .pr _, .tuple => some true
  | .pr _, _ => some false
  | .dic _ _, .dict => some true
  | .dic _ _, _ => some false
  | .ins _ _ _, _ => none
def D.ty : D → Option String
  | .non => some "NoneType"
  | .bl _ => some "bool"
  | .int _ => some "int"
  | .str _ => some "str"
  | .lst _ => some "list"
  | .tup _ => some "tuple"
  | .pr _ => some "tuple"
  | .dic _ _ => some "dict"
  | .ins _ _ _ => none
theorem isTy_kit {d : D} {t : Ty} {b : Bool} (h : isTy d t = some b) : ∃ n, d.ty = some n ∧ kitB n t.nm = some b := by
  cases d <;> cases t <;> first | (cases h; done) | (cases h; exact ⟨_, rfl, by decide +kernel⟩)
theorem sqL_ty {K : PySem.W.Frag} {H : Hp} {a : Addr} {xs : List V} (h : SqL K H a xs) : TyX K H (.ref a) (.type "list") := by
  rcases h with (h | ⟨o, h⟩) | ⟨o, its, n, h1, h2, _⟩
  · exact .base (.lst h)
  · exact .base (.frz h)
  · exact .kList h1 h2
theorem sqT_ty {K : PySem.W.Frag} {H : Hp} {a : Addr} {xs : List V} (h : SqT K H a xs) : TyX K H (.ref a) (.type "tuple") := by
  rcases h with (h | ⟨o, h⟩) | ⟨o, its, n, h1, h2, _⟩
  · exact .base (.tup h)
  · exact .fTuple h
  · exact .kTuple h1 h2
theorem Top.ty {A : Amb} {G H : Hp} (g : Same G H) {d : D} {v : V} {n : String} (h : Top A G H v d) (e : d.ty = some n) : TyX A.K H v (.type n) := by
  rcases h with h | ⟨l, vs, ds, rfl, rfl, h1, h2⟩ | ⟨l, C, dx, fs, c, ns, ds, rfl, rfl, m, h1, h2, h3⟩
  · cases h with
    | non =>
      cases e
      exact .base .non
    | bl b =>
      cases e
      exact .base (.bl b)
    | int i =>
      cases e
      exact .base (.int i)
    | str x =>
      cases e
      exact .base (.str x)
    | lst h r =>
      cases e
      exact sqL_ty (g.seq h)
    | tup h r =>
      cases e
      exact sqT_ty (same_sqT g h.sq)
    | pr h r =>
      cases e
      exact sqT_ty (same_sqT g h)
    | dic h n r =>
      cases e
      exact .base (.dK (g _ _ h))
    | ins m h n r => cases e
  · cases e
    exact .base (.lst h1)
  · cases e
def eIsi (t : Ty) (ma : M Rf) : M Rf := bindM ma fun x => bindM (drf (stl x)) fun d => optM ((isTy d t).map fun b => .dat (.bl b))
theorem de_isi {t : Ty} {p p2 : Pos} (hm : X.mg "isinstance" = none) (hmt : X.mg t.nm = none) (ha : DE X Y a ma) (hv : bootBuiltins t.nm = some (.type t.nm) := by rfl) (hgt : Gl X t.nm := by rfl) (hg : Gl X "isinstance" := by rfl) (hn : (t.nm : Str) ≠ "__name__" := by decide) (hdb : ((t.nm : Str) == ("__debug__" : Str)) = false := by decide)
    (he : starEach [a, .Name t.nm p2] X.env = (false, eval a X.env) :: starEach [.Name t.nm p2] X.env := by rfl) (he2 : starEach [.Name t.nm p2] X.env = (false, eval (.Name t.nm p2) X.env) :: starEach [] X.env := by rfl)
    (hpl : (backTo pos (starEach [.Name t.nm p2] X.env)).any (·.1) = false := by rfl) : DE X Y (.Call (.Name "isinstance" p) [a, .Name t.nm p2] [] pos) (eIsi t ma) :=
  PE.weak (pe_callB call_isi hg hm rfl (pa_cons ha (pa_cons (pe_bltn (v := .ty t.nm) hgt hmt hv rfl hn hdb) pa_nil he2) he) (by decide) (by decide) he hpl) fun σ H Q ⟨F, P, G, ρ, r', er, e, hm, hp⟩ =>
    tE_bind er e hm hp fun G1 H1 ρ1 x v s1 e1 so hk hp1 => by
      obtain ⟨d, hd, hm2⟩ := drf_ok hk
      obtain ⟨z, hz, rfl⟩ := optM_ok hm2
      obtain ⟨b, hb, rfl⟩ := map_some' hz
      obtain ⟨n, h1, h2⟩ := isTy_kit hb
      exact ⟨v, .ty t.nm, _, _, b, rfl, .ty _, (top_of e1 so hd).ty e1.gh h1, kit_ty h2, hp1 _ G1 H1 (Same.refl G1) e1 (.bl b)⟩
end
end Z

set_option Elab.async false
set_option linter.all false
set_option maxRecDepth 100000
set_option maxHeartbeats 4000000
/-! ZP: str of a list; sorted of a tuple. -/
namespace Z
open PySem PySem.Spec PyProof.Rows L2
mutual
/-- as text: as for ==, and {} -/
def D.tx : D → Option PyData
  | .non => some .none
  | .bl b => some (.bool b)
  | .int i => some (.int i)
  | .str x => some (.str x)
  | .lst ds => (D.txs ds).map .list
  | .tup ds => (D.txs ds).map .tuple
  | .pr ds => (D.txs ds).map .tuple
  | .dic [] [] => some (.dict [])
  | .dic _ _ => none
  | .ins _ _ _ => none
def D.txs : List D → Option (List PyData)
  | [] => some []
  | d :: ds => match D.tx d, D.txs ds with
    | some x, some xs => some (x :: xs)
    | _, _ => none
end
section
variable {X : Cx} {pins : List (Addr × Obj)} {σ : L2.St} {H G : Hp} {s : Shared}
abbrev RpR (P : Program) (w : World) (h : Heap) (u : Value) (x : PyData) : Prop := (∃ as, Reads h u x as) ∧ ∃ bs, ReadAtMost h x.depth bs ∧ ReprK P w bs h x.depth u x.shown
abbrev RpA (P : Program) (w : World) (h : Heap) (us : List Value) (xs : List PyData) : Prop := (∃ as, ReadsAll h us xs as) ∧ ∃ bs, ReadAtMost h (PyData.depthAll xs) bs ∧ ReprAllK P w bs h (PyData.depthAll xs) us (PyData.shownAll xs)
theorem RpA.cons {P : Program} {w : World} {h : Heap} {u : Value} {us : List Value} {x : PyData} {xs : List PyData} (h1 : RpR P w h u x) (h2 : RpA P w h us xs) : RpA P w h (u :: us) (x :: xs) := by
  obtain ⟨⟨as, r1⟩, b1, l1, k1⟩ := h1
  obtain ⟨⟨bs, r2⟩, b2, l2, k2⟩ := h2
  refine ⟨⟨_, .cons r1 r2⟩, b1 ++ b2, ?_, ?_⟩
  · simp only [PyData.depthAll]
    exact (l1.mono (Nat.le_max_left _ _)).append (l2.mono (Nat.le_max_right _ _))
  · simp only [PyData.depthAll, PyData.shownAll]
    exact .cons ((k1.more fun _ m => List.mem_append_left _ m).level_le (Nat.le_max_left _ _)) (k2.more_le (fun _ m => List.mem_append_right _ m) (Nat.le_max_right _ _))
theorem rp_list {P : Program} {w : World} {h : Heap} {a : Addr} {o : Obj} {us : List Value} {n : Nat} {xs : List PyData} (g : h.get? a = some o) (c : o.cls = .type "list") (d : o.data = .seq us.toArray n) (k : RpA P w h us xs) : RpR P w h (.ref a) (.list xs) := by
  obtain ⟨⟨as, r⟩, bs, l, q⟩ := k
  have rd : Reads h (.ref a) (.list xs) (a :: as) := .list g c d r
  have na : a ∉ bs := not_mem_of_deeper rd (by simp only [PyData.depth]; omega) l
  refine ⟨⟨_, rd⟩, a :: bs, ReadAtMost.cons rd (by simp only [PyData.depth]; omega) l, ?_⟩
  simp only [PyData.depth, PyData.shown]
  cases us with
  | nil =>
    cases r
    simp only [PyData.shownAll, listText_nil]
    exact ReprK.listEmpty g c d
  | cons u us => exact ReprK.list g c d na (by simpa using q.length_eq) fun i y e => q.item i y (by simpa using e)
theorem rp_tuple {P : Program} {w : World} {h : Heap} {a : Addr} {o : Obj} {us : List Value} {n : Nat} {xs : List PyData} (g : h.get? a = some o) (c : o.cls = .type "tuple") (d : o.data = .seq us.toArray n) (k : RpA P w h us xs) : RpR P w h (.ref a) (.tuple xs) := by
  obtain ⟨⟨as, r⟩, bs, l, q⟩ := k
  have rd : Reads h (.ref a) (.tuple xs) as := .tuple g c d r
  have na : a ∉ bs := not_mem_of_deeper rd (by simp only [PyData.depth]; omega) l
  refine ⟨⟨_, rd⟩, a :: bs, ReadAtMost.cons rd (by simp only [PyData.depth]; omega) l, ?_⟩
  simp only [PyData.depth, PyData.shown]
  exact ReprK.tuple g c d na q
theorem rp_dict {P : Program} {w : World} {h : Heap} {a : Addr} {o : Obj} {n : Nat} (g : h.get? a = some o) (c : o.cls = .type "dict") (d : o.data = .dict #[] n) (ns : (a == sysModules) = false) : RpR P w h (.ref a) (.dict []) := by
  have rd : Reads h (.ref a) (.dict []) (a :: [] ++ []) := .dict g c d .nil .nil
  refine ⟨⟨_, rd⟩, [a], ReadAtMost.cons rd (Nat.zero_le _) (fun _ m => nomatch m), ?_⟩
  have k : ReprEntriesK P w [] h 0 (#[] : Array DictEntry).toList _ := ReprEntriesK.of_two [] [] [] .nil .nil
  simp only [PyData.depth, PyData.shown, PyData.shownKv]
  exact ReprK.dict g c d ns (fun m => nomatch m) k
mutual
theorem Im.rp {P' : Program} {w' : World} (I : Inv X pins σ H s) (g : Same G H) : ∀ {d : D} {v : V} {u : Value} {x : PyData}, Im (amb X) G v d → RelV v u → d.tx = some x → x.showable = true → x.shown.length ≤ sizeLine → RpR P' w' s.heap u x
  | .non, _, _, _, h, r, e, _, _ => by
    cases h
    cases e
    cases r
    exact ⟨⟨_, .none⟩, [], (fun _ h => nomatch h), by simp only [PyData.shown]; exact .of_is ReprIs.none _ _ _⟩
  | .bl b, _, _, _, h, r, e, _, _ => by
    cases h
    cases e
    cases r
    exact ⟨⟨_, .bool b⟩, [], (fun _ h => nomatch h), by simp only [PyData.shown]; exact .of_is (ReprIs.bool b) _ _ _⟩
  | .int i, _, _, _, h, r, e, hs, _ => by
    cases h
    cases e
    obtain ⟨t, rfl⟩ := r
    exact ⟨⟨_, .int i t⟩, [], (fun _ h => nomatch h), by simp only [PyData.shown]; exact .of_is (ReprIs.int t (by simpa [PyData.showable] using hs)) _ _ _⟩
  | .str x, _, _, _, h, r, e, _, hz => by
    cases h
    cases e
    obtain ⟨t, rfl⟩ := r
    exact ⟨⟨_, .str x t⟩, [], (fun _ h => nomatch h), by simp only [PyData.shown]; exact .of_is (ReprIs.str x t (by simpa only [PyData.shown] using hz)) _ _ _⟩
  | .lst ds, _, _, _, h, r, e, hs, hz => by
    unfold D.tx at e
    obtain ⟨xs, e1, rfl⟩ := map_some' e
    cases h with
    | lst h k =>
      cases r
      obtain ⟨its, rv, ⟨o, n, ho, hc, _, hd⟩, _⟩ := I.list (g.seq h)
      have hz : (listText (PyData.shownAll xs)).length ≤ sizeLine := by simpa only [PyData.shown] using hz
      exact rp_list ho hc hd (Ims.rp I g k rv e1 (by simpa [PyData.showable] using hs) fun t ht => Nat.le_trans (listText_mem_le ht) hz)
  | .tup ds, _, _, _, h, r, e, hs, hz => by
    unfold D.tx at e
    obtain ⟨xs, e1, rfl⟩ := map_some' e
    cases h with
    | tup h k =>
      cases r
      obtain ⟨its, rv, ⟨o, ho, hc, n, hd⟩, _⟩ := I.tuple (same_sqT g h.sq)
      have hz : (tupleText (PyData.shownAll xs)).length ≤ sizeLine := by simpa only [PyData.shown] using hz
      exact rp_tuple ho hc hd (Ims.rp I g k rv e1 (by simpa [PyData.showable] using hs) fun t ht => Nat.le_trans (tupleText_mem_le ht) hz)
  | .pr ds, _, _, _, h, r, e, hs, hz => by
    unfold D.tx at e
    obtain ⟨xs, e1, rfl⟩ := map_some' e
    cases h with
    | pr h k =>
      cases r
      obtain ⟨its, rv, ⟨o, ho, hc, n, hd⟩, _⟩ := I.tuple (same_sqT g h)
      have hz : (tupleText (PyData.shownAll xs)).length ≤ sizeLine := by simpa only [PyData.shown] using hz
      exact rp_tuple ho hc hd (Ims.rp I g k rv e1 (by simpa [PyData.showable] using hs) fun t ht => Nat.le_trans (tupleText_mem_le ht) hz)
  | .dic [] [], _, _, _, h, r, e, _, _ => by
    cases e
    cases h with
    | @dic a kvs _ _ h k _ =>
      cases r
      have hk : kvs = [] := List.map_eq_nil_iff.mp k
      subst hk
      obtain ⟨_, ns, vs, rel, o, es, ep, ho, ex, hd, _, hp, _⟩ := I.hok a _ (g _ _ h)
      cases rel
      cases hes : es.toList with
      | cons e0 er =>
        rw [hes] at hp
        cases hp
      | nil =>
        have : es = #[] := by
          rw [← Array.toArray_toList (xs := es), hes]
        subst this
        exact rp_dict ho ex.1 hd ns
  | .dic (_ :: _) _, _, _, _, _, _, e, _, _ => by
    unfold D.tx at e
    cases e
  | .dic [] (_ :: _), _, _, _, _, _, e, _, _ => by
    unfold D.tx at e
    cases e
  | .ins _ _ _, _, _, _, _, _, e, _, _ => by
    unfold D.tx at e
    cases e
theorem Ims.rp {P' : Program} {w' : World} (I : Inv X pins σ H s) (g : Same G H) : ∀ {ds : List D} {vs : List V} {us : List Value} {xs : List PyData}, Ims (amb X) G vs ds → Vals vs us → D.txs ds = some xs → PyData.showableAll xs = true → (∀ t ∈ PyData.shownAll xs, t.length ≤ sizeLine) → RpA P' w' s.heap us xs
  | [], _, _, _, h, r, e, _, _ => by
    unfold D.txs at e
    cases h
    cases e
    cases r
    exact ⟨⟨_, .nil⟩, [], (fun _ h => nomatch h), by simp only [PyData.shownAll]; exact .nil⟩
  | d :: ds, _, _, _, h, r, e, hs, hz => by
    unfold D.txs at e
    cases h with
    | cons h k =>
      cases r with
      | cons r1 r2 =>
        cases e1 : d.tx with
        | none =>
          rw [e1] at e
          cases e
        | some x =>
          cases e2 : D.txs ds with
          | none =>
            rw [e1, e2] at e
            cases e
          | some xs =>
            rw [e1, e2] at e
            cases e
            have hs : x.showable = true ∧ PyData.showableAll xs = true := by simpa [PyData.showableAll] using hs
            exact .cons (Im.rp I g h r1 e1 hs.1 (hz _ (by simp only [PyData.shownAll]; exact .head _))) (Ims.rp I g k r2 e2 hs.2 fun t ht => hz t (by simp only [PyData.shownAll]; exact .tail _ ht))
end
/-- str(xs) -/
def fStr : List D → Option D
  | [.lst ds] => match D.txs ds with
    | some xs => if PyData.showableAll xs = true ∧ (listText (PyData.shownAll xs)).length ≤ sizeLine ∧ PyData.depthAll xs ≤ 40 then some (.str (listText (PyData.shownAll xs))) else none
    | none => none
  | _ => none
def rStr (X : Cx) : List V → Hp → VK → Prop := fun vs H Q => ∃ (G : Hp) (a : Addr) (us : List V) (ds : List D) (xs : List PyData), vs = [.ref a] ∧ Same G H ∧ SqL X.K H a us ∧ Ims (amb X) G us ds ∧ D.txs ds = some xs ∧
  PyData.showableAll xs = true ∧ (listText (PyData.shownAll xs)).length ≤ sizeLine ∧ PyData.depthAll xs ≤ 40 ∧ Q (.str (listText (PyData.shownAll xs))) H
theorem call_strL (hg : X.A.guards = some []) (hu : X.A.units + 64 < cLine) : CallR X (.type "str") (rStr X) := by
  intro pins s σ H vs us Q I r h
  obtain ⟨G, a, ws, ds, xs, rfl, g, hq, im, e, hs, hz, hd, q⟩ := h
  obtain ⟨u, rfl, rx⟩ := vals1 r
  cases rx
  obtain ⟨its, rv, ⟨o, n, ho, hc, _, hda⟩, _⟩ := I.list hq
  have fin : ∀ h' u tk, (∀ b o, s.heap.get? b = some o → h'.get? b = some o) → EP X pins σ Q (.str (listText (PyData.shownAll xs)) u) { s with heap := h', toks := tk } := fun h' u tk hk => ⟨.str _, H, I.kept hk, ⟨u, rfl⟩, q⟩
  refine callType_new F.called_str (by decide) (F.typeCall_str_1 _) (F.newCall_str_1 _) (fun obj => F.args_object_init_2 obj _) F.entry_str_new
    (meets_str_new (S := fun A' R s' => A'.guards = some [] ∧ A'.units + 50 < cLine ∧ (∀ b o, s.heap.get? b = some o → s'.heap.get? b = some o) ∧
        ∀ h' u tk, (∀ b o, s'.heap.get? b = some o → h'.get? b = some o) → R (.ok (.ret (.str (listText (PyData.shownAll xs)) u))) { s' with heap := h', toks := tk }) ?_)
    ⟨hg, by show X.A.units + 1 + 50 < cLine; omega, fun _ _ z => z, fun h' u tk hk => ⟨typeIs_str _ _ _, fin h' u tk hk⟩⟩
  intro P' w' A' R s' ⟨h1, h2, h3, h4⟩
  refine wpAny_strOf_slot rfl (by show A'.units + 1 + 1 < cLine; omega) ⟨o, h3 _ _ ho, hc⟩ F.slot_list_str F.slot_list_repr.toG ?_
  obtain ⟨⟨as, rd⟩, bs, l, k⟩ : RpA P' w' s.heap its xs := Ims.rp I g im rv e hs fun t ht => Nat.le_trans (listText_mem_le ht) hz
  have rd' : Reads s.heap (.ref a) (.list xs) (a :: as) := .list ho hc hda rd
  have na : a ∉ bs := not_mem_of_deeper rd' (by simp only [PyData.depth]; omega) l
  cases its with
  | nil =>
    cases rd
    simp only [PyData.shownAll, listText_nil] at h4
    exact call_list_repr_empty ⟨o, h3 _ _ ho, hc⟩ (h3 _ _ ho) hda ⟨_, _, rfl, h4 s'.heap _ _ fun _ _ z => z⟩
  | cons y ys =>
    exact call_list_reprK ho hc hda na (by simpa using k.length_eq) (fun i z e => k.item i z (by simpa using e)) h1 (fun b _ => Clear.nil b) (by show A'.units + 1 + 1 + (PyData.depthAll xs + 1) < cLine; omega) h3 (fun h' u tk hk => ⟨_, _, rfl, h4 h' u tk hk⟩) hz
theorem cd_str (hg : X.A.guards = some []) (hu : X.A.units + 64 < cLine) : CaD X (.type "str") fStr := ⟨_, call_strL hg hu, fun F P σ G H ρ xs ds d Q e t hf hq => by
  unfold fStr at hf
  split at hf
  · split at hf
    · rename_i ys hy
      split at hf
      · rename_i c
        cases hf
        obtain ⟨x, rfl, u⟩ := t.one
        rcases u with im | ⟨l, vs, ds', rfl, hd, h1, h2⟩ | ⟨_, _, _, _, _, _, _, _, hd, _⟩
        · cases im with
          | lst h r => exact ⟨G, _, _, _, ys, rfl, e.gh, e.gh.seq h, r, hy, c.1, c.2.1, c.2.2, hq _ G H (Same.refl G) e (.str _)⟩
        · cases hd
          exact ⟨G, l, vs, _, ys, rfl, e.gh, SqL.of h1, h2, hy, c.1, c.2.1, c.2.2, hq _ G H (Same.refl G) e (.str _)⟩
        · cases hd
      · cases hf
    · cases hf
  · cases hf⟩
/-! sorted of a tuple -/
theorem collect_tup {prog : Program} {w : World} {A : Around} {E : Value → Shared → Prop} {a : Addr} {vs : List Value} {Q : List Value → Shared → Prop} (hl : IsTup s.heap a vs.toArray)
    (h : Q vs { s with heap := (s.heap.push (seqObj "list" #[] 0)).update s.heap.objs.size (Obj.mapSeq (· ++ vs.toArray)) }) (hsz : vs.length ≤ sizeLine) : wpAny (model prog w) A (collect (.ref a)) Q E s := by
  obtain ⟨o, ho, hc, n, hd⟩ := id hl
  unfold collect
  refine wpAny_bind (wpAny_runValue (codeAny_builtin entry_proto_collect' ?_))
  show wpAny _ _ (do again (.builtin "list.__iadd__" ⟨[← newList [], .ref a], []⟩)) _ _ s
  refine wpAny_bind (wpAny_newList (wpAny_pure ⟨Code.quiet_builtin _ (by decide +kernel), codeAny_builtin entry_list_iadd' ?_⟩))
  show wpAny _ _ (Builtin.List.listExtendWith (.ref s.heap.objs.size) (.ref a) (.ref s.heap.objs.size)) _ _
    { s with heap := s.heap.push (seqObj "list" #[] 0) }
  unfold Builtin.List.listExtendWith
  have ho2 : (s.heap.push (seqObj "list" #[] 0)).get? a = some o := Heap.get?_push_of_some _ ho
  refine wpAny_bind (wpAny_typeOf (T := "tuple") ⟨o, ho2, hc⟩ ?_)
  have ht : (Value.type "tuple" == Value.type "tuple") = true := by rfl
  rw [if_pos (by rw [ht]; simp)]
  refine wpAny_bind (listItems_at ho2 hd (wpAny_bind (listItems_at (xs := #[]) (n := 0) (Heap.get?_push_size _ rfl) rfl ?_)))
  rw [if_neg (by simp)]
  refine wpAny_bind (listUpdate_at (xs := #[]) (n := 0) (Heap.get?_push_size _ rfl) rfl ?_ (Nat.zero_le _) ?_)
  · refine wpAny_pure ?_
    show wpAny (model prog w) A (do
        let o ← load s.heap.objs.size
        match o.data with
        | .seq xs _ => pure xs.toList
        | _ => unsupported "internal:collect") Q E _
    refine wpAny_bind (wpAny_load (get?_update_seq (Heap.get?_push_size _ rfl) _) ?_)
    show wpAny _ _ (pure ((#[] : Array Value) ++ vs.toArray).toList) Q E _
    rw [show ((#[] : Array Value) ++ vs.toArray).toList = vs by simp]
    exact wpAny_pure h
  · show (#[] ++ vs.toArray).size ≤ sizeLine + 1
    simp only [Array.size_append, List.size_toArray, List.length_nil]
    omega
end
end Z

set_option Elab.async false
set_option linter.all false
set_option maxRecDepth 100000
set_option maxHeartbeats 4000000
/-! ZQ: sorted of a tuple of ints. -/
namespace SrtO
open PySem PySem.Spec PyProof.Rows
section
variable {prog : Program} {w : World} {A : Around} {E : Value → Shared → Prop} {s : Shared}
theorem sorted_tupO {l : Addr} {vs : List Value} {lt : Value → Value → Bool} {Q : Value → Shared → Prop} (O : Swo lt) (hl : IsTup s.heap l vs.toArray) (hz : vs.length ≤ sizeLine)
    (hS : 2 ≤ vs.length → ∀ (h₁ : Heap) (a : Addr), h₁.get? a = some (seqObj "list" vs.toArray 0) → (∀ b o, s.heap.get? b = some o → b ≠ a ∧ h₁.get? b = some o) → SortableO prog w A.in1.in1 { s with heap := h₁ } a vs lt)
    (h : ∀ out : List Value, Srtd lt out → Stb lt out vs → Q (.ref (s.heap.objs.size + 1)) { s with heap := sortedAll s.heap vs out.toArray }) : wpAny (model prog w) A (call (.builtin "sorted") [.ref l]) Q E s := by
  refine Calls.call_function_entry kind_sorted plain_sorted entry_sorted (args_sorted1 _) ?_
  unfold Builtin.«sorted»
  refine wpAny_bind (m := checkCount "sorted" 1 1 _) (wpAny_pure (wpAny_bind (Z.collect_tup hl (wpAny_bind (wpAny_newList ?_ hz)) hz)))
  have h1 : ((s.heap.push (seqObj "list" #[] 0)).update s.heap.objs.size (Obj.mapSeq (· ++ vs.toArray))).objs.size = s.heap.objs.size + 1 := by
    rw [Heap.size_update]
    exact size_push' ..
  have at_ : (((s.heap.push (seqObj "list" #[] 0)).update s.heap.objs.size (Obj.mapSeq (· ++ vs.toArray))).push (seqObj "list" vs.toArray 0)).get? (s.heap.objs.size + 1) = some (seqObj "list" vs.toArray 0) := by
    rw [← h1]
    exact Heap.get?_push_size _ rfl
  have old : ∀ b o, s.heap.get? b = some o → b ≠ s.heap.objs.size + 1 ∧ (((s.heap.push (seqObj "list" #[] 0)).update s.heap.objs.size (Obj.mapSeq (· ++ vs.toArray))).push (seqObj "list" vs.toArray 0)).get? b = some o := by
    intro b o q
    have lt := Heap.lt_size q
    refine ⟨Nat.ne_of_lt (Nat.lt_succ_of_lt lt), Heap.get?_push_of_some _ ?_⟩
    rw [Heap.get?_update_ne _ _ _ _ (Nat.ne_of_lt lt)]
    exact Heap.get?_push_of_some _ q
  show wpAny _ _ _ _ _ { s with heap := (((s.heap.push (seqObj "list" #[] 0)).update s.heap.objs.size (Obj.mapSeq (· ++ vs.toArray))).push (seqObj "list" vs.toArray 0)) }
  rw [h1]
  refine wpAny_bind (wpAny_holding (wpAny_call_entry slot_list_sort ⟨_, at_, rfl⟩ entry_list_sort (list_sort_ord O at_ hz (fun h2 => hS h2 _ _ at_ old) fun out k1 k2 => ⟨_, rfl, ?_⟩) (args_list_sort _)))
  exact wpAny_pure ⟨_, rfl, h out k1 k2⟩
end
end SrtO
namespace Z
open PySem PySem.Spec PyProof.Rows L2
section
variable {X : Cx}
def rSrtT (K : PySem.W.Frag) : List V → Hp → VK → Prop := fun vs H Q => ∃ (a : Addr) (ns : List Int), vs = [V.ref a] ∧ SqT K H a (ns.map V.int) ∧ ∀ (ms : List Int) (p : Addr), ms.Perm ns → ms.Pairwise (· ≤ ·) → H p = none → Q (.ref p) (upd H p (.lst (ms.map V.int)))
theorem cr_srtT : CallR X (.builtin "sorted") (rSrtT X.K) := by
  intro pins s σ H vs us Q I r h
  obtain ⟨a, ns, rfl, hs, q⟩ := h
  obtain ⟨its, rv, hl, hz⟩ := I.tuple hs
  rw [Vals.ref1 r]
  have hi := rv.ints
  refine SrtO.sorted_tupO SrtO.swo_int hl (by rw [← rv.length]; exact hz) (fun h2 _ _ _ _ => SrtO.ints_sortable hi h2) fun out h1 h2 => ?_
  obtain ⟨k1, k2, k3⟩ := SrtO.ints_out hi h1 h2
  obtain ⟨ep, he⟩ := PyProof.Rows.sortedAll_at s.heap its out.toArray
  rw [List.length_map] at hz
  have hlen : ((out.map SrtO.iv).map V.int).length ≤ sizeLine := by
    rw [List.length_map, k2.length_eq]
    exact hz
  refine ⟨.ref _, _, ?_, rfl, q _ (s.heap.objs.size + 1) k2 k3 (I.hok.fresh (Nat.le_succ _))⟩
  exact I.laid (t' := s.toks) (fun _ _ => PyProof.Rows.sortedAll_old) (Nat.le_succ _) ⟨hlen, out, ep, vals_of_ints k1, he⟩
def fSortedT : List D → Option D
  | [.tup ds] => (dInts ds).map fun ns => .lst ((srtI ns).map .int)
  | _ => none
theorem cd_sortedT : CaD X (.builtin "sorted") fSortedT := ⟨_, cr_srtT, fun F P σ G H ρ xs ds d Q e t hf hq => by
  unfold fSortedT at hf
  split at hf
  · obtain ⟨ns, hb, rfl⟩ := map_some' hf
    obtain ⟨x, rfl, u⟩ := t.one
    obtain ⟨l, vs, rfl, h1, h2⟩ := u.tup e.gh
    obtain ⟨rfl, rfl⟩ := ims_ints h2 hb
    refine ⟨_, _, rfl, h1, fun ns' p k1 k2 n => ?_⟩
    rw [sorted_eq (k1.trans (srtI_perm ns).symm) k2 (srtI_sorted ns)]
    obtain ⟨e3, ro⟩ := e.newL n (ims_of_ints (A := amb X) (G := G) (srtI ns))
    exact hq _ G _ (Same.refl G) e3 ro
  · cases hf⟩
def fSort : List D → Option D := fun xs => orD (fSorted xs) (fSortedT xs)
theorem cd_sort : CaD X (.builtin "sorted") fSort := cd_sorted.or cd_sortedT
end
end Z

set_option Elab.async false
set_option linter.all false
set_option maxRecDepth 100000
set_option maxHeartbeats 4000000
/-! ZR: the end: the law's def keeps its promise by mirror, so the law holds. -/
namespace Z
open PySem PySem.Spec PyProof.Rows L2
theorem guards0 : callerA.guards = some [] := by rfl
theorem law_callZ {P : Program} {w : World} {K : PySem.W.Frag} {mg mb : Str → Option Value} {k : Nat} {fa a : Addr} {fd : FuncData} {x : Str} {fn : Fn} {s₁ : Shared} {vs : List Value} {ns : List Int}
    (KX : K.In s₁.heap) (hns : s₁.heap.Ns mainGlobals mg) (hb : s₁.heap.Ns builtinsNs mb) (hbb : ∀ y : Str, y ≠ "__name__" → mb y = bootBuiltins y) (hlim : s₁.heap.NoLimit) (hg : s₁.gens = #[])
    (ha : s₁.heap.get? a = some { cls := .type "list", data := .seq vs.toArray }) (hi : IntsAre vs ns) (hl : ns.length ≤ sizeLine) (hr : Room k callerA)
    (F : ∀ base : Heap, K.In base → base.Ns mainGlobals mg → FnZ P w K mg base k fa fd [x] fn) (hbind : ∀ (s : Shared) (u : Value), BindsTo s fd ⟨[u], []⟩ [(x, u)])
    (hfn : fn [.val (.lst (ns.map .int))] = some (.ret false (.bl true) [])) :
    codeAny (model P w) callerA (.call (.ref fa) ⟨[.ref a], []⟩) (fun r s' => r = .ok (.ret (.bool true)) ∧ OldK s₁.heap s'.heap ∧ s'.os = s₁.os ∧ AllBare s'.gens) s₁ := by
  have rv := vals_ints hi
  have core : ∀ H : Hp, Only H → SqL K H a (ns.map V.int) → HOk P w H s₁.heap → (∀ b, H b ≠ none → b = a) → (H a ≠ none → K.lookup a = none) →
      codeAny (model P w) callerA (.call (.ref fa) ⟨[.ref a], []⟩)
        (fun r s' => r = .ok (.ret (.bool true)) ∧ OldK s₁.heap s'.heap ∧ s'.os = s₁.os ∧ AllBare s'.gens) s₁ := by
    intro H hO hS hok only hK
    have isA : ∀ {b : Addr} {u : HO}, H b = some u → b = a := fun {b u} q => only b (by rw [q]; simp)
    have dct : ∀ {b : Addr} {o : Obj} {es : Array DictEntry} {ep : Nat}, s₁.heap.get? b = some o → o.data = .dict es ep → H b = none := by
      intro b o es ep e d
      cases q : H b with
      | none => rfl
      | some u =>
        have z := isA q
        subst z
        rw [ha] at e
        cases e
        exact nomatch (show Data.seq vs.toArray _ = Data.dict es ep from d)
    have nsK : ∀ {b : Addr} {m : Str → Option Value}, s₁.heap.Ns b m → (hidT s₁.heap H).Ns b m := by
      rintro b m ⟨o, es, ep, e, d, r⟩
      exact ⟨o, es, ep, hidT_get e (dct e d), d, r⟩
    have kin : K.In (hidT s₁.heap H) := by
      intro b o e
      refine hidT_get (KX b o e) ?_
      cases q : H b with
      | none => rfl
      | some u =>
        have z := isA q
        subst z
        rw [hK (by rw [q]; simp)] at e
        cases e
    obtain ⟨mc, l1, l2⟩ := hlim
    have hM : Mod K mg (hidT s₁.heap H) := ⟨kin, nsK hns, ⟨mb, nsK hb, hbb⟩, mc, nsK l1, l2⟩
    have nil_ : ∀ b, b ∈ ([] : List Addr) → False := fun b h => nomatch h
    have e0 : Env0 P w K mg (hidT s₁.heap H) callerA [] s₁ H :=
      ⟨rfl, hM, fun b o e => of_hidT e, Nat.le_of_eq (hidT_size _ _), trivial, fun b h => (nil_ b h).elim, hok, .of_eq hg⟩
    have im : Im ⟨K, mg⟩ H (.ref a) (.lst (ns.map .int)) := .lst hS (ims_of_ints ns)
    have sp : spZ ⟨K, mg⟩ fn [.ref a] H (fun v _ => v = .bl true) (fun _ _ _ => False) := by
      refine ⟨H, [.val (.lst (ns.map .int))], _, Same.refl H, .val im .nil, List.nodup_nil, hfn, fun v G' H' _ _ ro => ?_⟩
      cases (show Im ⟨K, mg⟩ G' v (.bl true) from ro)
      rfl
    refine codeAny_mono ((F _ kin (nsK hns)).run callerA [] s₁ H ⟨[.ref a], []⟩ [.ref a] [.ref a] _ _ guards0 hr e0 (hbind s₁ (.ref a)) (.cons rfl .nil) sp) fun r s' h => ?_
    cases r with
    | error e =>
      obtain ⟨_, _, _, _, _, _, _, _, _, _, _, _, z⟩ := h
      exact z.elim
    | ok fl =>
      cases fl with
      | ret u =>
        obtain ⟨v, H', os, bare, un, hok', r', q⟩ := h
        subst q
        obtain rfl : u = Value.bool true := r'
        refine ⟨rfl, OldK.of_keep fun b o e => ?_, os, bare⟩
        cases q : H b with
        | none => exact un.keep b o e q (fun z => nil_ b z) (by simp)
        | some u =>
          rcases hO b with z | ⟨ob, xs, z⟩
          · rw [q] at z
            cases z
          · obtain ⟨e1, _⟩ := hok b _ z
            obtain ⟨e2, _⟩ := hok' b _ (un.frzs b ob _ z)
            rw [e] at e1
            cases e1
            exact e2
      | _ => exact False.elim h
  cases hk : K.lookup a with
  | some o =>
    have e := KX a o hk
    rw [ha] at e
    cases e
    have none_ : ∀ (b : Addr) (u : HO), (none : Option HO) = some u → False := fun _ _ z => nomatch z
    refine core (fun _ => none) (fun _ => .inl rfl) (.inr ⟨_, vs.toArray, _, hk, rfl, rfl, rfl, ?_, by simpa using rv⟩) (fun b u z => (none_ b u z).elim) (fun b z => absurd rfl z) (fun z => absurd rfl z)
    rw [List.size_toArray, hi.length]
    exact hl
  | none =>
    have here : (fun b => if b = a then some (HO.frz { cls := .type "list", data := .seq vs.toArray } (.lst (ns.map V.int))) else none) a = _ := if_pos rfl
    refine core (fun b => if b = a then some (.frz { cls := .type "list", data := .seq vs.toArray } (.lst (ns.map V.int))) else none) (fun b => ?_) (.inl (.inr ⟨_, here⟩)) (fun b u z => ?_) (fun b z => ?_) (fun _ => hk)
    · by_cases hb : b = a
      · exact .inr ⟨_, _, if_pos hb⟩
      · exact .inl (if_neg hb)
    · by_cases hb : b = a
      · have y := (if_pos hb).symm.trans z
        cases y
        subst hb
        exact ⟨ha, by rw [List.length_map]; exact hl, vs, _, rv, ha⟩
      · exact nomatch (if_neg hb).symm.trans z
    · by_cases hb : b = a
      · exact hb
      · exact absurd (if_neg hb) z
theorem walkZ {l : PySem.W.OpenLaw} {n k : Nat} {q : Program} {loose : List Str} {XP : (Str → Option Value) → Heap → Prop} {YP : World → Heap → Prop} {d : DefRec} {K : Params → PySem.W.Frag} {fn : Fn} {x : Str}
    (hn : l.most = some n) (hn2 : n ≤ sizeLine) (hdf : d.params.defaults = []) (hr : Room k callerA) (hY : ∀ (w : World) (h : Heap), YP w h → (K w.params).In h)
    (F : ∀ (w : World) (mg : Str → Option Value) (fa : Addr) (h : Heap), (K w.params).In h → h.Ns mainGlobals mg → mg d.name = some (.ref fa) →
      ∃ fd : FuncData, (∀ (s : Shared) (u : Value), BindsTo s fd ⟨[u], []⟩ [(x, u)]) ∧ ∀ base : Heap, (K w.params).In base → base.Ns mainGlobals mg → FnZ l.prog w (K w.params) mg base k fa fd [x] fn)
    (hfn : ∀ ns : List Int, ns.length ≤ n → fn [.val (.lst (ns.map .int))] = some (.ret false (.bl true) [])) : PySem.W.WalkO q loose XP YP l.row.toRowW d [] (fun f vs => PySem.call f vs) := by
  refine Att.attach_call hn hdf fun w s₀ s₁ mg mb fa o pm cd doc a vs ns G Y ho hd hcd hmg hobj hints hlen hg => ?_
  obtain ⟨fd, hb, hF⟩ := F w mg fa _ (hY w _ Y) G.T.g hmg
  exact law_callZ (hY w _ Y) G.T.g G.T.b G.T.builtins G.T.nolimit hg hobj hints (Nat.le_trans hlen hn2) hr hF hb (hfn ns hlen)
end Z

set_option Elab.async false
set_option linter.all false
set_option maxRecDepth 100000
set_option maxHeartbeats 4000000
/-! ZS: short words for printed derivations. -/
namespace Z
open PySem PySem.Spec PyProof.Rows L2
section
variable {X : Cx} {Y : Yc} {x : Str} {pos pos2 : Pos}
theorem pv_ (i : Nat) (h : X.N[i]? = some x := by rfl) (v : Vis X.env.scope x := by first | exact .inl rfl | exact .inr (.inl rfl) | exact .inr (.inr rfl)) (hd : (x == ("__debug__" : Str)) = false := by decide) (hc : (x == ("__classdict__" : Str)) = false := by decide) :
    PE X (.Name x pos) (tVar i) := pe_var h v hd hc
theorem de_v (i : Nat) (h : X.N[i]? = some x := by rfl) (v : Vis X.env.scope x := by first | exact .inl rfl | exact .inr (.inl rfl) | exact .inr (.inr rfl)) (hd : (x == ("__debug__" : Str)) = false := by decide) (hc : (x == ("__classdict__" : Str)) = false := by decide) :
    DE X Y (.Name x pos) (eVar i) := de_var (pe_var h v hd hc)
theorem pgn (nd : X.N.Nodup) (i : Nat) (h : X.N[i]? = some x := by rfl) (l : Loc X.env.scope x := by first | exact .inl rfl | exact .inr rfl) (hf : X.fn x = true ∨ X.env.scope.names.lookup x = some .local := by first | exact .inl rfl | exact .inr rfl) : PG X (.Name x pos) (gName i) :=
  pg_name nd h l hf
theorem ds_st {e : Expr} {me : M Rf} (nd : X.N.Nodup) (i : Nat) (he : DE X Y e me) (h : X.N[i]? = some x := by rfl) (l : Loc X.env.scope x := by first | exact .inl rfl | exact .inr rfl) (hs : swapsWith e (some (.Name x pos2)) pos.line X.env = pure false := by rfl)
    (hf : X.fn x = true ∨ X.env.scope.names.lookup x = some .local := by first | exact .inl rfl | exact .inr rfl) : DS X Y (.Assign [.Name x pos2] e pos) (sAsg me (tgName i)) := ds_set he nd h l hs hf
theorem de_ch {op op' : CmpOp} {f g : D → D → Option D} {a b c : Expr} {ma mb mc : M Rf} (h : OpD X (compareOp op) f) (h' : OpD X (compareOp op') g) (ha : DE X Y a ma) (hb : DE X Y b mb) (hc : DE X Y c mc) (hm : lastMarks [op, op'] [b, c] = false := by with_unfolding_all rfl) :
    DE X Y (.Compare a [op, op'] [b, c] pos) (eChain f g ma mb mc) := by
  obtain ⟨r, o, k⟩ := h
  obtain ⟨r', o', k'⟩ := h'
  exact de_chain o o' k k' ha hb hc hm
theorem dt_ch {op op' : CmpOp} {f g : D → D → Option D} {a b c : Expr} {ma mb mc : M Rf} (h : OpD X (compareOp op) f) (h' : OpD X (compareOp op') g) (ha : DE X Y a ma) (hb : DE X Y b mb) (hc : DE X Y c mc) (hm : lastMarks [op, op'] [b, c] = false := by with_unfolding_all rfl) :
    DT X Y (.Compare a [op, op'] [b, c] pos) (tst (eChain f g ma mb mc)) := by
  obtain ⟨r, o, k⟩ := h
  obtain ⟨r', o', k'⟩ := h'
  exact dt_chain o o' k k' ha hb hc hm
theorem names_ {c : Value} (hm : X.mg x = some c) (hg : Gl X x := by rfl) (hd : (x == ("__debug__" : Str)) = false := by decide) : Names X x c := ⟨hg, hd, .inl hm⟩
theorem blk_ok {N : List Str} {sc scope : Scope} {own : List (Str × Nat)} (a : scope.kind = .function := by rfl) (b : ∀ y ∈ scope.names, scope.names.lookup y.1 = some y.2 := by decide +kernel) (c : ∀ p ∈ own, N[p.2]? = some p.1 := by decide +kernel)
    (d : ∀ y ∈ scope.names, y.2 = .free → sc.names.lookup y.1 = some .cell ∨ sc.names.lookup y.1 = some .free := by decide +kernel) (e : ∀ y ∈ scope.names, y.2 = .local ∨ y.2 = .cell → y.1 ∈ own.map (·.1) ∨ y.1 ∉ N := by decide +kernel) : BlkOk N sc scope own := ⟨a, b, c, d, e⟩
/-- the same in a block within a block -/
theorem blk_okN (N : List Str) {sc scope : Scope} {own : List (Str × Nat)} (a : scope.kind = .function := by rfl) (b : ∀ y ∈ scope.names, scope.names.lookup y.1 = some y.2 := by decide +kernel) (c : ∀ p ∈ own, N[p.2]? = some p.1 := by decide +kernel)
    (d : ∀ y ∈ scope.names, y.2 = .free → sc.names.lookup y.1 = some .cell ∨ sc.names.lookup y.1 = some .free := by first | decide +kernel | exact of_decide_eq_true (by kernel_rfl) | exact of_decide_eq_true (by rfl))
    (e : ∀ y ∈ scope.names, y.2 = .local ∨ y.2 = .cell → y.1 ∈ own.map (·.1) ∨ y.1 ∉ N := by decide +kernel) : BlkOk N sc scope own := ⟨a, b, c, d, e⟩
theorem kb_of {K : PySem.W.Frag} {fd : FuncData} {ps : List Str} {n : Nat} {ks : List Str} {perm : List Nat} (h : ∀ us ws : List Value, us.length = n → ws.length = ks.length → bindArgs fd ⟨us, ks.zip ws⟩ = pure (ps.zip (pick perm (us ++ ws)))) : KBz K fd ps n ks perm [] :=
  ⟨[], .nil, fun s us ws _ h1 h2 => .of_eq (by rw [List.append_nil]; exact h us ws h1 h2)⟩
end
end Z

set_option Elab.async false
set_option linter.all false
set_option maxRecDepth 100000
set_option maxHeartbeats 4000000
/-! ZT: how mirrors come out, step by step. -/
namespace Z
open PySem
section
variable {ρ ρ1 ρ2 ρ3 ρ4 : E} {a b : M Rf} {ms : M (List Rf)} {x y : Rf} {xs : List Rf} {p q d : D} {ds es : List D} {t : M Bool} {m n : S} {o : O} {vs : List Nat}
theorem bind_ev {α β : Type} {m : M α} {k : α → M β} {v : α} {r : Option (R β)} (h : m ρ = some (.ok v ρ1)) (hk : k v ρ1 = r) : Z.bindM m k ρ = r := by
  rw [Z.bindM_ok h]
  exact hk
theorem op2_ev {f : D → D → Option D} (ha : a ρ = some (.ok x ρ1)) (hb : b ρ1 = some (.ok y ρ2)) (hp : deref ρ2 (stl x) = some p) (hq : deref ρ2 (stl y) = some q) (hf : f p q = some d) : eOp2 f a b ρ = some (.ok (mk d) ρ2) := by
  unfold eOp2
  refine bind_ev ha (bind_ev hb (bind_ev (v := p) (ρ1 := ρ2) ?_ (bind_ev (v := q) (ρ1 := ρ2) ?_ ?_)))
  · unfold drf
    rw [hp]
  · unfold drf
    rw [hq]
  · rw [hf]
    rfl
theorem call_ev {f : List D → Option D} (ha : ms ρ = some (.ok xs ρ1)) (hd : derefs ρ1 xs = some ds) (hf : f ds = some d) : eCall f ms ρ = some (.ok (mk d) ρ1) := by
  unfold eCall
  refine bind_ev ha (bind_ev (v := ds) (ρ1 := ρ1) ?_ ?_)
  · unfold drfs
    rw [hd]
  · rw [hf]
    rfl
theorem cons_ev (ha : a ρ = some (.ok x ρ1)) (hm : ms ρ1 = some (.ok xs ρ2)) : aCons a ms ρ = some (.ok (stl x :: xs) ρ2) := bind_ev ha (bind_ev hm rfl)
theorem nil_ev : aNil ρ = some (.ok [] ρ) := rfl
theorem tst_ev {c : Bool} (h : a ρ = some (.ok (.dat (.bl c)) ρ1)) : tst a ρ = some (.ok c ρ1) := bind_ev h rfl
theorem not_ev {c : Bool} (h : t ρ = some (.ok c ρ1)) : bNot t ρ = some (.ok (!c) ρ1) := bind_ev h rfl
theorem or_ev {u : M Bool} {r : Option (R Bool)} (h : t ρ = some (.ok false ρ1)) (hu : u ρ1 = r) : bOr t u ρ = r := bind_ev h hu
theorem orT_ev {u : M Bool} (h : t ρ = some (.ok true ρ1)) : bOr t u ρ = some (.ok true ρ1) := bind_ev h rfl
theorem and_ev {u : M Bool} {r : Option (R Bool)} (h : t ρ = some (.ok true ρ1)) (hu : u ρ1 = r) : bAnd t u ρ = r := bind_ev h hu
theorem comp_ev {mi : M (List D)} {tg : Tg} {el : M Rf} (hm : mi ρ = some (.ok ds ρ1)) (ok : okSlots ρ1 vs = true) (hc : compL tg t el vs ds (wipeE ρ1 vs) = some (es, ρ2)) (hz : es.length ≤ sizeLine) : eComp mi tg t el vs ρ = some (.ok (.new es) ρ2) := by
  refine bind_ev hm ?_
  show (if okSlots ρ1 vs = true then _ else _) = _
  rw [if_pos ok, hc]
  show (if es.length ≤ sizeLine then _ else _) = _
  rw [if_pos hz]
theorem ifT_ev {r : Option O} (h : t ρ = some (.ok true ρ1)) (k : m ρ1 = r) : sIf t m n ρ = r := by
  unfold sIf liftS
  rw [h]
  exact k
theorem ifF_ev {r : Option O} (h : t ρ = some (.ok false ρ1)) (k : n ρ1 = r) : sIf t m n ρ = r := by
  unfold sIf liftS
  rw [h]
  exact k
theorem seq_ev {r : Option O} (h : m ρ = some (.nx ρ1)) (k : n ρ1 = r) : sSeq m n ρ = r := by
  unfold sSeq
  rw [h]
  exact k
theorem seqR_ev (h : m ρ = some (.rt x ρ1)) : sSeq m n ρ = some (.rt x ρ1) := by
  unfold sSeq
  rw [h]
theorem seqX_ev {e : Ex} (h : m ρ = some (.ex e ρ1)) : sSeq m n ρ = some (.ex e ρ1) := by
  unfold sSeq
  rw [h]
theorem ret_ev (h : a ρ = some (.ok x ρ1)) : sRet a ρ = some (.rt x ρ1) := by
  unfold sRet liftS
  rw [h]
theorem expr_ev (h : a ρ = some (.ok x ρ1)) : sExpr a ρ = some (.nx ρ1) := by
  unfold sExpr liftS
  rw [h]
theorem exprX_ev {e : Ex} (h : a ρ = some (.ex e ρ1)) : sExpr a ρ = some (.ex e ρ1) := by
  unfold sExpr liftS
  rw [h]
theorem asg_ev {tg : Tg} (h : a ρ = some (.ok x ρ1)) (k : tg x ρ1 = some ρ2) : sAsg a tg ρ = some (.nx ρ2) := by
  unfold sAsg liftS
  rw [h]
  show (match tg x ρ1 with | some ρ' => some (O.nx ρ') | none => none) = _
  rw [k]
theorem for_ev {mi : M (List D)} {tg : Tg} {r : Option O} (h : mi ρ = some (.ok ds ρ1)) (k : forL tg m ds ρ1 = r) : sFor mi tg m ρ = r := by
  unfold sFor liftS
  rw [h]
  exact k
theorem body_rt {np k : Nat} {as : List Ar} {c : Bool} {cs : List Cell} (h : m (entry k as) = some (.rt x ρ)) (hl : as.length = np := by rfl) (hr : retOf ρ x = some (c, d) := by rfl) (ho : outs as ρ = some cs := by rfl) : bodyF np k m as = some (.ret c d cs) := by
  unfold bodyF
  rw [if_pos hl, h]
  show (match retOf ρ x, outs as ρ with | some (b, d), some cs => some (FR.ret b d cs) | _, _ => none) = _
  rw [hr, ho]
theorem body_nx {np k : Nat} {as : List Ar} {cs : List Cell} (h : m (entry k as) = some (.nx ρ)) (hl : as.length = np := by rfl) (ho : outs as ρ = some cs := by rfl) : bodyF np k m as = some (.ret false .non cs) := by
  unfold bodyF
  rw [if_pos hl, h]
  show (outs as ρ).map _ = _
  rw [ho]
  rfl
theorem body_ex {np k : Nat} {as : List Ar} {e : Ex} {cs : List Cell} (h : m (entry k as) = some (.ex e ρ)) (hl : as.length = np := by rfl) (ho : outs as ρ = some cs := by rfl) : bodyF np k m as = some (.exc e cs) := by
  unfold bodyF
  rw [if_pos hl, h]
  show (outs as ρ).map _ = _
  rw [ho]
  rfl
theorem fn_ev {f : Fn} {md : List Bool} {as : List Ar} {is : List (Option Nat)} {c : Bool} {cs : List Cell} (ha : ms ρ = some (.ok xs ρ1)) (h1 : toArs md xs ρ1 = some (as, is, ρ2)) (hf : f as = some (.ret c d cs)) (h2 : putBack is cs ρ2 = some ρ3) (h3 : rfOf c d = some x) (hn : (is.filterMap id).Nodup := by simp) : eFn f md ms ρ = some (.ok x ρ3) := by
  refine bind_ev ha ?_
  unfold eFnL
  rw [h1]
  show (if (is.filterMap id).Nodup then _ else _) = _
  rw [if_pos hn, hf]
  show (match putBack is cs ρ2, rfOf c d with | some ρ2, some x => some (R.ok x ρ2) | _, _ => none) = _
  rw [h2, h3]
theorem fnX_ev {f : Fn} {md : List Bool} {as : List Ar} {is : List (Option Nat)} {e : Ex} {cs : List Cell} (ha : ms ρ = some (.ok xs ρ1)) (h1 : toArs md xs ρ1 = some (as, is, ρ2)) (hf : f as = some (.exc e cs)) (h2 : putBack is cs ρ2 = some ρ3) (hn : (is.filterMap id).Nodup := by simp) : eFn f md ms ρ = some (.ex e ρ3) := by
  refine bind_ev ha ?_
  unfold eFnL
  rw [h1]
  show (if (is.filterMap id).Nodup then _ else _) = _
  rw [if_pos hn, hf]
  show (match putBack is cs ρ2 with | some ρ2 => some (R.ex e ρ2) | none => none) = _
  rw [h2]
/-- the turns of a comprehension that changes nothing -/
theorem compL_map {tg : Tg} {el : M Rf} {f : D → D} : ∀ ds : List D, (∀ d ∈ ds, ∃ ρ1 ρ2 x ρ3 ρ4, tg (.dat d) ρ = some ρ1 ∧ t ρ1 = some (.ok true ρ2) ∧ el ρ2 = some (.ok x ρ3) ∧ frz (stl x) ρ3 = some (.ok (f d) ρ4) ∧ okSlots ρ4 vs = true ∧ wipeE ρ4 vs = ρ) →
    compL tg t el vs ds ρ = some (ds.map f, ρ)
  | [], _ => rfl
  | d :: ds, h => by
    obtain ⟨ρ1, ρ2, x, ρ3, ρ4, h1, h2, h3, h4, h5, h6⟩ := h d (.head _)
    have ih := compL_map (tg := tg) (el := el) (f := f) ds fun e he => h e (.tail _ he)
    unfold compL
    simp only [h1, h2, h3, h4, h5, h6, ih, if_true, List.map_cons]
/-- .. that leaves some out -/
theorem compL_some {tg : Tg} {el : M Rf} {f : D → D} {p : D → Bool} : ∀ ds : List D, (∀ d ∈ ds, ∃ ρ1 ρ2, tg (.dat d) ρ = some ρ1 ∧ t ρ1 = some (.ok (p d) ρ2) ∧
      (p d = true → ∃ x ρ3 ρ4, el ρ2 = some (.ok x ρ3) ∧ frz (stl x) ρ3 = some (.ok (f d) ρ4) ∧ okSlots ρ4 vs = true ∧ wipeE ρ4 vs = ρ) ∧ (p d = false → okSlots ρ2 vs = true ∧ wipeE ρ2 vs = ρ)) →
    compL tg t el vs ds ρ = some ((ds.filter p).map f, ρ)
  | [], _ => rfl
  | d :: ds, h => by
    obtain ⟨ρ1, ρ2, h1, h2, h3, h4⟩ := h d (.head _)
    have ih := compL_some (tg := tg) (el := el) (f := f) (p := p) ds fun e he => h e (.tail _ he)
    unfold compL
    cases q : p d with
    | true =>
      obtain ⟨x, ρ3, ρ4, k1, k2, k3, k4⟩ := h3 q
      rw [q] at h2
      rw [List.filter_cons_of_pos q]
      simp only [h1, h2, k1, k2, k3, k4, ih, if_true, List.map_cons]
    | false =>
      obtain ⟨k1, k2⟩ := h4 q
      rw [q] at h2
      rw [List.filter_cons_of_neg (by rw [q]; simp)]
      simp only [h1, h2, k1, k2, ih, if_true]
/-- a loop by an invariant: I i ρ ahead of turn i -/
theorem forL_inv {tg : Tg} (I : Nat → E → Prop) {ρe : E} : ∀ (ds : List D) (i : Nat) (ρ : E), I i ρ → (∀ (j : Nat) d ρ, ds[j]? = some d → I (i + j) ρ → ∃ ρ1 ρ2, tg (.dat d) ρ = some ρ1 ∧ (m ρ1 = some (.nx ρ2) ∨ m ρ1 = some (.ct ρ2)) ∧ I (i + j + 1) ρ2) →
    ∃ ρ', forL tg m ds ρ = some (.nx ρ') ∧ I (i + ds.length) ρ'
  | [], i, ρ, h, _ => ⟨ρ, rfl, h⟩
  | d :: ds, i, ρ, h, k => by
    obtain ⟨ρ1, ρ2, h1, h2, h3⟩ := k 0 d ρ rfl h
    obtain ⟨ρ', h4, h5⟩ := forL_inv (ρe := ρe) I ds (i + 1) ρ2 h3 fun j e ρ hj hI => by
      have q := k (j + 1) e ρ (by simpa using hj) (by rw [show i + (j + 1) = i + 1 + j by omega]; exact hI)
      rw [show i + (j + 1) = i + 1 + j by omega] at q
      exact q
    refine ⟨ρ', ?_, by rw [List.length_cons, show i + (ds.length + 1) = i + 1 + ds.length by omega]; exact h5⟩
    unfold forL
    simp only [h1]
    rcases h2 with h2 | h2
    · simp only [h2]
      exact h4
    · simp only [h2]
      exact h4
end
end Z

set_option Elab.async false
set_option linter.all false
set_option maxRecDepth 100000
set_option maxHeartbeats 4000000
/-! ZU: instances: their fields, methods, how they are made. -/
namespace Z
open PySem PySem.Spec PyProof.Rows L2
/-- the names cs are own classes, and none has an attribute f -/
def FldOk (K : PySem.W.Frag) (mg : Str → Option Value) (cs : List Str) (f : Str) : Prop := ∀ c ∈ cs, ∃ C, mg c = some (.ref C) ∧ Cls K C ∧ NoAttr K C f
theorem Top.ins {A : Amb} {G H : Hp} {v : V} {c : Str} {ns : List Str} {ds : List D} (g : Same G H) (h : Top A G H v (.ins c ns ds)) :
    ∃ a C dx fs, v = .ref a ∧ A.mg c = some (.ref C) ∧ H a = some (.ins C dx fs) ∧ fs.map (·.1) = ns ∧ Ims A G (fs.map (·.2)) ds := by
  rcases h with h | ⟨l, vs, ds', hv, hd, h1, h2⟩ | ⟨l, C, dx, fs, c', ns', ds', hv, hd, m, h1, h2, h3⟩
  · cases h with
    | ins m h n r => exact ⟨_, _, _, _, rfl, m, g _ _ h, n, r⟩
  · cases hd
  · cases hd
    exact ⟨l, C, dx, fs, hv, m, h1, h2, h3⟩
def eFld (cs : List Str) (f : Str) (m : M Rf) : M Rf := bindM m fun x => bindM (drf (stl x)) fun d => match d with
  | .ins c ns ds => if cs.contains c = true then (match (ns.zip ds).lookup f with
    | some v => pureM (.dat v)
    | none => failM) else failM
  | _ => failM
section
variable {X : Cx} {Y : Yc} {a e : Expr} {ma me : M Rf} {pos p p' : Pos} {f x : Str} {cs : List Str}
theorem de_fld (hc : FldOk X.K X.mg cs f) (ha : DE X Y a ma) (hb : attributeBase a f X.env (eval a X.env) = eval a X.env := by rfl) : DE X Y (.Attribute a f pos) (eFld cs f ma) :=
  PE.weak (pe_fld ha hb) fun σ H Q ⟨F, P, G, ρ, r, er, e, hm, hp⟩ => tE_bind er e hm hp fun G1 H1 ρ1 x v s1 e1 so1 hm1 hp1 => by
    obtain ⟨d, hd, hm2⟩ := drf_ok hm1
    have t := top_of e1 so1 hd
    cases d with
    | ins c ns ds =>
      simp only at hm2
      by_cases hk : cs.contains c = true
      · rw [if_pos hk] at hm2
        cases q : (ns.zip ds).lookup f with
        | none =>
          rw [q] at hm2
          cases hm2
        | some d =>
          rw [q] at hm2
          cases hm2
          obtain ⟨l, C, dx, fs, rfl, m, h1, rfl, h3⟩ := t.ins e1.gh
          obtain ⟨C', m', k1, k2⟩ := hc c (by simpa using hk)
          have m : X.mg c = some (.ref C) := m
          rw [m] at m'
          cases m'
          obtain ⟨w, l1, l2⟩ := Ims.lookup h3 q
          exact ⟨l, C, dx, fs, w, rfl, h1, k1, k2, l1, hp1 w G1 H1 (Same.refl G1) e1 l2⟩
      · rw [if_neg hk] at hm2
        cases hm2
    | _ => cases hm2
/-! self.f = e -/
def putD (f : Str) (d : D) : List Str → List D → List Str × List D
  | n :: ns, x :: xs => if n = f then (n :: ns, d :: xs) else ((n :: (putD f d ns xs).1), (x :: (putD f d ns xs).2))
  | _, _ => ([f], [d])
theorem putD_ok {A : Amb} {G : Hp} {v : V} {d : D} (h : Im A G v d) : ∀ {fs : List (Str × V)} {ds : List D}, Ims A G (fs.map (·.2)) ds → (putF f v fs).map (·.1) = (putD f d (fs.map (·.1)) ds).1 ∧ Ims A G ((putF f v fs).map (·.2)) (putD f d (fs.map (·.1)) ds).2
  | [], _, .nil => ⟨rfl, .cons h .nil⟩
  | (g, y) :: fs, x :: ds, .cons k r => by
    obtain ⟨h1, h2⟩ := putD_ok h r
    rw [List.map_cons]
    unfold putF putD
    by_cases hg : g = f
    · rw [if_pos hg, if_pos hg]
      exact ⟨rfl, .cons h r⟩
    · rw [if_neg hg, if_neg hg]
      exact ⟨by rw [List.map_cons, h1], .cons k h2⟩
def sFldS (cs : List Str) (i : Nat) (f : Str) (m : M Rf) : S := liftS m fun x => liftS (frz (stl x)) fun d ρ => match ρ[i]? with
  | some (.cel p (.ins c ns ds)) => if cs.contains c = true ∧ ns.length < 1000 then some (.nx (ρ.set i (.cel p (.ins c (putD f d ns ds).1 (putD f d ns ds).2)))) else none
  | _ => none
theorem ds_fld {i : Nat} (hc : FldOk X.K X.mg cs f) (ho : PE X (.Name x p) (tVar i)) (he : DE X Y e me) (hs : swapsWith e (some (.Attribute (.Name x p) f p')) pos.line X.env = pure false := by rfl) :
    DS X Y (.Assign [.Attribute (.Name x p) f p'] e pos) (sFldS cs i f me) :=
  PS.weak (ps_fld ho he hs) fun D σ H ⟨F, P, G, ρ, o, er, e, hm, hp⟩ => tSE_bind er e hm hp fun G1 H1 ρ1 x v s1 e1 so1 hk1 => by
    obtain ⟨d, ρ2, G2, hk2, s2, e2, im⟩ := liftS_frz e1 so1 hk1
    split at hk2
    · rename_i p c ns ds q
      split at hk2
      · rename_i hcond
        cases hk2
        obtain ⟨l, h1, ⟨C, dx, fs, m, h2, rfl, h4⟩, h5, h6⟩ := e2.cel i p _ q
        obtain ⟨C', m', k1, k2⟩ := hc c (by simpa using hcond.1)
        have m : X.mg c = some (.ref C) := m
        rw [m] at m'
        cases m'
        refine ⟨.ref l, h1, l, C, dx, fs, rfl, h2, k1, k2, by have := hcond.2; rwa [List.length_map] at this, ?_⟩
        obtain ⟨q1, q2⟩ := putD_ok (f := f) im h4
        exact hp σ G2 _ (e2.write q h1 ⟨C, dx, _, m, upd_same, q1, q2⟩)
      · cases hk2
    · cases hk2
end
/-! a new instance -/
def eMkK (c : Str) (f : Fn) (n m : Nat) (perm : List Nat) (dds : List D) (ms mk : M (List Rf)) : M Rf := bindM ms fun xs => bindM mk fun zs => if xs.length = n ∧ zs.length = m then bindM (frzs (xs ++ zs)) fun ds ρ =>
  match f (.cel (.ins c [] []) :: (pick perm (ds ++ dds)).map .val) with
  | some (.ret false .non [.ins c' ns fs]) => if c' = c then some (.ok (.dat (.ins c ns fs)) ρ) else none
  | some (.exc x _) => some (.ex x ρ)
  | _ => none else failM
theorem pick_self {α : Type} (a : α) (perm : List Nat) (l : List α) : pick (0 :: perm.map (· + 1)) (a :: l) = a :: pick perm l := by
  unfold pick
  rw [List.filterMap_cons]
  show a :: _ = _
  rw [List.filterMap_map]
  rfl
theorem args_vals {A : Amb} {G H : Hp} : ∀ {vs : List V} {ds : List D}, Ims A G vs ds → ArgsOk A G H vs (ds.map .val) ∧ cads vs (ds.map .val) = []
  | [], _, .nil => ⟨.nil, rfl⟩
  | v :: vs, _, .cons h r => by
    obtain ⟨h1, h2⟩ := args_vals (H := H) r
    refine ⟨.val h h1, ?_⟩
    cases v <;> exact h2
theorem ims_pick {A : Amb} {G : Hp} {perm : List Nat} {vs : List V} {ds : List D} (h : Ims A G vs ds) : Ims A G (pick perm vs) (pick perm ds) := by
  induction perm with
  | nil => exact .nil
  | cons i perm ih =>
    unfold pick at ih ⊢
    rw [List.filterMap_cons, List.filterMap_cons]
    cases q : ds[i]? with
    | none =>
      have : vs[i]? = none := by
        rw [List.getElem?_eq_none_iff] at q ⊢
        rw [h.length]
        exact q
      rw [this]
      exact ih
    | some d =>
      obtain ⟨v, k1, k2⟩ := h.get q
      rw [k1]
      exact .cons k2 ih
section
variable {X : Cx} {Y : Yc} {k n : Nat} {f C : Addr} {fd : FuncData} {ps ks : List Str} {fn : Fn} {x c : Str} {p pos : Pos} {e : Expr} {es : List Expr} {kws : List Keyword} {ms mk_ : M (List Rf)} {perm : List Nat} {dds : List D} {dvs : List V}
theorem run_mkZ {pins : List (Addr × Obj)} {σ : L2.St} {H : Hp} {s : Shared} {Q : VK} {us : List Value} {kw : List (Str × Value)} {all : List Value} {vs : List V} (M : Mk X.K C f) (F : FnZ X.prog X.w X.K X.mg X.base k f fd ps fn) (hg : X.A.guards = some []) (hr : Room (k + 1) X.A) (tk : Takes X Y.W)
    (I : Inv X pins σ H s) (hb : ∀ (s : Shared) (self : Value), X.K.In s.heap → BindsTo s fd ⟨self :: us, kw⟩ (ps.zip (self :: all))) (r : Vals vs all)
    (h : ∀ x dx, H x = none → H dx = none → dx ≠ x → spZ (amb X) fn (.ref x :: vs) (upd (upd H dx (.own x)) x (.ins C dx [])) (fun v H2 => v = .non ∧ Q (.ref x) H2) (fun cls d H' => Y.W cls d σ H')) :
    wpAny (model X.prog X.w) X.A (call (.ref C) us kw) (EP X pins σ Q) X.xe s := by
  have hq := h (s.heap.objs.size + 1) s.heap.objs.size (I.hok.fresh (Nat.le_succ _)) (I.hok.fresh (Nat.le_refl _)) (Nat.ne_of_lt (Nat.lt_succ_self _))
  have I2 := Inv.made (C := C) I
  have r2 : Vals (V.ref (s.heap.objs.size + 1) :: vs) (Value.ref (s.heap.objs.size + 1) :: all) := .cons rfl r
  refine wpAny_call (make_map (f := f) I.kIn M.makes M.init (beq_iff_eq.mp M.fn) (codeAny_mono (F.run _ X.stack _ _ ⟨Value.ref (s.heap.objs.size + 1) :: us, kw⟩ (Value.ref (s.heap.objs.size + 1) :: all) _ _ _ hg (hr.make C us kw) (I2.env0.make C us kw) (hb _ _ I2.kIn) r2 hq) fun res s' hq' => ?_))
  cases res with
  | error ev => exact passAt tk σ pins _ _ ev s' I2 hq'
  | ok fl =>
    cases fl with
    | ret u =>
      obtain ⟨v, H', I3, rv, ev, q3⟩ := I2.after hq'
      subst ev
      exact ⟨rv, ⟨V.ref (s.heap.objs.size + 1), H', I3, rfl, q3⟩⟩
    | next => exact False.elim hq'
    | brk => exact False.elim hq'
    | cont => exact False.elim hq'
theorem mk_tail {A : Amb} {Y : Yc} {F : Fx} {P : List (Nat × Addr)} {σ : L2.St} {G H : Hp} {ρ : E} {vs : List V} {ds : List D} {r : R Rf} {Q : VK} {fn : Fn} {C : Addr} {c : Str} (e : EnvG A F P σ G H ρ) (im : Ims A G vs ds) (hc : A.mg c = some (.ref C))
    (hm : (match fn (.cel (.ins c [] []) :: ds.map .val) with
      | some (.ret false .non [.ins c' ns fs]) => if c' = c then some (R.ok (.dat (.ins c ns fs)) ρ) else none
      | some (.exc x _) => some (.ex x ρ)
      | _ => none) = some r) (hp : Post A Y (relE A) F P σ Q G r) :
    ∀ x dx, H x = none → H dx = none → dx ≠ x → spZ A fn (.ref x :: vs) (upd (upd H dx (.own x)) x (.ins C dx [])) (fun v H2 => v = .non ∧ Q (.ref x) H2) (fun cls d H' => Y.W cls d σ H') := by
  intro x dx nx ndx ne
  have sH : Same H (upd (upd H dx (.own x)) x (.ins C dx [])) := fun b o q => by
    rw [upd_ne (ne_of_none q nx), upd_ne (ne_of_none q ndx)]
    exact q
  have gx : G x = none := e.freeG nx
  obtain ⟨a1, a2⟩ := args_vals (H := upd (upd H dx (.own x)) x (.ins C dx [])) im
  cases hf : fn (.cel (.ins c [] []) :: ds.map .val) with
  | none =>
    rw [hf] at hm
    cases hm
  | some fr =>
    rw [hf] at hm
    have nd : (cads (.ref x :: vs) (.cel (.ins c [] []) :: ds.map .val)) = [x] := by
      show x :: cads vs (ds.map .val) = _
      rw [a2]
    refine ⟨G, .cel (.ins c [] []) :: ds.map .val, fr, e.gh.trans sH, .cel ⟨C, dx, [], hc, upd_same, rfl, .nil⟩ gx a1, by rw [nd]; simp, hf, ?_⟩
    rw [nd]
    have keep : ∀ {H' : Hp}, (∀ a o, a ∉ [x] → upd (upd H dx (.own x)) x (.ins C dx []) a = some o → H' a = some o) → Same H H' := fun {H'} fr b o q => fr b o (by simpa using ne_of_none q nx) (sH b o q)
    have gnn : ∀ {G' : Hp}, (∀ a o, G' a = some o → G a = some o ∨ upd (upd H dx (.own x)) x (.ins C dx []) a = none) → ∀ a o, G' a = some o → G a = some o ∨ H a = none := fun {G'} gn a o q => by
      rcases gn a o q with z | z
      · exact .inl z
      · refine .inr ?_
        cases y : H a with
        | none => rfl
        | some u =>
          rw [sH a u y] at z
          cases z
    split at hm
    · rename_i c' ns fs he
      cases he
      by_cases hcc : c' = c
      · rw [if_pos hcc] at hm
        cases hm
        subst hcc
        refine fun v G' H' b ca ro => ?_
        cases (show Im A G' v .non from ro)
        refine ⟨rfl, ?_⟩
        cases ca with
        | cons ca gn' _ =>
          obtain ⟨C2, dx2, fs2, m2, h2, n2, i2⟩ := ca
          have sG : Same G' (upd G' x (.ins C2 dx2 fs2)) := fun b o q => by
            rw [upd_ne (ne_of_none q gn')]
            exact q
          refine hp (.ref x) _ H' (b.gg.trans sG) (e.grow (keep b.fr) (b.gg.trans sG) (fun a o q => ?_) (fun a o q => ?_)) (.ins m2 upd_same n2 (i2.mono sG))
          · by_cases ha : a = x
            · subst ha
              rw [upd_same] at q
              cases q
              exact h2
            · rw [upd_ne ha] at q
              exact b.gh a o q
          · by_cases ha : a = x
            · subst ha
              exact .inr nx
            · rw [upd_ne ha] at q
              exact gnn b.gn a o q
      · rw [if_neg hcc] at hm
        cases hm
    · rename_i he
      cases he
      cases hm
      exact fun cls d G' H' b ca xa => hp cls d G' H' b.gg (e.grow (keep b.fr) b.gg b.gh (gnn b.gn)) xa
    · cases hm
/-- C(e, .., k = v, ..) -/
theorem de_mkK (M : Mk X.K C f) (F : FnZ X.prog X.w X.K X.mg X.base k f fd ps fn) (hm : X.mg c = some (.ref C)) (hb : KBz X.K fd ps (n + 1) ks (0 :: perm.map (· + 1)) dvs) (hd : ∀ G, Ims (amb X) G dvs dds) (hg : X.A.guards = some []) (hr : Room (k + 1) X.A) (tk : Takes X Y.W)
    (ha : DA X Y (e :: es) ms) (hkw : DK X Y kws mk_) (hgl : Gl X c := by rfl) (hdb : (c == ("__debug__" : Str)) = false := by decide)
    (hall : (backToKw pos (keywordEach kws X.env)).all (·.1.isSome) = true := by rfl) (hks : (backToKw pos (keywordEach kws X.env)).filterMap (·.1) = ks := by rfl)
    (he : starEach (e :: es) X.env = (false, eval e X.env) :: starEach es X.env := by rfl) (hpl : ((backTo pos (starEach (e :: es) X.env)).any (·.1) || (backToKw pos (keywordEach kws X.env)).any (·.1.isNone)) = false := by rfl) :
    DE X Y (.Call (.Name c p) (e :: es) kws pos) (eMkK c fn n ks.length perm dds ms mk_) := by
  obtain ⟨dv, rd, bind⟩ := hb
  refine ⟨fun pins s σ H Q I ⟨F0, P, G, ρ, r, er, e0, hm0, hp⟩ => ?_⟩
  refine wpAny_Call_Name_kw (ld_glob I hgl hm ?_ hdb)
  have q : tG (amb X) Y (relA (amb X)) ms σ H fun vs H1 => tG (amb X) Y (relA (amb X)) mk_ σ H1 fun zs H2 => vs.length = n ∧ zs.length = ks.length ∧
      ∀ x dx, H2 x = none → H2 dx = none → dx ≠ x → spZ (amb X) fn (.ref x :: pick perm (vs ++ zs ++ dvs)) (upd (upd H2 dx (.own x)) x (.ins C dx [])) (fun v H3 => v = .non ∧ Q (.ref x) H3) (fun cls d H' => Y.W cls d σ H') :=
    tG_bind (Re := relA (amb X)) er e0 hm0 hp fun G1 H1 ρ1 xs vs s1 e1 so hk1 => tG_bind (Re := relA (amb X)) er e1 hk1 (hp.mono s1) fun G2 H2 ρ2 zs ws s2 e2 so2 hk2 => by
      by_cases hl : xs.length = n ∧ zs.length = ks.length
      · rw [if_pos hl] at hk2
        cases qf : frzs (xs ++ zs) ρ2 with
        | none =>
          rw [bindM_none qf] at hk2
          cases hk2
        | some r1 =>
          obtain ⟨ds, ρ3, G3, rfl, s3, e3, im⟩ := frzs_ok e2 ((so.mono s2).append so2) qf
          rw [bindM_ok qf] at hk2
          exact ⟨so.get.1.trans hl.1, so2.get.1.trans hl.2, mk_tail (ds := pick perm (ds ++ dds)) e3 (ims_pick (Ims.append' im (hd G3))) hm hk2 (hp.mono ((s1.trans s2).trans s3))⟩
      · rw [if_neg hl] at hk2
        cases hk2
  refine PySem.W.callWith_KW (h₀ := X.base) I.ok.mod.kin M.kp hall (thn (ha.run pos pins s σ H _ I q) fun us s1 ⟨vs, H1, I1, rv, q1⟩ => ?_) hpl he
  refine thn (hkw.run pos pins s1 σ H1 _ I1 q1) fun ws s2 ⟨zs, H2, I2, rz, l1, l2, q2⟩ => ⟨I2.kIn, ?_⟩
  rw [hks]
  refine run_mkZ (all := pick perm (us ++ ws ++ dv)) M F hg hr tk I2 (fun s' self kin => ?_) (vals_pick ((rv.append rz).append rd)) q2
  have b := bind s' (self :: us) ws kin (by rw [List.length_cons, ← rv.length, l1]) (rz.length.symm.trans l2)
  rw [List.cons_append, List.cons_append, pick_self] at b
  exact b
end
end Z

set_option Elab.async false
set_option linter.all false
set_option maxRecDepth 100000
set_option maxHeartbeats 4000000
/-! ZV: methods; exceptions of two fields; isinstance of own classes and of two types; None as a test. -/
namespace Z
open PySem PySem.Spec PyProof.Rows L2
def eMeth (c0 m : Str) (fn : Fn) (md : List Bool) (mo : M Rf) (ms : M (List Rf)) : M Rf := bindM mo fun x ρ => match deref ρ (stl x) with
  | some (.ins c ns _) => if c = c0 ∧ ns.contains m = false then bindM ms (fun xs => eFnL fn md (stl x :: xs)) ρ else none
  | _ => none
theorem lookup_out {f : Str} : ∀ {fs : List (Str × V)}, (fs.map (·.1)).contains f = false → fs.lookup f = none
  | [], _ => rfl
  | (g, v) :: fs, h => by
    rw [List.map_cons, List.contains_cons, Bool.or_eq_false_iff] at h
    rw [List.lookup_cons]
    have h1 : (f == g) = false := h.1
    rw [h1]
    exact lookup_out h.2
section
variable {X : Cx} {Y : Yc} {k : Nat} {f C : Addr} {fd : FuncData} {ps : List Str} {fn : Fn} {m c0 : Str} {p pos apos : Pos} {o e : Expr} {es : List Expr} {mo : M Rf} {ms : M (List Rf)} {md : List Bool}
theorem meth_tail {σ : L2.St} {H : Hp} {Q : VK} (hmg : X.mg c0 = some (.ref C)) (h : tG (amb X) Y (relE (amb X)) (eMeth c0 m fn md mo ms) σ H Q) :
    tG (amb X) Y (relE (amb X)) mo σ H fun x H1 => ∃ a dx fs, x = .ref a ∧ H1 a = some (.ins C dx fs) ∧ fs.lookup m = none ∧ tG (amb X) Y (relA (amb X)) ms σ H1 fun vs H2 => spZ (amb X) fn (x :: vs) H2 Q (fun cls d H' => Y.W cls d σ H') := by
  obtain ⟨F, P, G, ρ, r, er, e, hm, hp⟩ := h
  refine tE_bind er e hm hp fun G1 H1 ρ1 x v s1 e1 so1 hm1 hp1 => ?_
  cases q : deref ρ1 (stl x) with
  | none =>
    rw [q] at hm1
    cases hm1
  | some d =>
    rw [q] at hm1
    cases d with
    | ins c ns ds =>
      simp only at hm1
      by_cases hk : c = c0 ∧ ns.contains m = false
      · rw [if_pos hk] at hm1
        obtain ⟨rfl, hk⟩ := hk
        obtain ⟨a, C', dx, fs, rfl, m1, h1, rfl, h3⟩ := (top_of e1 so1 q).ins e1.gh
        have m1 : X.mg c = some (.ref C') := m1
        rw [hmg] at m1
        cases m1
        refine ⟨a, dx, fs, rfl, h1, lookup_out hk, tG_bind (Re := relA (amb X)) er e1 hm1 hp1 fun G2 H2 ρ2 xs vs s2 e2 so2 hk2 => ?_⟩
        exact fnL_tail e2 (.cons (so1.mono s2) so2) hk2 (hp1.mono s2)
      · rw [if_neg hk] at hm1
        cases hm1
    | _ => cases hm1
/-- o.m(e, ..) -/
theorem de_meth {pl : Sem Bool} (c : Cls X.K C) (hm : Meth X.K C m f) (hmg : X.mg c0 = some (.ref C)) (F : FnZ X.prog X.w X.K X.mg X.base k f fd ps fn) (hb : Binds X.K fd ps []) (hg : X.A.guards = some []) (hr : Room k X.A) (tk : Takes X Y.W) (ho : DE X Y o mo) (ha : DA X Y (e :: es) ms)
    (hst : starEach (e :: es) X.env = (false, eval e X.env) :: starEach es X.env := by rfl) (hpl : (backTo pos (starEach es X.env)).any (·.1) = false := by rfl)
    (ht : eval (.Call (.Attribute o m apos) (e :: es) [] pos) X.env = (do
      let ov ← eval o X.env
      standAt apos.atName
      let (g, first) ← holding [ov] (getMethod ov m pl)
      callWith pos g first (backTo pos (starEach (e :: es) X.env)) (backToKw pos (keywordEach [] X.env))) := by rfl) : DE X Y (.Call (.Attribute o m apos) (e :: es) [] pos) (eMeth c0 m fn md mo ms) := by
  refine ⟨fun pins s σ H Q I h => PySem.W.methodCall_KW (pl := pl) (thn (ho.run pins s σ H _ I (meth_tail hmg h)) ?_) ht⟩
  rintro u s1 ⟨x, H1, I1, rx, a, dx, fs, rfl, ea, l, q⟩
  obtain rfl : u = Value.ref a := rx
  refine getmeth_ok I1 ea c hm l (PySem.W.callWith_K (first := [.ref a]) (h₀ := X.base) I.ok.mod.kin hm.kp (thn (ha.run pos pins s1 σ H1 _ I1 q) ?_) hst hpl)
  rintro us s2 ⟨vs, H2, I2, r, q2⟩
  refine ⟨I2.kIn, run_z (all := .ref a :: us) F hg hr tk I2 ?_ (.cons (show RelV (V.ref a) (Value.ref a) from rfl) r) q2⟩
  have hl : ((Value.ref a :: us) ++ []).length = ps.length := by
    obtain ⟨G, as, r', _, hA, _, hf, _⟩ := q2
    rw [List.append_nil, List.length_cons, ← r.length, ← F.len _ _ hf, ← hA.length, List.length_cons]
  have b := hb s2 (Value.ref a :: us) I2.kIn hl
  rw [List.append_nil] at b
  exact b
/-- o.m() -/
theorem de_meth0 {pl : Sem Bool} (c : Cls X.K C) (hm : Meth X.K C m f) (hmg : X.mg c0 = some (.ref C)) (F : FnZ X.prog X.w X.K X.mg X.base k f fd ps fn) (hb : Binds X.K fd ps []) (hg : X.A.guards = some []) (hr : Room k X.A) (tk : Takes X Y.W) (ho : DE X Y o mo)
    (ht : eval (.Call (.Attribute o m apos) [] [] pos) X.env = (do
      let ov ← eval o X.env
      standAt apos.atName
      let (g, first) ← holding [ov] (getMethod ov m pl)
      callWith pos g first (backTo pos (starEach [] X.env)) (backToKw pos (keywordEach [] X.env))) := by rfl) : DE X Y (.Call (.Attribute o m apos) [] [] pos) (eMeth c0 m fn md mo aNil) := by
  refine ⟨fun pins s σ H Q I h => PySem.W.methodCall_KW (pl := pl) (thn (ho.run pins s σ H _ I (meth_tail hmg h)) ?_) ht⟩
  rintro u s1 ⟨x, H1, I1, rx, a, dx, fs, rfl, ea, l, q⟩
  obtain rfl : u = Value.ref a := rx
  obtain ⟨F1, P1, G1, ρ1, r1, er1, e1, hm1, hp1⟩ := q
  cases hm1
  have q2 := hp1 [] G1 H1 (Same.refl G1) e1 .nil
  have hl : ((Value.ref a :: []) ++ []).length = ps.length := by
    obtain ⟨G, as, r', _, hA, _, hf, _⟩ := q2
    rw [← F.len _ _ hf, ← hA.length]
    rfl
  have b := hb s1 [Value.ref a] I1.kIn hl
  rw [List.append_nil] at b
  exact getmeth_ok I1 ea c hm l (PySem.W.callWith_K0 (first := [.ref a]) I1.kIn hm.kp (run_z (us := [.ref a]) (all := [.ref a]) F hg hr tk I1 b (.cons (show RelV (V.ref a) (Value.ref a) from rfl) .nil) q2))
end
/-! exceptions of two fields -/
section
variable {P : Program} {w : World} {K : PySem.W.Frag} {mg : Str → Option Value} {base : Heap}
theorem ok_init2 {f : Addr} {fd : FuncData} {st : Stmt} {qual s1 s2 s3 : Str} {p1 p2 p3 p4 q1 q2 q3 q4 : Pos} {fl gl : Str} (F : Fun K "__init__" qual st f fd) (S : FnScope [s1, s2, s3] [s1, s2, s3] (defScope st))
    (hb : defBody st = [.Assign [.Attribute (.Name s1 p1) fl p2] (.Name s2 p3) p4, .Assign [.Attribute (.Name s1 q1) gl q2] (.Name s3 q3) q4])
    (h1 : (defScope st).names.lookup s1 = some .local) (h2 : (defScope st).names.lookup s2 = some .local) (h3 : (defScope st).names.lookup s3 = some .local) (d1 : (s1 == ("__debug__" : Str)) = false) (d2 : (s2 == ("__debug__" : Str)) = false) (d3 : (s3 == ("__debug__" : Str)) = false)
    (c1 : (s1 == ("__classdict__" : Str)) = false) (c2 : (s2 == ("__classdict__" : Str)) = false) (c3 : (s3 == ("__classdict__" : Str)) = false) : FnOk P w K mg base L2.CX0 1 f fd [s1, s2, s3] (spI2 K fl gl) := by
  refine F.ok S (fun vs H Q E h => ?_) (fun cdv A outer s H vs Q E hr h => ?_)
  · obtain ⟨a, C, y, z, rfl, _⟩ := h
    rfl
  · obtain ⟨a, C, y, z, rfl, T, hn, hn2, ha, k⟩ := h
    rw [hb]
    refine ⟨_, pss_cons (ps_ost (pe_var (i := 0) rfl (.inl h1) d1 c1) (pe_var (i := 1) rfl (.inl h2) d2 c2) rfl) (pss_one (ps_ost (pe_var (i := 0) rfl (.inl h1) d1 c1) (pe_var (i := 2) rfl (.inl h3) d3 c3) rfl)), ?_⟩
    refine ⟨_, rfl, _, rfl, a, C, rfl, T, hn, .inl ⟨ha, fun d n ne => ?_⟩⟩
    refine ⟨_, rfl, _, rfl, a, C, rfl, T, hn2, .inr ⟨d, [(fl, y)], upd_same, ?_, by simp, k d n ne⟩⟩
    rw [upd_ne ne, upd_same]
end
def sRaise2 (c f g : Str) (ms : M (List Rf)) : S := liftS ms fun xs => liftS (frzs xs) fun ds ρ => match ds with
  | [y, z] => some (.ex ⟨c, [g, f], [z, y]⟩ ρ)
  | _ => none
section
variable {X : Cx} {Y : Yc} {x : Str} {p pos pos2 : Pos} {a b : Expr} {ms : M (List Rf)}
theorem ds_raise2 {C fI : Addr} {k : Nat} {fd : FuncData} {ps : List Str} {f g : Str} (hc : X.calm = true) (T : OexC X.K C) (hno : PySem.W.findIn X.K (.ref C) f = some none) (hno2 : PySem.W.findIn X.K (.ref C) g = some none) (iC : PySem.W.findIn X.K (.ref C) "__init__" = some (some (.ref fI))) (tI : PySem.W.typeIn X.K (.ref fI) = some (.type "function"))
    (F1 : FnOk X.prog X.w X.K X.mg X.base L2.CX0 k fI fd ps (spI2 X.K f g)) (hr : Room (k + 1) X.A) (hb : Binds X.K fd ps []) (hm : X.mg x = some (.ref C)) (tk : Takes X Y.W) (ha : DA X Y [a, b] ms) (hg : Gl X x := by rfl)
    (hdb : (x == ("__debug__" : Str)) = false := by decide) (he : starEach (a :: [b]) X.env = (false, eval a X.env) :: starEach [b] X.env := by rfl) (hpl : (backTo pos (starEach [b] X.env)).any (·.1) = false := by rfl) :
    DS X Y (.Raise (some (.Call (.Name x p) [a, b] [] pos)) none pos2) (sRaise2 x f g ms) :=
  PS.weak (ps_raise hc tk (pmk_oex (dvs := []) T iC tI F1 hr hb .nil pass0 hg hm ha hdb he hpl)) fun D σ H ⟨F, P, G, ρ, o, er, e, hm0, hp⟩ => tS_bind (Re := relA (amb X)) er e hm0 hp fun G1 H1 ρ1 xs vs s1 e1 so hk => by
    obtain ⟨ds, ρ2, G2, hk2, s2, e2, im⟩ := liftS_frzs e1 so hk
    split at hk2
    · rename_i y z
      cases hk2
      cases im with
      | @cons v1 _ vs _ i1 im =>
      cases im with
      | @cons v2 _ vs _ i2 im =>
      cases im
      refine ⟨by simp, fun a0 n0 => ⟨a0, C, v1, v2, rfl, T, hno, hno2, upd_same, fun dx nd ne => ⟨rfl, dx, [(g, v2), (f, v1)], ?_, upd_same, ?_, ?_⟩⟩⟩
      · rw [upd_ne (Ne.symm ne), upd_same]
      · rw [upd_ne ne] at nd
        exact nd
      · rw [upd_ne ne] at nd
        have eq : upd (del (upd (upd (upd (upd H1 a0 (exo a0 C none)) dx (exd dx [(f, v1)])) a0 (exo a0 C (some dx))) dx (exd dx [(g, v2), (f, v1)])) a0) dx (.xd [(g, v2), (f, v1)]) = upd H1 dx (.xd [(g, v2), (f, v1)]) := by
          funext t
          by_cases h : t = dx
          · rw [h, upd_same, upd_same]
          · rw [upd_ne h, upd_ne h]
            unfold del
            by_cases h2 : t = a0
            · rw [if_pos h2, h2, n0]
            · rw [if_neg h2, upd_ne h, upd_ne h2, upd_ne h, upd_ne h2]
        rw [eq]
        obtain ⟨e3, s3⟩ := e2.new (o := .xd [(g, v2), (f, v1)]) nd
        exact hp (.ref C) (some dx) σ _ _ e3 ⟨C, hm, rfl, .inr ⟨dx, [(g, v2), (f, v1)], rfl, upd_same, rfl, .cons (i2.mono s3) (.cons (i1.mono s3) .nil)⟩⟩
    · cases hk2
end
end Z

set_option Elab.async false
set_option linter.all false
set_option maxRecDepth 100000
set_option maxHeartbeats 4000000
/-! ZW: sets made of lists, tuples. -/
namespace L2
open PySem PySem.Spec PyProof.Rows
abbrev set0 (w : World) : Obj := { cls := .type "set", dict := none, data := .set #[] 0 (.fresh 0 0 (!w.params.followText "set-order")) }
section
variable {P : Program} {w : World} {A : Around} {E : Value → Shared → Prop} {s : Shared}
/-- set(xs), xs a list: what the update's loop makes of the new set -/
theorem set_of_list {l : Addr} {items : Array Value} {Z : Heap → Prop} {Q : Value → Shared → Prop} (hl : s.heap.IsList l items)
    (loop : ∀ (R : Result → Shared → Prop), (∀ (h' : Heap) (tk : Nat), Z h' → (∀ b o, s.heap.get? b = some o → h'.get? b = some o) → R (.ok (.ret .none)) { s with heap := h', toks := tk }) →
      codeAny (model P w) A.in1.in1 (.builtin "set.update.loop" ⟨[.ref s.heap.objs.size, .ref (s.heap.objs.size + 1)], []⟩) R { s with heap := (s.heap.push (set0 w)).push { cls := .type "list_iterator", data := .fields #[.ref l, .int 0 0] } })
    (h : ∀ (h' : Heap) (tk : Nat), Z h' → (∀ b o, s.heap.get? b = some o → h'.get? b = some o) → Q (.ref s.heap.objs.size) { s with heap := h', toks := tk }) : wpAny (model P w) A (call (.type "set") [.ref l]) Q E s := by
  obtain ⟨c, tl, hmro⟩ := F.called_set.mro
  have hmade := F.called_set.made
  have hsub := F.called_set.sub
  apply wpAny_call
  apply codeAny_of_tree
  show wpAny _ _ (callAny (.type "set") _) _ _ _
  apply wpAny_pure
  refine ⟨Code.quiet_builtin _ (by decide +kernel), codeAny_builtin F.entry_type_call ?_⟩
  rw [Around.under_plain (weight_type_call_type "set" [.ref l] []) rfl]
  have h1 := F.called_set.notType
  have h2 := F.called_set.canCreate
  have hct := F.typeCall_set_1 (.ref l)
  repeat (any_goals (first | assumption | wp_step))
  refine codeAny_mono (code_set_led1 (.ref l) (E := E) (Q₁ := fun obj s₁ => obj = .ref s.heap.objs.size ∧ s₁ = { s with heap := s.heap.push (set0 w) }) ⟨rfl, rfl⟩) fun r s₁ hr => ?_
  cases r with
  | error e => exact hr
  | ok fl =>
    cases fl with
    | ret obj =>
      obtain ⟨rfl, rfl⟩ := hr
      have hS : (s.heap.push (set0 w)).get? s.heap.objs.size = some (set0 w) := Heap.get?_push_size _ rfl
      have hT : Shared.TypeIs { s with heap := s.heap.push (set0 w) } (.ref s.heap.objs.size) "set" := ⟨_, hS, rfl⟩
      have hli := F.called_set.init.lookup
      have hbi := F.called_set.init.bind (.ref s.heap.objs.size)
      repeat (any_goals (first | assumption | wp_step))
      refine codeAny_mono (codeAny_call_builtin (R := wants (fun r s₂ => r = .none ∧ ∃ h' tk, s₂ = { s with heap := h', toks := tk } ∧ Z h' ∧ (∀ b o, s.heap.get? b = some o → h'.get? b = some o)) E) F.called_set.init.plain F.entry_set_init (check_set_init_1 hT ?_)) fun r₂ s₂ hr₂ => ?_
      · obtain ⟨⟨ocls, odict, odata, oslots⟩, hol, hcl, nl, hdl⟩ := hl
        simp only at hcl hdl
        subst hcl; subst hdl
        have hol' : (s.heap.push (set0 w)).get? l = some { cls := .type "list", dict := odict, data := .seq items nl, slots := oslots } := Heap.get?_push_of_some _ hol
        have hsls := F.sub_list_set
        have hslf := F.sub_list_frozenset
        have hne : (Value.type "list" == Value.type "dict") = false := by decide
        have hl1 : (s.heap.push (set0 w)).IsList l items := ⟨_, hol', rfl, nl, rfl⟩
        unfold Builtin.«set.__init__» noKeywords Builtin.Frozenset.updateFrom
        generalize hPI : pyIter = PI
        wp_walk
        subst hPI
        refine wpAny_pyIter_list hl1 (wpAny_bind (wpAny_runValue ?_))
        have sz : (s.heap.push (set0 w)).objs.size = s.heap.objs.size + 1 := Heap.size_push ..
        show codeAny _ _ (.builtin "set.update.loop" ⟨[.ref s.heap.objs.size, .ref (s.heap.push (set0 w)).objs.size], []⟩) _ _
        rw [sz]
        refine loop _ fun h' tk z kp => ?_
        show wpAny _ _ _ _ _ _
        apply wpAny_pure
        show wpAny _ _ (ret Value.none) _ _ _
        exact wpAny_pure ⟨rfl, h', tk, rfl, z, kp⟩
      · cases r₂ with
        | error e => exact hr₂
        | ok fl₂ =>
          cases fl₂ with
          | ret r =>
            obtain ⟨rfl, h', tk, rfl, z, kp⟩ := hr₂
            repeat (any_goals (first | assumption | wp_step))
            exact h _ _ z kp
          | _ => exact hr₂.elim
    | _ => exact hr.elim
/-- set(xs), xs a tuple: what the update's loop makes of the new set -/
theorem set_of_tuple {l : Addr} {items : Array Value} {Z : Heap → Prop} {Q : Value → Shared → Prop} (hl : s.heap.IsTuple l items)
    (loop : ∀ (R : Result → Shared → Prop), (∀ (h' : Heap) (tk : Nat), Z h' → (∀ b o, s.heap.get? b = some o → h'.get? b = some o) → R (.ok (.ret .none)) { s with heap := h', toks := tk }) →
      codeAny (model P w) A.in1.in1 (.builtin "set.update.loop" ⟨[.ref s.heap.objs.size, .ref (s.heap.objs.size + 1)], []⟩) R { s with heap := (s.heap.push (set0 w)).push { cls := .type "tuple_iterator", data := .fields #[.ref l, .int 0 0] } })
    (h : ∀ (h' : Heap) (tk : Nat), Z h' → (∀ b o, s.heap.get? b = some o → h'.get? b = some o) → Q (.ref s.heap.objs.size) { s with heap := h', toks := tk }) : wpAny (model P w) A (call (.type "set") [.ref l]) Q E s := by
  obtain ⟨c, tl, hmro⟩ := F.called_set.mro
  have hmade := F.called_set.made
  have hsub := F.called_set.sub
  apply wpAny_call
  apply codeAny_of_tree
  show wpAny _ _ (callAny (.type "set") _) _ _ _
  apply wpAny_pure
  refine ⟨Code.quiet_builtin _ (by decide +kernel), codeAny_builtin F.entry_type_call ?_⟩
  rw [Around.under_plain (weight_type_call_type "set" [.ref l] []) rfl]
  have h1 := F.called_set.notType
  have h2 := F.called_set.canCreate
  have hct := F.typeCall_set_1 (.ref l)
  repeat (any_goals (first | assumption | wp_step))
  refine codeAny_mono (code_set_led1 (.ref l) (E := E) (Q₁ := fun obj s₁ => obj = .ref s.heap.objs.size ∧ s₁ = { s with heap := s.heap.push (set0 w) }) ⟨rfl, rfl⟩) fun r s₁ hr => ?_
  cases r with
  | error e => exact hr
  | ok fl =>
    cases fl with
    | ret obj =>
      obtain ⟨rfl, rfl⟩ := hr
      have hS : (s.heap.push (set0 w)).get? s.heap.objs.size = some (set0 w) := Heap.get?_push_size _ rfl
      have hT : Shared.TypeIs { s with heap := s.heap.push (set0 w) } (.ref s.heap.objs.size) "set" := ⟨_, hS, rfl⟩
      have hli := F.called_set.init.lookup
      have hbi := F.called_set.init.bind (.ref s.heap.objs.size)
      repeat (any_goals (first | assumption | wp_step))
      refine codeAny_mono (codeAny_call_builtin (R := wants (fun r s₂ => r = .none ∧ ∃ h' tk, s₂ = { s with heap := h', toks := tk } ∧ Z h' ∧ (∀ b o, s.heap.get? b = some o → h'.get? b = some o)) E) F.called_set.init.plain F.entry_set_init (check_set_init_1 hT ?_)) fun r₂ s₂ hr₂ => ?_
      · obtain ⟨⟨ocls, odict, odata, oslots⟩, hol, hcl, nl, hdl⟩ := hl
        simp only at hcl hdl
        subst hcl; subst hdl
        have hol' : (s.heap.push (set0 w)).get? l = some { cls := .type "tuple", dict := odict, data := .seq items nl, slots := oslots } := Heap.get?_push_of_some _ hol
        have hsls := F.sub_tuple_set
        have hslf := F.sub_tuple_frozenset
        have hne : (Value.type "tuple" == Value.type "dict") = false := by decide
        have hl1 : (s.heap.push (set0 w)).IsTuple l items := ⟨_, hol', rfl, nl, rfl⟩
        unfold Builtin.«set.__init__» noKeywords Builtin.Frozenset.updateFrom
        generalize hPI : pyIter = PI
        wp_walk
        subst hPI
        refine wpAny_pyIter_tuple hl1 (wpAny_bind (wpAny_runValue ?_))
        have sz : (s.heap.push (set0 w)).objs.size = s.heap.objs.size + 1 := Heap.size_push ..
        show codeAny _ _ (.builtin "set.update.loop" ⟨[.ref s.heap.objs.size, .ref (s.heap.push (set0 w)).objs.size], []⟩) _ _
        rw [sz]
        refine loop _ fun h' tk z kp => ?_
        show wpAny _ _ _ _ _ _
        apply wpAny_pure
        show wpAny _ _ (ret Value.none) _ _ _
        exact wpAny_pure ⟨rfl, h', tk, rfl, z, kp⟩
      · cases r₂ with
        | error e => exact hr₂
        | ok fl₂ =>
          cases fl₂ with
          | ret r =>
            obtain ⟨rfl, h', tk, rfl, z, kp⟩ := hr₂
            repeat (any_goals (first | assumption | wp_step))
            exact h _ _ z kp
          | _ => exact hr₂.elim
    | _ => exact hr.elim
end
end L2

set_option Elab.async false
set_option linter.all false
set_option maxRecDepth 100000
set_option maxHeartbeats 4000000
/-! ZX: sorted(set(xs)) of ints, of tuples of ints. -/
namespace L2
open PySem PySem.Spec PyProof.Rows
section
variable {P : Program} {w : World} {A : Around} {E : Value → Shared → Prop} {s : Shared}
theorem none_over {b : Addr} (hb : s.heap.objs.size ≤ b) : s.heap.get? b = none := by
  cases q : s.heap.get? b with
  | none => rfl
  | some o => exact absurd (Nat.lt_of_lt_of_le (Heap.lt_size q) hb) (Nat.lt_irrefl _)
/-- the loop over ints -/
theorem loop_ints {l : Addr} {items : Array Value} {fp wr : List Addr} {St : Nat → Shared → Prop} {o : Obj} (ns : List Int) (hit : IntsAre items.toList ns) (hb : ns.length + 1 < scanBound)
    (W : WalksS P w A.in1.in1.in1 (s.heap.objs.size + 1) fp wr (fun g g' => g' = g) items.size (fun i v => items[i]? = some v) St) (hf : s.heap.objs.size ∉ fp) (hw : ∀ b ∈ wr, s.heap.objs.size ≤ b)
    (h0 : St 0 { s with heap := (s.heap.push (set0 w)).push o }) (R : Result → Shared → Prop)
    (fin : ∀ (h' : Heap) (tk : Nat), (∃ c, SetR w h' s.heap.objs.size (fun j => decide (j ∈ ns)) c ∧ c ≤ ns.length) → (∀ b o, s.heap.get? b = some o → h'.get? b = some o) → R (.ok (.ret .none)) { s with heap := h', toks := tk }) :
    codeAny (model P w) A.in1.in1 (.builtin "set.update.loop" ⟨[.ref s.heap.objs.size, .ref (s.heap.objs.size + 1)], []⟩) R { s with heap := (s.heap.push (set0 w)).push o } := by
  have hn : items.size = ns.length := by
    have q := IntsAre.length hit
    rw [Array.length_toList] at q
    exact q
  have hval : ∀ (i : Nat) (v : Value), items[i]? = some v → ∃ k t, ns[i]? = some k ∧ v = .int k t := fun i v hv => by
    have hi : i < ns.length := by
      rw [← hn]
      exact (Array.getElem?_eq_some_iff.mp hv).1
    obtain ⟨t, e⟩ := PyProof.Rows.IntsAre.int_at hit i v (by rw [Array.getElem?_toList]; exact hv)
    refine ⟨ns[i], t, List.getElem?_eq_getElem hi, ?_⟩
    rw [e, List.getD_eq_getElem?_getD, List.getElem?_eq_getElem hi]
    all_goals rfl
  have at0 : ((s.heap.push (set0 w)).push o).get? s.heap.objs.size = some (set0 w) := Heap.get?_push_of_some _ (Heap.get?_push_size _ rfl)
  refine set_update_ints W s.heap.objs.size hf ns hn hb hval (items.size - 0) 0 _ (by omega) (Nat.zero_le _) h0 ⟨0, Nat.le_refl 0, setR_new_at at0⟩ fun s' c hm hc hS => ?_
  obtain ⟨h', g2, d', tk', os'⟩ := s'
  cases hm.gens
  cases (show d' = s.drawn from hm.drawn)
  cases (show os' = s.os from hm.os)
  rw [hn] at hc
  refine fin h' tk' ⟨c, hS, hc⟩ fun b o' e => hm.heap b o' (fun z => ?_) (Heap.get?_push_of_some _ (Heap.get?_push_of_some _ e))
  have lt := Heap.lt_size e
  rcases List.mem_cons.mp z with z | z
  · rw [z] at lt
    exact Nat.lt_irrefl _ lt
  · exact absurd lt (Nat.not_lt.mpr (hw b z))
/-- the loop over tuples of ints -/
theorem loop_tups {l : Addr} {items : Array Value} {fp wr : List Addr} {St : Nat → Shared → Prop} {o : Obj} (ks : List (Addr × List Int)) (hit : items.toList = ks.map fun p => Value.ref p.1) (hk : ∀ p ∈ ks, IsT P w s.heap p.2 p.1) (few : ks.length < 64) (hu : A.units + 3 < cLine)
    (W : WalksS P w A.in1.in1.in1 (s.heap.objs.size + 1) fp wr (fun g g' => g' = g) items.size (fun i v => items[i]? = some v) St) (hf : s.heap.objs.size ∉ fp) (hw : ∀ b ∈ wr, s.heap.objs.size ≤ b)
    (h0 : St 0 { s with heap := (s.heap.push (set0 w)).push o }) (R : Result → Shared → Prop)
    (fin : ∀ (h' : Heap) (tk : Nat), (∃ L es ep t, SetTR P w h' s.heap.objs.size L es ep t ∧ Got ks ks.length L) → (∀ b o, s.heap.get? b = some o → h'.get? b = some o) → R (.ok (.ret .none)) { s with heap := h', toks := tk }) :
    codeAny (model P w) A.in1.in1 (.builtin "set.update.loop" ⟨[.ref s.heap.objs.size, .ref (s.heap.objs.size + 1)], []⟩) R { s with heap := (s.heap.push (set0 w)).push o } := by
  have hn : items.size = ks.length := by
    have q := congrArg List.length hit
    rw [Array.length_toList, List.length_map] at q
    exact q
  have hval : ∀ (i : Nat) (v : Value), items[i]? = some v → ∃ p, ks[i]? = some p ∧ v = .ref p.1 := fun i v hv => by
    have q : items.toList[i]? = some v := by rw [Array.getElem?_toList]; exact hv
    rw [hit, List.getElem?_map] at q
    cases e : ks[i]? with
    | none =>
      rw [e] at q
      cases q
    | some p =>
      rw [e] at q
      exact ⟨p, rfl, (Option.some.inj q).symm⟩
  have at0 : ((s.heap.push (set0 w)).push o).get? s.heap.objs.size = some (set0 w) := Heap.get?_push_of_some _ (Heap.get?_push_size _ rfl)
  refine set_update_tups W s.heap.objs.size hf ks hn few hval s.heap hk (none_over (Nat.le_refl _)) (fun b hb => none_over (hw b hb)) (by show A.units + 3 < cLine; exact hu) (items.size - 0) 0 _ (by omega) (Nat.zero_le _) h0
    (fun b o' e => Heap.get?_push_of_some _ (Heap.get?_push_of_some _ e)) ⟨[], #[], 0, _, setTR_fresh at0, Got.zero ks⟩ fun s' L es ep t hm hS g kp => ?_
  obtain ⟨h', g2, d', tk', os'⟩ := s'
  cases hm.gens
  cases (show d' = s.drawn from hm.drawn)
  cases (show os' = s.os from hm.os)
  rw [hn] at g
  exact fin h' tk' ⟨L, es, ep, t, hS, g⟩ kp
end
section
variable {X : Cx}
theorem ne_succ {l n : Nat} (h : l < n) : l ≠ n + 1 := by omega
theorem out_two {l n : Nat} (h : l < n) : n ∉ [n + 1, l] := by
  simp only [List.mem_cons, List.not_mem_nil, or_false, not_or]
  omega
def rSetI (X : Cx) : List V → Hp → VK → Prop := fun xs H Q => ∃ (l : Addr) (ns : List Int), xs = [.ref l] ∧ (SqL X.K H l (ns.map V.int) ∨ SqT X.K H l (ns.map V.int)) ∧ ns.length < 64 ∧
  ∀ (a : Addr) (c : Nat), H a = none → c ≤ ns.length → Q (.ref a) (upd H a (SetO X.w a (fun j => decide (j ∈ ns)) c))
theorem cr_setI (hc : X.calm = true) : CallR X (.type "set") (rSetI X) := by
  intro pins s σ H xs us Q I r h
  obtain ⟨l, ns, rfl, hq, h64, q⟩ := h
  rw [Vals.ref1 r]
  have hh : X.A.in1.in1.in1.handled = none := by simp [I.ok.hd hc]
  have big : ns.length + 1 < scanBound := Nat.lt_of_lt_of_le (Nat.succ_lt_succ h64) (by decide)
  have fin : ∀ (h' : Heap) (tk : Nat), (∃ c, SetR X.w h' s.heap.objs.size (fun j => decide (j ∈ ns)) c ∧ c ≤ ns.length) → (∀ b o, s.heap.get? b = some o → h'.get? b = some o) → EP X pins σ Q (.ref s.heap.objs.size) { s with heap := h', toks := tk } := by
    rintro h' tk ⟨c, R, le⟩ kp
    exact ⟨.ref _, _, I.laid (t' := tk) kp (Nat.le_refl _) (setO_new R), rfl, q _ c I.fresh le⟩
  rcases hq with hq | hq
  · obtain ⟨its, rv, pl, _⟩ := I.list hq
    have lt : l < s.heap.objs.size := by
      obtain ⟨o, g, _⟩ := pl.isList
      exact Heap.lt_size g
    have il : ((s.heap.push (set0 X.w)).push { cls := .type "list_iterator", data := .fields #[.ref l, .int 0 0] }).IsList l its.toArray := (pl.isList.push _).push _
    refine set_of_list pl.isList (fun R k => loop_ints (l := l) ns (by simpa using rv.ints) big (Walks.list hh (s.heap.objs.size + 1) l (ne_succ lt) its.toArray).toS (out_two lt) (fun b hb => by rw [List.mem_singleton.mp hb]; exact Nat.le_succ _) ⟨⟨{ cls := .type "list_iterator", data := .fields #[.ref l, .int 0 0] }, ?_, rfl, rfl⟩, il⟩ R k) fin
    have sz : (s.heap.push (set0 X.w)).objs.size = s.heap.objs.size + 1 := Heap.size_push ..
    rw [← sz]
    exact Heap.get?_push_size _ rfl
  · obtain ⟨its, rv, pl, _⟩ := I.tuple hq
    have lt : l < s.heap.objs.size := by
      obtain ⟨o, g, _⟩ := pl
      exact Heap.lt_size g
    have il : ((s.heap.push (set0 X.w)).push { cls := .type "tuple_iterator", data := .fields #[.ref l, .int 0 0] }).IsTuple l its.toArray := PySem.Heap.IsTuple.push (PySem.Heap.IsTuple.push pl _) _
    refine set_of_tuple pl (fun R k => loop_ints (l := l) ns (by simpa using rv.ints) big (Walks.tuple hh (s.heap.objs.size + 1) l (ne_succ lt) its.toArray).toS (out_two lt) (fun b hb => by rw [List.mem_singleton.mp hb]; exact Nat.le_succ _) ⟨⟨{ cls := .type "tuple_iterator", data := .fields #[.ref l, .int 0 0] }, ?_, rfl, rfl⟩, il⟩ R k) fin
    have sz : (s.heap.push (set0 X.w)).objs.size = s.heap.objs.size + 1 := Heap.size_push ..
    rw [← sz]
    exact Heap.get?_push_size _ rfl
def rSetP (X : Cx) : List V → Hp → VK → Prop := fun xs H Q => ∃ (l : Addr) (ks : List (Addr × List Int)), xs = [.ref l] ∧ (SqL X.K H l (ks.map fun p => V.ref p.1) ∨ SqT X.K H l (ks.map fun p => V.ref p.1)) ∧ (∀ p ∈ ks, SqT X.K H p.1 (p.2.map V.int)) ∧ ks.length < 64 ∧
  ∀ a L, H a = none → (∀ p ∈ L, p ∈ ks) → (∀ p ∈ ks, p.2 ∈ L.map (·.2)) → Q (.ref a) (upd H a (SetTO X.prog X.w a L))
theorem cr_setP (hc : X.calm = true) (hu : X.A.units + 64 < cLine) : CallR X (.type "set") (rSetP X) := by
  intro pins s σ H xs us Q I r h
  obtain ⟨l, ks, rfl, hq, hk, h64, q⟩ := h
  rw [Vals.ref1 r]
  have hh : X.A.in1.in1.in1.handled = none := by simp [I.ok.hd hc]
  have fin : ∀ (h' : Heap) (tk : Nat), (∃ L es ep t, SetTR X.prog X.w h' s.heap.objs.size L es ep t ∧ Got ks ks.length L) → (∀ b o, s.heap.get? b = some o → h'.get? b = some o) → EP X pins σ Q (.ref s.heap.objs.size) { s with heap := h', toks := tk } := by
    rintro h' tk ⟨L, es, ep, t, R, g⟩ kp
    refine ⟨.ref _, _, I.laid (t' := tk) kp (Nat.le_refl _) (setTO_new R.t0), rfl, q _ L I.fresh (fun p hp => List.mem_of_mem_take (g.sub p hp)) fun p hp => g.all p ?_⟩
    rw [List.take_length]
    exact hp
  have hT : ∀ p ∈ ks, IsT X.prog X.w s.heap p.2 p.1 := fun p hp => I.isT (hk p hp)
  rcases hq with hq | hq
  · obtain ⟨its, rv, pl, _⟩ := I.list hq
    have lt : l < s.heap.objs.size := by
      obtain ⟨o, g, _⟩ := pl.isList
      exact Heap.lt_size g
    have il : ((s.heap.push (set0 X.w)).push { cls := .type "list_iterator", data := .fields #[.ref l, .int 0 0] }).IsList l its.toArray := (pl.isList.push _).push _
    refine set_of_list pl.isList (fun R k => loop_tups (l := l) ks (by simpa using refs_of_vals rv) hT h64 (by omega) (Walks.list hh (s.heap.objs.size + 1) l (ne_succ lt) its.toArray).toS (out_two lt) (fun b hb => by rw [List.mem_singleton.mp hb]; exact Nat.le_succ _) ⟨⟨{ cls := .type "list_iterator", data := .fields #[.ref l, .int 0 0] }, ?_, rfl, rfl⟩, il⟩ R k) fin
    have sz : (s.heap.push (set0 X.w)).objs.size = s.heap.objs.size + 1 := Heap.size_push ..
    rw [← sz]
    exact Heap.get?_push_size _ rfl
  · obtain ⟨its, rv, pl, _⟩ := I.tuple hq
    have lt : l < s.heap.objs.size := by
      obtain ⟨o, g, _⟩ := pl
      exact Heap.lt_size g
    have il : ((s.heap.push (set0 X.w)).push { cls := .type "tuple_iterator", data := .fields #[.ref l, .int 0 0] }).IsTuple l its.toArray := PySem.Heap.IsTuple.push (PySem.Heap.IsTuple.push pl _) _
    refine set_of_tuple pl (fun R k => loop_tups (l := l) ks (by simpa using refs_of_vals rv) hT h64 (by omega) (Walks.tuple hh (s.heap.objs.size + 1) l (ne_succ lt) its.toArray).toS (out_two lt) (fun b hb => by rw [List.mem_singleton.mp hb]; exact Nat.le_succ _) ⟨⟨{ cls := .type "tuple_iterator", data := .fields #[.ref l, .int 0 0] }, ?_, rfl, rfl⟩, il⟩ R k) fin
    have sz : (s.heap.push (set0 X.w)).objs.size = s.heap.objs.size + 1 := Heap.size_push ..
    rw [← sz]
    exact Heap.get?_push_size _ rfl
end
end L2

set_option Elab.async false
set_option linter.all false
set_option maxRecDepth 100000
set_option maxHeartbeats 4000000
/-! ZY: x in a tuple or list; isinstance of an own class, of two types. -/
namespace Z
open PySem PySem.Spec PyProof.Rows L2
section
variable {P : Program} {w : World} {A : Around} {E : Value → Shared → Prop} {s : Shared}
theorem in_tupR {c x : Value} {xs : List PyData} {d : PyData} {as bs : List Addr} {Q : Value → Shared → Prop} (rc : PySem.Reads s.heap c (.tuple xs) as) (rx : PySem.Reads s.heap x d bs) (hxs : PyData.canLayAll0 xs = true) (hd : d.canLay0 = true)
    (hu : A.units + 1 + min (PyData.depthAll xs) d.depth < cLine) (h : Q (.bool (xs.any fun y => PyData.eqv y d)) s) : wpAny (model P w) A (compareOp .In x c) Q E s := by
  cases rc with
  | tuple h1 h2 h3 h4 => exact SeqAt.in_tupleAt _ ⟨_, h1, h2, _, h3⟩ (SeqAt.items_eqAt h4 rx hxs hd hu) (by rw [SeqAt.any_by_data h4 hxs]; exact h)
theorem notin_tupR {c x : Value} {xs : List PyData} {d : PyData} {as bs : List Addr} {Q : Value → Shared → Prop} (rc : PySem.Reads s.heap c (.tuple xs) as) (rx : PySem.Reads s.heap x d bs) (hxs : PyData.canLayAll0 xs = true) (hd : d.canLay0 = true)
    (hu : A.units + 1 + min (PyData.depthAll xs) d.depth < cLine) (h : Q (.bool (!xs.any fun y => PyData.eqv y d)) s) : wpAny (model P w) A (compareOp .NotIn x c) Q E s := by
  cases rc with
  | tuple h1 h2 h3 h4 => exact SeqAt.notIn_tupleAt _ ⟨_, h1, h2, _, h3⟩ (SeqAt.items_eqAt h4 rx hxs hd hu) (by rw [SeqAt.any_by_data h4 hxs]; exact h)
end
section
variable {X : Cx} {Y : Yc} {a : Expr} {ma : M Rf} {pos : Pos}
def rInT (K : PySem.W.Frag) (neg : Bool) : R2 := fun x y H Q => ∃ d ds, Dp K H x d ∧ Dp K H y (.tuple ds) ∧ SeqAt.shaped d = true ∧ SeqAt.shaped (.tuple ds) = true ∧ Q (.bl (if neg then !(ds.any fun z => PyData.eqv z d) else ds.any fun z => PyData.eqv z d)) H
theorem op_inT (hu : X.A.units + 65 < cLine) : OpR X (compareOp .In) (rInT X.K false) := by
  intro pins s σ H x y v u Q I rx ry h
  obtain ⟨d, ds, hd, he, sd, se, q⟩ := h
  obtain ⟨as, r1⟩ := Dp.reads I d x v hd rx
  obtain ⟨bs, r2⟩ := Dp.reads I (.tuple ds) y u he ry
  exact in_tupR r2 r1 (SeqAt.canLay_of_shaped se) (SeqAt.canLay_of_shaped sd) (room_in_shaped sd hu) ⟨.bl _, H, I, rfl, q⟩
theorem op_notinT (hu : X.A.units + 65 < cLine) : OpR X (compareOp .NotIn) (rInT X.K true) := by
  intro pins s σ H x y v u Q I rx ry h
  obtain ⟨d, ds, hd, he, sd, se, q⟩ := h
  obtain ⟨as, r1⟩ := Dp.reads I d x v hd rx
  obtain ⟨bs, r2⟩ := Dp.reads I (.tuple ds) y u he ry
  exact notin_tupR r2 r1 (SeqAt.canLay_of_shaped se) (SeqAt.canLay_of_shaped sd) (room_in_shaped sd hu) ⟨.bl _, H, I, rfl, q⟩
/-- whether d is in q -/
def inD (d q : D) : Option Bool := match d.py, q.py with
  | some x, some (.list ys) => if SeqAt.shaped x = true ∧ SeqAt.shaped (.list ys) = true then some (ys.any fun z => PyData.eqv z x) else none
  | some x, some (.tuple ys) => if SeqAt.shaped x = true ∧ SeqAt.shaped (.tuple ys) = true then some (ys.any fun z => PyData.eqv z x) else none
  | _, _ => none
theorem inD_some {d q : D} {c : Bool} (h : inD d q = some c) : ∃ x ys, d.py = some x ∧ SeqAt.shaped x = true ∧ c = (ys.any fun z => PyData.eqv z x) ∧ ((q.py = some (.list ys) ∧ SeqAt.shaped (.list ys) = true) ∨ (q.py = some (.tuple ys) ∧ SeqAt.shaped (.tuple ys) = true)) := by
  unfold inD at h
  split at h
  · rename_i x ys e1 e2
    split at h
    · rename_i g
      cases h
      exact ⟨x, ys, e1, g.1, rfl, .inl ⟨e2, g.2⟩⟩
    · cases h
  · rename_i x ys e1 e2
    split at h
    · rename_i g
      cases h
      exact ⟨x, ys, e1, g.1, rfl, .inr ⟨e2, g.2⟩⟩
    · cases h
  · cases h
def fIn : D → D → Option D := fun p q => (inD p q).map .bl
def fNin : D → D → Option D := fun p q => (inD p q).map fun c => .bl (!c)
theorem od_in (hu : X.A.units + 65 < cLine) : OpD X (compareOp .In) fIn := ⟨_, (op_inD hu).or (op_inT hu), fun F P σ G H ρ x y p q d Q e t1 t2 hf hq => by
  obtain ⟨c, hc, rfl⟩ := map_some' hf
  obtain ⟨x', ys, h1, h2, rfl, h3 | h3⟩ := inD_some hc
  · exact .inl ⟨x', ys, t1.dp e.gh h1, t2.dp e.gh h3.1, h2, h3.2, hq _ G H (Same.refl G) e (.bl _)⟩
  · exact .inr ⟨x', ys, t1.dp e.gh h1, t2.dp e.gh h3.1, h2, h3.2, hq _ G H (Same.refl G) e (.bl _)⟩⟩
theorem od_nin (hu : X.A.units + 65 < cLine) : OpD X (compareOp .NotIn) fNin := ⟨_, (op_notInD hu).or (op_notinT hu), fun F P σ G H ρ x y p q d Q e t1 t2 hf hq => by
  obtain ⟨c, hc, rfl⟩ := map_some' hf
  obtain ⟨x', ys, h1, h2, rfl, h3 | h3⟩ := inD_some hc
  · exact .inl ⟨x', ys, t1.dp e.gh h1, t2.dp e.gh h3.1, h2, h3.2, hq _ G H (Same.refl G) e (.bl _)⟩
  · exact .inr ⟨x', ys, t1.dp e.gh h1, t2.dp e.gh h3.1, h2, h3.2, hq _ G H (Same.refl G) e (.bl _)⟩⟩
/-! isinstance(x, (list, tuple)) -/
def isLT (d : D) : Option Bool := match isTy d .list, isTy d .tuple with
  | some b, some c => some (b || c)
  | _, _ => none
theorem isLT_some {d : D} {b : Bool} (h : isLT d = some b) : ∃ n, d.ty = some n ∧ ∀ K, PySem.W.kitAny K (.type n) [.type "list", .type "tuple"] = some b := by
  unfold isLT at h
  split at h
  · rename_i b1 b2 e1 e2
    cases h
    obtain ⟨n, h1, k1⟩ := isTy_kit e1
    obtain ⟨m, h2, k2⟩ := isTy_kit e2
    rw [h1] at h2
    cases h2
    refine ⟨n, h1, fun K => kitAny_cons (kit_ty k1) (fun z => kitAny_cons (kit_ty k2) (fun z2 => ?_) fun z2 => ?_) fun z => ?_⟩
    · rw [z, z2]
      rfl
    · rw [z, z2]
      rfl
    · rw [z]
      rfl
  · cases h
def eIsLT (ma : M Rf) : M Rf := bindM ma fun x => bindM (drf (stl x)) fun d => optM ((isLT d).map fun b => .dat (.bl b))
theorem de_isLT {x1 : Nat} {p p2 p3 p4 : Pos} (hm : X.mg "isinstance" = none) (hml : X.mg "list" = none) (hmt : X.mg "tuple" = none) (ha : DE X Y a ma) (hgl : Gl X "list" := by rfl) (hgt : Gl X "tuple" := by rfl) (hg : Gl X "isinstance" := by rfl)
    (he : starEach [a, .Tuple [.Name "list" p2, .Name "tuple" p3] x1 p4] X.env = (false, eval a X.env) :: starEach [.Tuple [.Name "list" p2, .Name "tuple" p3] x1 p4] X.env := by rfl)
    (he2 : starEach [.Tuple [.Name "list" p2, .Name "tuple" p3] x1 p4] X.env = (false, eval (.Tuple [.Name "list" p2, .Name "tuple" p3] x1 p4) X.env) :: starEach [] X.env := by rfl)
    (he3 : starEach [.Name "list" p2, .Name "tuple" p3] X.env = (false, eval (.Name "list" p2) X.env) :: starEach [.Name "tuple" p3] X.env := by rfl)
    (he4 : starEach [.Name "tuple" p3] X.env = (false, eval (.Name "tuple" p3) X.env) :: starEach [] X.env := by rfl)
    (hpl : (backTo pos (starEach [.Tuple [.Name "list" p2, .Name "tuple" p3] x1 p4] X.env)).any (·.1) = false := by rfl) : DE X Y (.Call (.Name "isinstance" p) [a, .Tuple [.Name "list" p2, .Name "tuple" p3] x1 p4] [] pos) (eIsLT ma) :=
  PE.weak (pe_callB call_isiT hg hm rfl (pa_cons ha (pa_cons (pe_tup (pa_cons (pe_bltn (v := .ty "list") hgl hml rfl rfl (by decide) (by decide)) (pa_cons (pe_bltn (v := .ty "tuple") hgt hmt rfl rfl (by decide) (by decide)) pa_nil he4) he3)) pa_nil he2) he) (by decide) (by decide) he hpl) fun σ H Q ⟨F, P, G, ρ, r', er, e, hm, hp⟩ =>
    tE_bind er e hm hp fun G1 H1 ρ1 x v s1 e1 so hk hp1 => by
      obtain ⟨d, hd, hm2⟩ := drf_ok hk
      obtain ⟨z, hz, rfl⟩ := optM_ok hm2
      obtain ⟨b, hb, rfl⟩ := map_some' hz
      obtain ⟨n, h1, h2⟩ := isLT_some hb
      refine ⟨by rw [sizeLine_eq]; simp, fun tp hn => ?_⟩
      have e2 := e1.more (same_new (o := .tup [V.ty "list", V.ty "tuple"]) hn)
      exact ⟨v, tp, _, _, _, b, rfl, upd_same, .cons (.ty _) (.cons (.ty _) .nil), (top_of e2 so hd).ty e2.gh h1, h2 X.K, hp1 _ G1 _ (Same.refl G1) e2 (.bl b)⟩
/-! isinstance(x, C), C an own class -/
structure OwnIs (K : PySem.W.Frag) (C : Addr) : Prop where
  c : C8.InsC K C
  ty : ∀ n ∈ ["NoneType", "bool", "int", "str", "list", "tuple", "dict"], PySem.W.kitOne K (.type n) (.ref C) = some false
def isOwn (c : Str) (d : D) : Option Bool := match d with
  | .ins c' _ _ => if c' = c then some true else none
  | _ => some false
theorem D.ty_in {d : D} {n : String} (h : d.ty = some n) : n ∈ ["NoneType", "bool", "int", "str", "list", "tuple", "dict"] := by
  cases d <;> cases h <;> decide
theorem isOwn_ty {K : PySem.W.Frag} {A : Amb} {G H : Hp} {C : Addr} {c : Str} {d : D} {b : Bool} {v : V} (o : OwnIs A.K C) (hm : A.mg c = some (.ref C)) (g : Same G H) (t : Top A G H v d) (h : isOwn c d = some b) : ∃ u, TyX A.K H v u ∧ PySem.W.kitOne A.K u (.ref C) = some b := by
  cases d with
  | ins c' ns ds =>
    unfold isOwn at h
    simp only at h
    split at h
    · rename_i ec
      cases h
      subst ec
      obtain ⟨a, C', dx, fs, rfl, m1, h1, _, _⟩ := t.ins g
      rw [hm] at m1
      cases m1
      exact ⟨.ref C, .base (.ins h1 o.c.cl o.c.ha o.c.hn o.c.htk o.c.hm), o.c.me⟩
    · cases h
  | non => cases h; exact ⟨_, t.ty g rfl, o.ty _ (by decide)⟩
  | bl b => cases h; exact ⟨_, t.ty g rfl, o.ty _ (by decide)⟩
  | int b => cases h; exact ⟨_, t.ty g rfl, o.ty _ (by decide)⟩
  | str b => cases h; exact ⟨_, t.ty g rfl, o.ty _ (by decide)⟩
  | lst b => cases h; exact ⟨_, t.ty g rfl, o.ty _ (by decide)⟩
  | tup b => cases h; exact ⟨_, t.ty g rfl, o.ty _ (by decide)⟩
  | pr b => cases h; exact ⟨_, t.ty g rfl, o.ty _ (by decide)⟩
  | dic b c => cases h; exact ⟨_, t.ty g rfl, o.ty _ (by decide)⟩
def eIsOwn (c : Str) (ma : M Rf) : M Rf := bindM ma fun x => bindM (drf (stl x)) fun d => optM ((isOwn c d).map fun b => .dat (.bl b))
theorem de_isOwn {c : Str} {C : Addr} {p p2 : Pos} (o : OwnIs X.K C) (hc : X.mg c = some (.ref C)) (hm : X.mg "isinstance" = none) (ha : DE X Y a ma) (hgc : Gl X c := by rfl) (hg : Gl X "isinstance" := by rfl) (hdb : (c == ("__debug__" : Str)) = false := by decide)
    (he : starEach [a, .Name c p2] X.env = (false, eval a X.env) :: starEach [.Name c p2] X.env := by rfl) (he2 : starEach [.Name c p2] X.env = (false, eval (.Name c p2) X.env) :: starEach [] X.env := by rfl)
    (hpl : (backTo pos (starEach [.Name c p2] X.env)).any (·.1) = false := by rfl) : DE X Y (.Call (.Name "isinstance" p) [a, .Name c p2] [] pos) (eIsOwn c ma) :=
  PE.weak (pe_callB call_isi hg hm rfl (pa_cons ha (pa_cons (pe_glob (v := .ref C) hgc hc rfl hdb) pa_nil he2) he) (by decide) (by decide) he hpl) fun σ H Q ⟨F, P, G, ρ, r', er, e, hm, hp⟩ =>
    tE_bind er e hm hp fun G1 H1 ρ1 x v s1 e1 so hk hp1 => by
      obtain ⟨d, hd, hm2⟩ := drf_ok hk
      obtain ⟨z, hz, rfl⟩ := optM_ok hm2
      obtain ⟨b, hb, rfl⟩ := map_some' hz
      obtain ⟨u, h1, h2⟩ := isOwn_ty (K := X.K) o hc e1.gh (top_of e1 so hd) hb
      exact ⟨v, .ref C, _, _, b, rfl, .own C, h1, h2, hp1 _ G1 H1 (Same.refl G1) e1 (.bl b)⟩
end
end Z

set_option Elab.async false
set_option linter.all false
set_option maxRecDepth 100000
set_option maxHeartbeats 4000000
/-! ZZ: sorted(set(xs)). -/
namespace Z
open PySem PySem.Spec PyProof.Rows L2
section
variable {α : Type} [DecidableEq α] {lt : α → α → Bool}
def insU (lt : α → α → Bool) (x : α) : List α → List α
  | [] => [x]
  | y :: ys => if x = y then y :: ys else if lt x y = true then x :: y :: ys else y :: insU lt x ys
def srtU (lt : α → α → Bool) : List α → List α
  | [] => []
  | x :: xs => insU lt x (srtU lt xs)
theorem mem_insU {x z : α} : ∀ {ys : List α}, z ∈ insU lt x ys ↔ z = x ∨ z ∈ ys
  | [] => by simp [insU]
  | y :: ys => by
    unfold insU
    by_cases h : x = y
    · subst h
      rw [if_pos rfl]
      simp
    · rw [if_neg h]
      by_cases h2 : lt x y = true
      · rw [if_pos h2]
        simp
      · rw [if_neg h2, List.mem_cons, mem_insU (ys := ys), List.mem_cons]
        constructor
        · rintro (a | a | a)
          · exact .inr (.inl a)
          · exact .inl a
          · exact .inr (.inr a)
        · rintro (a | a | a)
          · exact .inr (.inl a)
          · exact .inl a
          · exact .inr (.inr a)
theorem mem_srtU {z : α} : ∀ {xs : List α}, z ∈ srtU lt xs ↔ z ∈ xs
  | [] => by simp [srtU]
  | x :: xs => by
    unfold srtU
    rw [mem_insU, mem_srtU, List.mem_cons]
theorem insU_sorted (tr : ∀ x y z, lt x y = true → lt y z = true → lt x z = true) {x : α} : ∀ {ys : List α}, (∀ y ∈ ys, x = y ∨ lt x y = true ∨ lt y x = true) → ys.Pairwise (lt · · = true) → (insU lt x ys).Pairwise (lt · · = true)
  | [], _, _ => by simp [insU]
  | y :: ys, ht, hp => by
    obtain ⟨h1, h2⟩ := List.pairwise_cons.mp hp
    unfold insU
    by_cases h : x = y
    · rw [if_pos h]
      exact hp
    · rw [if_neg h]
      by_cases h3 : lt x y = true
      · rw [if_pos h3]
        refine List.pairwise_cons.mpr ⟨fun z hz => ?_, hp⟩
        rcases List.mem_cons.mp hz with rfl | hz
        · exact h3
        · exact tr _ _ _ h3 (h1 z hz)
      · rw [if_neg h3]
        refine List.pairwise_cons.mpr ⟨fun z hz => ?_, insU_sorted tr (fun z hz => ht z (List.mem_cons_of_mem _ hz)) h2⟩
        rcases mem_insU.mp hz with rfl | hz
        · rcases ht y (List.mem_cons_self ..) with q | q | q
          · exact absurd q h
          · exact absurd q h3
          · exact q
        · exact h1 z hz
theorem srtU_sorted (tr : ∀ x y z, lt x y = true → lt y z = true → lt x z = true) : ∀ {xs : List α}, (∀ x ∈ xs, ∀ y ∈ xs, x = y ∨ lt x y = true ∨ lt y x = true) → (srtU lt xs).Pairwise (lt · · = true)
  | [], _ => List.Pairwise.nil
  | x :: xs, h => insU_sorted tr (fun y hy => h x (List.mem_cons_self ..) y (List.mem_cons_of_mem _ (mem_srtU.mp hy))) (srtU_sorted tr fun a ha b hb => h a (List.mem_cons_of_mem _ ha) b (List.mem_cons_of_mem _ hb))
theorem strict_eq (ir : ∀ x, lt x x = false) (tr : ∀ x y z, lt x y = true → lt y z = true → lt x z = true) : ∀ {xs ys : List α}, xs.Pairwise (lt · · = true) → ys.Pairwise (lt · · = true) → (∀ z, z ∈ xs ↔ z ∈ ys) → xs = ys
  | [], [], _, _, _ => rfl
  | [], y :: ys, _, _, h => absurd ((h y).mpr (List.mem_cons_self ..)) (by simp)
  | x :: xs, [], _, _, h => absurd ((h x).mp (List.mem_cons_self ..)) (by simp)
  | x :: xs, y :: ys, hx, hy, h => by
    obtain ⟨x1, x2⟩ := List.pairwise_cons.mp hx
    obtain ⟨y1, y2⟩ := List.pairwise_cons.mp hy
    have no : ∀ a b, lt a b = true → lt b a = true → False := fun a b p q => by
      have := tr _ _ _ p q
      rw [ir] at this
      cases this
    have e : x = y := by
      rcases List.mem_cons.mp ((h x).mp (List.mem_cons_self ..)) with e | m
      · exact e
      · rcases List.mem_cons.mp ((h y).mpr (List.mem_cons_self ..)) with e | m2
        · exact e.symm
        · exact (no _ _ (y1 x m) (x1 y m2)).elim
    subst e
    have irr : ∀ z, lt x z = true → z ≠ x := fun z q e => by
      subst e
      rw [ir] at q
      cases q
    refine congrArg _ (strict_eq ir tr x2 y2 fun z => ⟨fun m => ?_, fun m => ?_⟩)
    · rcases List.mem_cons.mp ((h z).mp (List.mem_cons_of_mem _ m)) with e | m2
      · exact absurd e (irr z (x1 z m))
      · exact m2
    · rcases List.mem_cons.mp ((h z).mpr (List.mem_cons_of_mem _ m)) with e | m2
      · exact absurd e (irr z (y1 z m))
      · exact m2
end
/-! ints -/
def ltI (x y : Int) : Bool := decide (x < y)
theorem ltI_ir (x : Int) : ltI x x = false := by
  unfold ltI
  exact decide_eq_false (Int.lt_irrefl x)
theorem ltI_tr (x y z : Int) (h : ltI x y = true) (k : ltI y z = true) : ltI x z = true := by
  unfold ltI at *
  exact decide_eq_true (Int.lt_trans (of_decide_eq_true h) (of_decide_eq_true k))
theorem ltI_tri (x y : Int) : x = y ∨ ltI x y = true ∨ ltI y x = true := by
  unfold ltI
  rcases Int.lt_trichotomy x y with h | h | h
  · exact .inr (.inl (decide_eq_true h))
  · exact .inl h
  · exact .inr (.inr (decide_eq_true h))
/-! tuples of ints -/
def ltT : List Int → List Int → Bool
  | x :: xs, y :: ys => decide (x < y) || (decide (x = y) && ltT xs ys)
  | _, _ => false
theorem ltT_ir : ∀ x, ltT x x = false
  | [] => rfl
  | x :: xs => by
    unfold ltT
    rw [decide_eq_false (Int.lt_irrefl x), ltT_ir xs]
    simp
theorem ltT_tr : ∀ x y z, ltT x y = true → ltT y z = true → ltT x z = true
  | [], _, _, h, _ => by simp [ltT] at h
  | _ :: _, [], _, h, _ => by simp [ltT] at h
  | _ :: _, _ :: _, [], _, h => by simp [ltT] at h
  | x :: xs, y :: ys, z :: zs, h, k => by
    unfold ltT at *
    rw [Bool.or_eq_true, Bool.and_eq_true, decide_eq_true_iff, decide_eq_true_iff] at *
    rcases h with h | ⟨h, h'⟩
    · rcases k with k | ⟨k, _⟩
      · exact .inl (Int.lt_trans h k)
      · exact .inl (k ▸ h)
    · rcases k with k | ⟨k, k'⟩
      · exact .inl (h ▸ k)
      · exact .inr ⟨h.trans k, ltT_tr xs ys zs h' k'⟩
theorem ltT_tri : ∀ x y, x.length = y.length → x = y ∨ ltT x y = true ∨ ltT y x = true
  | [], [], _ => .inl rfl
  | [], _ :: _, h => by simp at h
  | _ :: _, [], h => by simp at h
  | x :: xs, y :: ys, h => by
    unfold ltT
    rw [Bool.or_eq_true, Bool.and_eq_true, decide_eq_true_iff, decide_eq_true_iff, Bool.or_eq_true, Bool.and_eq_true, decide_eq_true_iff, decide_eq_true_iff]
    rcases Int.lt_trichotomy x y with k | k | k
    · exact .inr (.inl (.inl k))
    · subst k
      rcases ltT_tri xs ys (by simpa using h) with q | q | q
      · exact .inl (by rw [q])
      · exact .inr (.inl (.inr ⟨rfl, q⟩))
      · exact .inr (.inr (.inr ⟨rfl, q⟩))
    · exact .inr (.inr (.inl k))
theorem code_rg {B : Int} : ∀ {xs : List Int}, TS.Bd B xs → 0 ≤ TS.code B xs ∧ TS.code B xs < B ^ xs.length
  | [], _ => by
    show (0 : Int) ≤ 0 ∧ (0 : Int) < B ^ 0
    rw [Int.pow_zero]
    exact ⟨Int.le_refl 0, by decide⟩
  | x :: xs, h => by
    obtain ⟨a, b⟩ := code_rg h.tail
    obtain ⟨c, d⟩ := h.head
    have q := TS.num1 a b c d
    show 0 ≤ x * B ^ xs.length + TS.code B xs ∧ x * B ^ xs.length + TS.code B xs < B ^ (xs.length + 1)
    rw [Int.pow_succ]
    exact q
theorem code_lt {B : Int} : ∀ {xs ys : List Int}, xs.length = ys.length → TS.Bd B xs → TS.Bd B ys → ltT xs ys = true → TS.code B xs < TS.code B ys
  | [], _, _, _, _, h => by simp [ltT] at h
  | _ :: _, [], _, _, _, h => by simp [ltT] at h
  | x :: xs, y :: ys, hl, bx, bY, h => by
    have hl' : xs.length = ys.length := by simpa using hl
    unfold ltT at h
    rw [Bool.or_eq_true, Bool.and_eq_true, decide_eq_true_iff, decide_eq_true_iff] at h
    show x * B ^ xs.length + TS.code B xs < y * B ^ ys.length + TS.code B ys
    rw [hl']
    have rx := code_rg bx.tail
    rw [hl'] at rx
    have ry := code_rg bY.tail
    rcases h with h | ⟨h, h'⟩
    · have pp : 0 ≤ B ^ ys.length := by omega
      have m : (x + 1) * B ^ ys.length ≤ y * B ^ ys.length := Int.mul_le_mul_of_nonneg_right h pp
      rw [Int.add_mul, Int.one_mul] at m
      omega
    · subst h
      have := code_lt hl' bx.tail bY.tail h'
      omega
end Z

set_option Elab.async false
set_option linter.all false
set_option maxRecDepth 100000
set_option maxHeartbeats 4000000
/-! ZZA: sorted(set(xs)), the judgement. -/
namespace Z
open PySem PySem.Spec PyProof.Rows L2
def dTups : List D → Option (List (List Int))
  | [] => some []
  | .tup ds :: r => match dInts ds, dTups r with
    | some ns, some ts => some (ns :: ts)
    | _, _ => none
  | _ => none
theorem ims_tups {A : Amb} {G : Hp} : ∀ {ds : List D} {vs : List V} {ts : List (List Int)}, Ims A G vs ds → dTups ds = some ts → ∃ ks : List (Addr × List Int), vs = (ks.map fun p => V.ref p.1) ∧ ks.map (·.2) = ts ∧ ∀ p ∈ ks, PlT A.K G p.1 (p.2.map V.int)
  | [], _, _, h, e => by
    cases h
    cases e
    exact ⟨[], rfl, rfl, fun p hp => by cases hp⟩
  | d :: ds, _, ts, h, e => by
    cases d with
    | tup es =>
      unfold dTups at e
      cases e1 : dInts es with
      | none =>
        rw [e1] at e
        cases e
      | some ns =>
        cases e2 : dTups ds with
        | none =>
          rw [e1, e2] at e
          cases e
        | some us =>
          rw [e1, e2] at e
          cases e
          cases h with
          | cons h r =>
            cases h with
            | @tup a ws _ h q =>
              obtain ⟨rfl, _⟩ := ims_ints q e1
              obtain ⟨ks, rfl, rfl, k3⟩ := ims_tups r e2
              refine ⟨(a, ns) :: ks, rfl, rfl, fun p hp => ?_⟩
              rcases List.mem_cons.mp hp with rfl | hp
              · exact h
              · exact k3 p hp
    | _ => cases e
theorem bd_ex : ∀ ts : List (List Int), (∀ t ∈ ts, ∀ i ∈ t, 0 ≤ i) → ∃ B : Int, ∀ t ∈ ts, TS.Bd B t := by
  have one : ∀ t : List Int, ∃ B : Int, ∀ i ∈ t, i < B := fun t => by
    induction t with
    | nil => exact ⟨0, fun i hi => by cases hi⟩
    | cons x xs ih =>
      obtain ⟨B, hB⟩ := ih
      refine ⟨max B (x + 1), fun i hi => ?_⟩
      rcases List.mem_cons.mp hi with rfl | hi
      · omega
      · have := hB i hi
        omega
  intro ts h
  induction ts with
  | nil => exact ⟨0, fun i hi => by cases hi⟩
  | cons t ts ih =>
    obtain ⟨B, hB⟩ := ih fun u hu => h u (List.mem_cons_of_mem _ hu)
    obtain ⟨B2, hB2⟩ := one t
    refine ⟨max B B2, fun u hu i hi => ⟨h u hu i hi, ?_⟩⟩
    rcases List.mem_cons.mp hu with rfl | hu
    · have := hB2 i hi
      omega
    · have := (hB u hu i hi).2
      omega
def sameLen (n : Nat) (ts : List (List Int)) : Bool := ts.all fun t => decide (t.length = n) && t.all fun i => decide (0 ≤ i)
/-- what sorted(set(..)) makes of items -/
def fSS (ds : List D) : Option (List D) := if ds.length < 64 then match dInts ds with
  | some ns => some ((srtU ltI ns).map .int)
  | none => match dTups ds with
    | some [] => none
    | some (t :: ts) => if 1 ≤ t.length ∧ sameLen t.length (t :: ts) = true then some ((srtU ltT (t :: ts)).map fun u => .tup (u.map .int)) else none
    | none => none
  else none
def fSSd : D → Option (List D)
  | .lst ds => fSS ds
  | .tup ds => fSS ds
  | _ => none
def eSS (ma : M Rf) : M Rf := bindM ma fun x => bindM (drf (stl x)) fun d => optM ((fSSd d).map .new)
theorem ims_of_tups {A : Amb} {G : Hp} : ∀ ks : List (Addr × List Int), (∀ p ∈ ks, PlT A.K G p.1 (p.2.map V.int)) → Ims A G (ks.map fun p => V.ref p.1) ((ks.map (·.2)).map fun u => D.tup (u.map .int))
  | [], _ => .nil
  | p :: ks, h => .cons (.tup (h p (List.mem_cons_self ..)) (ims_of_ints p.2)) (ims_of_tups ks fun q hq => h q (List.mem_cons_of_mem _ hq))
section
variable {X : Cx} {Y : Yc} {a : Expr} {ma : M Rf} {pos : Pos}
theorem ss_core {F : Fx} {P : List (Nat × Addr)} {σ : L2.St} {G H : Hp} {ρ : E} {v : V} {d : D} {zs : List D} {Q : VK} (e : EnvG (amb X) F P σ G H ρ) (t : Top (amb X) G H v d) (h : fSSd d = some zs)
    (hq : ∀ v' H', EnvG (amb X) F P σ G H' ρ → RfOk (amb X) F σ G H' ρ v' (.new zs) → Q v' H') :
    (rSetI X [v] H fun y H1 => rSortedSet X.w [y] H1 Q ∨ rSortedT X.K X.prog X.w [y] H1 Q) ∨ (rSetP X [v] H fun y H1 => rSortedSet X.w [y] H1 Q ∨ rSortedT X.K X.prog X.w [y] H1 Q) := by
  have hs : ∃ l vs ds, v = .ref l ∧ (SqL X.K H l vs ∨ SqT X.K H l vs) ∧ Ims (amb X) G vs ds ∧ fSS ds = some zs := by
    unfold fSSd at h
    split at h
    · obtain ⟨l, vs, h1, h2, h3⟩ := t.lst e.gh
      exact ⟨l, vs, _, h1, .inl h2, h3, h⟩
    · obtain ⟨l, vs, h1, h2, h3⟩ := t.tup e.gh
      exact ⟨l, vs, _, h1, .inr h2, h3, h⟩
    · cases h
  obtain ⟨l, vs, ds, rfl, sq, im, h⟩ := hs
  have hlen := im.length
  unfold fSS at h
  split at h
  · rename_i h64
    split at h
    · rename_i ns hn
      cases h
      obtain ⟨rfl, rfl⟩ := ims_ints im hn
      rw [List.length_map] at h64
      refine .inl ⟨l, ns, rfl, sq, h64, fun a c na hc => .inl ⟨a, _, c, rfl, upd_same, by omega, fun ms p sp mem _ np => ?_⟩⟩
      have e2 := e.more (same_new (o := SetO X.w a (fun j => decide (j ∈ ns)) c) na)
      have em : ms = srtU ltI ns := strict_eq (lt := ltI) ltI_ir ltI_tr (sp.imp fun q => decide_eq_true q) (srtU_sorted ltI_tr fun x _ y _ => ltI_tri x y) fun z => by
        rw [mem_srtU, mem z, decide_eq_true_iff]
      subst em
      obtain ⟨e3, ro⟩ := e2.newL np (ims_of_ints (A := amb X) (G := G) (srtU ltI ns))
      exact hq _ _ e3 ro
    · split at h
      · cases h
      · rename_i t0 ts ht
        split at h
        · rename_i hk
          cases h
          obtain ⟨k1, k2⟩ := hk
          obtain ⟨ks, rfl, hk2, k3⟩ := ims_tups im ht
          rw [← hlen, List.length_map] at h64
          have all : ∀ p ∈ ks, p.2.length = t0.length ∧ ∀ i ∈ p.2, 0 ≤ i := fun p hp => by
            have m : p.2 ∈ t0 :: ts := by
              rw [← hk2]
              exact List.mem_map_of_mem hp
            have q := List.all_eq_true.mp k2 _ m
            rw [Bool.and_eq_true, decide_eq_true_iff] at q
            exact ⟨q.1, fun i hi => of_decide_eq_true (List.all_eq_true.mp q.2 i hi)⟩
          obtain ⟨B, hB⟩ := bd_ex (t0 :: ts) fun u hu i hi => by
            rw [← hk2] at hu
            obtain ⟨p, hp, rfl⟩ := List.mem_map.mp hu
            exact (all p hp).2 i hi
          have hB' : ∀ p ∈ ks, TS.Bd B p.2 := fun p hp => hB _ (by rw [← hk2]; exact List.mem_map_of_mem hp)
          refine .inr ⟨l, ks, rfl, sq, fun p hp => same_sqT e.gh (k3 p hp).sq, h64, fun a L na sub cov => .inr ⟨a, L, t0.length, B, rfl, upd_same, fun p hp => same_sqT (e.gh.trans (same_new na)) (k3 p (sub p hp)).sq, k1, fun p hp => ⟨(all p (sub p hp)).1, hB' p (sub p hp)⟩, fun L' p pm nd _ sp np => ?_⟩⟩
          have e2 := e.more (same_new (o := SetTO X.prog X.w a L) na)
          have inL : ∀ q ∈ L', q ∈ ks := fun q hq => sub q (pm.mem_iff.mp hq)
          have em : L'.map (·.2) = srtU ltT (t0 :: ts) := strict_eq (lt := ltT) ltT_ir ltT_tr ?_ (srtU_sorted ltT_tr fun x hx y hy => ltT_tri x y ?_) fun z => ?_
          · obtain ⟨e3, ro⟩ := e2.newL np (ims_of_tups (A := amb X) (G := G) L' fun q hq => k3 q (inL q hq))
            rw [em] at ro
            exact hq _ _ e3 ro
          · rw [List.pairwise_map]
            have nd2 := List.pairwise_map.mp nd
            have both := List.Pairwise.and sp nd2
            refine List.Pairwise.imp_of_mem (fun {q r} mq mr z => ?_) both
            obtain ⟨z1, z2⟩ := z
            have aq := all q (inL q mq)
            have ar := all r (inL r mr)
            rcases ltT_tri q.2 r.2 (aq.1.trans ar.1.symm) with w | w | w
            · exact absurd w z2
            · exact w
            · have := code_lt (ar.1.trans aq.1.symm) (hB' r (inL r mr)) (hB' q (inL q mq)) w
              omega
          · rw [← hk2] at hx hy
            obtain ⟨p, hp, rfl⟩ := List.mem_map.mp hx
            obtain ⟨q, hq, rfl⟩ := List.mem_map.mp hy
            exact (all p hp).1.trans (all q hq).1.symm
          · rw [mem_srtU, ← hk2]
            constructor
            · intro hz
              obtain ⟨q, hq, rfl⟩ := List.mem_map.mp hz
              exact List.mem_map_of_mem (inL q hq)
            · intro hz
              obtain ⟨q, hq, rfl⟩ := List.mem_map.mp hz
              exact ((pm.map (·.2)).mem_iff).mpr (cov q hq)
        · cases h
      · cases h
  · cases h
theorem de_ss {p p2 pos2 : Pos} (hc : X.calm = true) (hu : X.A.units + 64 < cLine) (hm : X.mg "sorted" = none) (hms : X.mg "set" = none) (ha : DE X Y a ma) (hg : Gl X "sorted" := by rfl) (hgs : Gl X "set" := by rfl)
    (he : starEach [a] X.env = (false, eval a X.env) :: starEach [] X.env := by rfl) (he2 : starEach [.Call (.Name "set" p2) [a] [] pos2] X.env = (false, eval (.Call (.Name "set" p2) [a] [] pos2) X.env) :: starEach [] X.env := by rfl)
    (hpl : (backTo pos2 (starEach [] X.env)).any (·.1) = false := by rfl) (hpl2 : (backTo pos (starEach [] X.env)).any (·.1) = false := by rfl) :
    DE X Y (.Call (.Name "sorted" p) [.Call (.Name "set" p2) [a] [] pos2] [] pos) (eSS ma) :=
  PE.weak (pe_callB (CallR.or (cr_sortedSet hc) (cr_sortedT hc)) hg hm rfl (pa_cons (pe_callTy (CallR.or (cr_setI hc) (cr_setP hc hu)) hgs hms rfl (pa_cons ha pa_nil he) (by decide) (by decide) he hpl) pa_nil he2) (by decide) (by decide) he2 hpl2) fun σ H Q ⟨F, P, G, ρ, r', er, e, hm, hp⟩ =>
    tE_bind er e hm hp fun G1 H1 ρ1 x v s1 e1 so hk hp1 => by
      obtain ⟨d, hd, hm2⟩ := drf_ok hk
      obtain ⟨z, hz, rfl⟩ := optM_ok hm2
      obtain ⟨zs, hb, rfl⟩ := map_some' hz
      exact ss_core e1 (top_of e1 so hd) hb fun v' H' e2 ro => hp1 v' G1 H' (Same.refl G1) e2 ro
end
end Z

set_option Elab.async false
set_option linter.all false
set_option maxRecDepth 100000
set_option maxHeartbeats 4000000
/-! ZZB: short words for classes. -/
namespace L2
open PySem
theorem Room.units65 {k : Nat} {A : Around} (r : Room k A) : A.units + 65 < cLine := by
  have := r.un
  omega
end L2
namespace Z
open PySem PySem.Spec PyProof.Rows L2
section
variable {K : PySem.W.Frag} {mg : Str → Option Value} {cs : List Str} {c f : Str} {C : Addr}
theorem fld_nil : FldOk K mg [] f := fun c h => by cases h
theorem fld_cons (m : mg c = some (.ref C)) (k : Cls K C) (n : PySem.W.findIn K (.ref C) f = some none) (h : FldOk K mg cs f) : FldOk K mg (c :: cs) f := fun x hx => by
  rcases List.mem_cons.mp hx with rfl | hx
  · exact ⟨C, m, k, n⟩
  · exact h x hx
theorem own_is (c : C8.InsC K C) (h1 : PySem.W.kitOne K (.type "NoneType") (.ref C) = some false) (h2 : PySem.W.kitOne K (.type "bool") (.ref C) = some false) (h3 : PySem.W.kitOne K (.type "int") (.ref C) = some false) (h4 : PySem.W.kitOne K (.type "str") (.ref C) = some false)
    (h5 : PySem.W.kitOne K (.type "list") (.ref C) = some false) (h6 : PySem.W.kitOne K (.type "tuple") (.ref C) = some false) (h7 : PySem.W.kitOne K (.type "dict") (.ref C) = some false) : OwnIs K C := ⟨c, fun n hn => by
  simp only [List.mem_cons, List.not_mem_nil, or_false] at hn
  rcases hn with rfl | rfl | rfl | rfl | rfl | rfl | rfl <;> assumption⟩
end
/-! list(range(n)) -/
def eLRg1 (hi : M Rf) : M Rf := bindM hi fun y => match y with
  | .dat (.int j) => if -(2 ^ 62) ≤ (0 : Int) ∧ (0 : Int) < 2 ^ 62 ∧ -(2 ^ 62) ≤ j ∧ j < 2 ^ 62 ∧ (j - 0).toNat ≤ 2 ^ 24 then pureM (.new (rangeD 0 (j - 0).toNat)) else failM
  | _ => failM
section
variable {X : Cx} {Y : Yc} {a : Expr} {ma : M Rf} {pos : Pos}
theorem lrg1_tail {σ : L2.St} {H : Hp} {Q : VK} (h : tG (amb X) Y (relE (amb X)) (eLRg1 ma) σ H Q) : tLstRg (tRg1 (tG (amb X) Y (relE (amb X)) ma)) σ H Q := by
  obtain ⟨F, P, G, ρ, r', er, e, hm, hp⟩ := h
  refine tG_bind (Re := relE (amb X)) er e hm hp fun G1 H1 ρ1 x v s1 e1 ro hk => ?_
  cases x with
  | dat d =>
    cases d with
    | int j =>
      simp only at hk
      split at hk
      · rename_i c
        cases hk
        cases (show Im (amb X) G1 v (.int j) from ro)
        refine ⟨j, rfl, c, fun p n => ?_⟩
        obtain ⟨e4, ro4⟩ := e1.newL n (ims_rg 0 j)
        exact hp _ G1 _ s1 e4 ro4
      · cases hk
    | _ => cases hk
  | _ => cases hk
theorem de_lrg1 {p p2 pos2 : Pos} (hc : X.calm = true) (hml : X.mg "list" = none) (hm : X.mg "range" = none) (ha : DE X Y a ma) (hgl : Gl X "list" := by rfl) (hg : Gl X "range" := by rfl)
    (na : starEach [a] X.env = (false, eval a X.env) :: starEach [] X.env := by rfl)
    (nl : starEach [.Call (.Name "range" p2) [a] [] pos2] X.env = (false, eval (.Call (.Name "range" p2) [a] [] pos2) X.env) :: starEach [] X.env := by rfl) :
    DE X Y (.Call (.Name "list" p) [.Call (.Name "range" p2) [a] [] pos2] [] pos) (eLRg1 ma) :=
  PE.weak (pe_listRg hc hgl hml (prg_1 hg hm ha na) nl) fun _ _ _ h => lrg1_tail h
end
end Z

set_option Elab.async false
set_option linter.all false
set_option maxRecDepth 100000
set_option maxHeartbeats 4000000
/-! ZZC: big steps, more. -/
namespace Z
open PySem
def TI (ns : List Int) : D := .tup (ns.map .int)
def LI (ns : List Int) : D := .lst (ns.map .int)
theorem szOk {n : Nat} (h : n ≤ 1000) : n ≤ sizeLine := Nat.le_trans h (by decide)
theorem var_ev {i : Nat} {ρ : E} {d : D} (h : ρ[i]? = some (.val d)) : eVar i ρ = some (.ok (.dat d) ρ) := by
  unfold eVar
  rw [h]
theorem rg1_ev {ms : M (List Rf)} {ρ ρ1 : E} {n : Nat} (h : ms ρ = some (.ok [.dat (.int (n : Int))] ρ1)) (hn : n ≤ 1000) : iRg1 ms ρ = some (.ok (rangeD 0 n) ρ1) := by
  refine bind_ev h (bind_ev (v := [.int n]) (ρ1 := ρ1) rfl ?_)
  have e : small62 (n : Int) = true := by
    unfold small62
    simp
    omega
  show optM (if small62 (n : Int) = true then some (rangeD 0 (n : Int).toNat) else none) _ = _
  rw [if_pos e, Int.toNat_natCast]
  rfl
theorem cut_from {xs : List D} {a : Nat} (h : a ≤ xs.length) : cutD xs (some (a : Int)) none = xs.drop a := by
  unfold cutD
  rw [HT.sIx_nat, HT.sIx_none, Nat.min_eq_left h, List.take_of_length_le]
  rw [List.length_drop]
  omega
theorem cut_to {xs : List D} {a : Nat} (h : a ≤ xs.length) : cutD xs none (some (a : Int)) = xs.take a := by
  unfold cutD
  rw [HT.sIx_nat, HT.sIx_none, Nat.min_eq_left h, Nat.sub_zero, List.drop_zero]
theorem atI_nat {α : Type} {xs : List α} {i : Nat} (h : i < xs.length) : L2.atI xs (i : Int) = xs[i]? := by
  unfold L2.atI L2.ixN
  rw [if_pos (by omega), if_pos (by omega)]
  rfl
theorem lm_ev {i : Nat} {f : List D → List D → Option (D × List D)} {ms : M (List Rf)} {ρ ρ1 ρ2 : E} {xs : List Rf} {ds es0 es es' : List D} {p0 p : Bool} {d : D} (h0 : ρ[i]? = some (.cel p0 (.lst es0))) (hm : ms ρ = some (.ok xs ρ1)) (hf : frzs xs ρ1 = some (.ok ds ρ2)) (h2 : ρ2[i]? = some (.cel p (.lst es)))
    (hr : f es ds = some (d, es')) : eLM i f ms ρ = some (.ok (.dat d) (ρ2.set i (.cel p (.lst es')))) := by
  unfold eLM
  rw [h0]
  refine bind_ev hm (bind_ev hf ?_)
  rw [h2]
  show (match f es ds with | some (d, es') => some (R.ok (Rf.dat d) (ρ2.set i (.cel p (.lst es')))) | none => none) = _
  rw [hr]
theorem chainT_ev {f g : D → D → Option D} {a b c : M Rf} {ρ ρ1 ρ2 ρ3 : E} {x y z : Rf} {p q w : D} {d : D} (ha : a ρ = some (.ok x ρ1)) (hb : b ρ1 = some (.ok y ρ2)) (hp : deref ρ2 (stl x) = some p) (hq : deref ρ2 (stl y) = some q) (hf : f p q = some (.bl true)) (hc : c ρ2 = some (.ok z ρ3))
    (hq2 : deref ρ3 (stl y) = some q) (hw : deref ρ3 (stl z) = some w) (hg : g q w = some d) : eChain f g a b c ρ = some (.ok (mk d) ρ3) := by
  refine bind_ev ha (bind_ev hb (bind_ev (v := p) (ρ1 := ρ2) ?_ (bind_ev (v := q) (ρ1 := ρ2) ?_ ?_)))
  · unfold drf
    rw [hp]
  · unfold drf
    rw [hq]
  · rw [hf]
    refine bind_ev hc (bind_ev (v := q) (ρ1 := ρ3) ?_ (bind_ev (v := w) (ρ1 := ρ3) ?_ ?_))
    · unfold drf
      rw [hq2]
    · unfold drf
      rw [hw]
    · rw [hg]
      rfl
theorem fnK_ev {f : Fn} {md : List Bool} {nn m : Nat} {perm : List Nat} {dds : List D} {ms mk_ : M (List Rf)} {ρ ρ1 ρ2 ρ3 ρ4 : E} {xs zs : List Rf} {x : Rf} {d : D} {as : List Ar} {is : List (Option Nat)} {c : Bool} {cs : List Cell} (hm : ms ρ = some (.ok xs ρ1)) (hk : mk_ ρ1 = some (.ok zs ρ2)) (hl : xs.length = nn ∧ zs.length = m)
    (h1 : toArs md (pick perm (xs ++ zs ++ dds.map .dat)) ρ2 = some (as, is, ρ3)) (hf : f as = some (.ret c d cs)) (h2 : putBack is cs ρ3 = some ρ4) (h3 : rfOf c d = some x) (hn : (is.filterMap id).Nodup := by simp) : eFnK f md nn m perm dds ms mk_ ρ = some (.ok x ρ4) := by
  refine bind_ev hm (bind_ev hk ?_)
  show (if xs.length = nn ∧ zs.length = m then _ else _ : M Rf) _ = _
  rw [if_pos hl]
  unfold eFnL
  rw [h1]
  show (if (is.filterMap id).Nodup then _ else _) = _
  rw [if_pos hn, hf]
  show (match putBack is cs ρ3, rfOf c d with | some ρ2, some x => some (R.ok x ρ2) | _, _ => none) = _
  rw [h2, h3]
theorem fnK0_ev {f : Fn} {md : List Bool} {m : Nat} {perm : List Nat} {mk_ : M (List Rf)} {ρ : E} {zs : List Rf} {x : Rf} {d : D} {as : List Ar} {is : List (Option Nat)} {c : Bool} (hk : mk_ ρ = some (.ok zs ρ)) (hl : zs.length = m) (h1 : toArs md (pick perm ([] ++ zs ++ [])) ρ = some (as, is, ρ)) (hf : f as = some (.ret c d [])) (h2 : putBack is [] ρ = some ρ) (h3 : rfOf c d = some x)
    (hn : (is.filterMap id).Nodup := by simp) : eFnK f md 0 m perm [] aNil mk_ ρ = some (.ok x ρ) := fnK_ev (xs := []) rfl hk ⟨rfl, hl⟩ h1 hf h2 h3 hn
theorem atI_mem {α : Type} {xs : List α} {v : Int} (h : 0 ≤ v ∧ v < xs.length) : ∃ d, d ∈ xs ∧ L2.atI xs v = some d := by
  have e : v = (v.toNat : Int) := by omega
  rw [e, atI_nat (by omega)]
  exact ⟨xs[v.toNat]'(by omega), List.getElem_mem _, List.getElem?_eq_getElem (by omega)⟩
theorem ixL_ev {a b : M Rf} {ρ ρ1 ρ2 : E} {x : Rf} {xs : List D} {v : Int} {d : D} (ha : a ρ = some (.ok x ρ1)) (hb : b ρ1 = some (.ok (.dat (.int v)) ρ2)) (hx : deref ρ2 (stl x) = some (.lst xs)) (h : L2.atI xs v = some d) : eIx a b ρ = some (.ok (.dat d) ρ2) := by
  refine bind_ev ha (bind_ev hb (bind_ev (v := D.lst xs) (ρ1 := ρ2) ?_ (bind_ev (v := D.int v) (ρ1 := ρ2) rfl ?_)))
  · unfold drf
    rw [hx]
  · show optM ((L2.atI xs v).map Rf.dat) ρ2 = _
    rw [h]
    rfl
theorem isN_ev {a : M Rf} {ρ ρ1 : E} {b : Bool} (ha : a ρ = some (.ok (.dat (.bl b)) ρ1)) : tst (eOp2 fIsN a (eC (.bl b))) ρ = some (.ok false ρ1) := by
  refine tst_ev (op2_ev (d := .bl false) ha rfl rfl rfl ?_)
  show some (D.bl (!decide (b = b))) = _
  simp
theorem str_ev {a : M Rf} {ρ ρ1 : E} {x : Rf} {d : D} {s : Str} (ha : a ρ = some (.ok x ρ1)) (hx : deref ρ1 (stl x) = some d) (h : fStr [d] = some (.str s)) : eCall fStr (aCons a aNil) ρ = some (.ok (.dat (.str s)) ρ1) := by
  refine call_ev (xs := [stl x]) (ds := [d]) (d := .str s) (cons_ev ha rfl) ?_ h
  unfold derefs
  rw [hx]
  rfl
theorem lst_ev {ms : M (List Rf)} {ρ ρ1 ρ2 : E} {xs : List Rf} {ds : List D} (hm : ms ρ = some (.ok xs ρ1)) (hf : frzs xs ρ1 = some (.ok ds ρ2)) (hz : ds.length ≤ 1000 := by simp) : eLst ms ρ = some (.ok (.new ds) ρ2) := by
  refine bind_ev hm (bind_ev hf ?_)
  show (if ds.length ≤ sizeLine then _ else _ : M Rf) _ = _
  rw [if_pos (szOk hz)]
  rfl
theorem ne_ev {a b : M Rf} {ρ ρ1 ρ2 : E} {x y : Rf} {p q : D} (ha : a ρ = some (.ok x ρ1)) (hb : b ρ1 = some (.ok y ρ2)) (hp : deref ρ2 (stl x) = some p) (hq : deref ρ2 (stl y) = some q) (h : eqD p q = some true) : tst (eOp2 fNe a b) ρ = some (.ok false ρ2) := by
  refine tst_ev (op2_ev (d := .bl false) ha hb hp hq ?_)
  show (eqD p q).map _ = _
  rw [h]
  rfl
theorem log_lt {i : Int} (h1 : -(2 ^ 64) < i) (h2 : i < 2 ^ 64) : i.natAbs.log2 ≤ 64 := by
  by_cases h : i.natAbs = 0
  · rw [h]
    decide
  · have : i.natAbs.log2 < 65 := (Nat.log2_lt h).mpr (by omega)
    omega
abbrev Sm (i : Int) : Prop := -(2 ^ 64) < i ∧ i < 2 ^ 64
theorem mul_ev {a b : M Rf} {ρ : E} {i j : Int} (ha : a ρ = some (.ok (.dat (.int i)) ρ)) (hb : b ρ = some (.ok (.dat (.int j)) ρ)) (hi : Sm i) (hj : Sm j) : eOp2 (fI kMul) a b ρ = some (.ok (.dat (.int (i * j))) ρ) := by
  refine op2_ev (d := .int (i * j)) ha hb rfl rfl ?_
  show kMul i j = _
  unfold kMul
  rw [if_pos]
  have := log_lt hi.1 hi.2
  have := log_lt hj.1 hj.2
  omega
theorem add_ev {a b : M Rf} {ρ : E} {i j : Int} (ha : a ρ = some (.ok (.dat (.int i)) ρ)) (hb : b ρ = some (.ok (.dat (.int j)) ρ)) : eOp2 fAdd a b ρ = some (.ok (.dat (.int (i + j))) ρ) := op2_ev (d := .int (i + j)) ha hb rfl rfl rfl
theorem mod_ev {a b : M Rf} {ρ : E} {i j : Int} (ha : a ρ = some (.ok (.dat (.int i)) ρ)) (hb : b ρ = some (.ok (.dat (.int j)) ρ)) (hj : 0 < j) : eOp2 (fI kMod) a b ρ = some (.ok (.dat (.int (i % j))) ρ) := by
  refine op2_ev (d := .int (i % j)) ha hb rfl rfl ?_
  show kMod i j = _
  unfold kMod
  rw [if_pos hj]
theorem div_ev {a b : M Rf} {ρ : E} {i j : Int} (ha : a ρ = some (.ok (.dat (.int i)) ρ)) (hb : b ρ = some (.ok (.dat (.int j)) ρ)) (hj : 0 < j) (hs : Sm j) : eOp2 (fI kDiv) a b ρ = some (.ok (.dat (.int (i / j))) ρ) := by
  refine op2_ev (d := .int (i / j)) ha hb rfl rfl ?_
  show kDiv i j = _
  unfold kDiv
  rw [if_pos]
  have := log_lt hs.1 hs.2
  omega
theorem int_ev {a : M Rf} {ρ ρ1 : E} {i : Int} (ha : a ρ = some (.ok (.dat (.int i)) ρ1)) : eCall fInt (aCons a aNil) ρ = some (.ok (.dat (.int i)) ρ1) := call_ev (xs := [.dat (.int i)]) (ds := [.int i]) (d := .int i) (cons_ev ha rfl) rfl rfl
theorem lift_ev {α : Type} {m : M α} {k : α → S} {ρ ρ1 : E} {a : α} {r : Option O} (h : m ρ = some (.ok a ρ1)) (hk : k a ρ1 = r) : liftS m k ρ = r := by
  rw [liftS_ok h]
  exact hk
theorem sub_ev {me mi : M Rf} {ρ ρ1 : E} {i k : Nat} {p : Bool} {ds : List D} {d : D} (he : me ρ = some (.ok (.dat d) ρ1)) (hi : ρ1[i]? = some (.cel p (.lst ds))) (hk : mi ρ1 = some (.ok (.dat (.int (k : Int))) ρ1)) (hl : k < ds.length) : sSub me (eVar i) mi ρ = some (.nx (ρ1.set i (.cel p (.lst (ds.set k d))))) := by
  unfold sSub
  refine lift_ev he (lift_ev (a := d) (ρ1 := ρ1) rfl (lift_ev (a := .cel i) (ρ1 := ρ1) ?_ (lift_ev hk (lift_ev (a := D.int (k : Int)) (ρ1 := ρ1) rfl ?_))))
  · unfold eVar
    rw [hi]
  · show (match ρ1[i]? with
      | some (.cel p (.lst ds)) => match L2.ixN ds.length (k : Int) with
        | some q => some (O.nx (ρ1.set i (.cel p (.lst (ds.set q d)))))
        | none => none
      | _ => none) = _
    rw [hi]
    show (match L2.ixN ds.length (k : Int) with | some q => some (O.nx (ρ1.set i (.cel p (.lst (ds.set q d))))) | none => none) = _
    have e : L2.ixN ds.length (k : Int) = some k := by
      unfold L2.ixN
      rw [if_pos (by omega), if_pos (by omega)]
      rfl
    rw [e]
theorem gt0 {a : M Rf} {ρ : E} {i : Int} {c : Bool} (h : decide (0 < i) = c) (ha : a ρ = some (.ok (.dat (.int i)) ρ)) : tst (eOp2 (fI kGt) a (eC (.int 0))) ρ = some (.ok c ρ) := by
  refine tst_ev (op2_ev (d := .bl c) ha rfl rfl rfl ?_)
  show some (D.bl _) = _
  rw [h]
def good : Option D → Bool
  | some (.str s) => SeqAt.shaped (.str s)
  | _ => false
theorem good_ev {o : Option D} (h : good o = true) : ∃ s, o = some (.str s) ∧ eqD (.str s) (.str s) = some true := by
  unfold good at h
  split at h
  · rename_i s
    refine ⟨s, rfl, ?_⟩
    unfold eqD
    simp only [D.py]
    rw [if_pos ⟨h, h⟩]
    simp only [PyData.eqv, beq_self_eq_true]
  · cases h
theorem map_erase {α β : Type} (f : α → β) : ∀ (xs : List α) (k : Nat), (xs.map f).eraseIdx k = (xs.eraseIdx k).map f
  | [], _ => rfl
  | x :: xs, 0 => rfl
  | x :: xs, k + 1 => by
    rw [List.map_cons, List.eraseIdx_cons_succ, List.eraseIdx_cons_succ, List.map_cons, map_erase f xs k]
end Z

set_option Elab.async false
set_option linter.all false
set_option maxRecDepth 100000
set_option maxHeartbeats 4000000
/-! ZZD: big steps, lists. -/
namespace Z
open PySem
theorem fAdd_l {xs ys : List D} (h : xs.length + ys.length ≤ 1000) : fAdd (.lst xs) (.lst ys) = some (.lst (xs ++ ys)) := by
  have z : (1000 : Nat) < sizeLine := by decide
  show orD none (orD (if _ then some _ else none) _) = _
  rw [if_pos (by omega)]
  rfl
theorem cat_ev {a b : M Rf} {ρ ρ1 ρ2 : E} {x y : Rf} {xs ys : List D} (ha : a ρ = some (.ok x ρ1)) (hb : b ρ1 = some (.ok y ρ2)) (hp : deref ρ2 (stl x) = some (.lst xs)) (hq : deref ρ2 (stl y) = some (.lst ys)) (h : xs.length + ys.length ≤ 1000) : eOp2 fAdd a b ρ = some (.ok (.new (xs ++ ys)) ρ2) :=
  op2_ev (d := .lst (xs ++ ys)) ha hb hp hq (fAdd_l h)
theorem cel_ev {ρ : E} {f : Nat} {p : Bool} {c : Cell} (h : ρ[f]? = some (.cel p c)) : eVar f ρ = some (.ok (.cel f) ρ) := by
  unfold eVar
  rw [h]
theorem cel_dr {ρ : E} {f : Nat} {p : Bool} {xs : List D} (h : ρ[f]? = some (.cel p (.lst xs))) : deref ρ (.cel f) = some (.lst xs) := by
  unfold deref
  simp only
  rw [h]
theorem cutTo_ev {ρ : E} {f a k : Nat} {p : Bool} {xs : List D} (hf : ρ[f]? = some (.cel p (.lst xs))) (ha : ρ[a]? = some (.val (.int (k : Int)))) (hk : k ≤ xs.length) : eCut (eVar f) oNone (oSome (eVar a)) ρ = some (.ok (.new (xs.take k)) ρ) := by
  have fr : drf (stl (.cel f)) ρ = some (.ok (.lst xs) ρ) := by
    show drf (.cel f) ρ = _
    unfold drf
    rw [cel_dr hf]
  refine bind_ev (cel_ev hf) (bind_ev (v := none) (ρ1 := ρ) rfl (bind_ev (v := some (k : Int)) (ρ1 := ρ) (bind_ev (var_ev ha) rfl) (bind_ev fr ?_)))
  show optM (some (mk (D.lst (cutD xs none (some (k : Int)))))) _ = _
  rw [cut_to hk]
  rfl
theorem cutFrom_ev {ρ : E} {f a k : Nat} {p : Bool} {xs : List D} (hf : ρ[f]? = some (.cel p (.lst xs))) (ha : ρ[a]? = some (.val (.int (k : Int)))) (hk : k ≤ xs.length) : eCut (eVar f) (oSome (eVar a)) oNone ρ = some (.ok (.new (xs.drop k)) ρ) := by
  have fr : drf (stl (.cel f)) ρ = some (.ok (.lst xs) ρ) := by
    show drf (.cel f) ρ = _
    unfold drf
    rw [cel_dr hf]
  refine bind_ev (cel_ev hf) (bind_ev (v := some (k : Int)) (ρ1 := ρ) (bind_ev (var_ev ha) rfl) (bind_ev (v := none) (ρ1 := ρ) rfl (bind_ev fr ?_)))
  show optM (some (mk (D.lst (cutD xs (some (k : Int)) none)))) _ = _
  rw [cut_from hk]
  rfl
theorem atI_getD {xs : List D} {v : Int} (h : 0 ≤ v ∧ v < xs.length) : L2.atI xs v = some (xs.getD v.toNat .non) := by
  have e : v = (v.toNat : Int) := by omega
  rw [e, atI_nat (by omega), Int.toNat_natCast, List.getD_eq_getElem?_getD, List.getElem?_eq_getElem (by omega)]
  rfl
theorem getD_mem {xs : List D} {i : Nat} (h : i < xs.length) : xs.getD i .non ∈ xs := by
  rw [List.getD_eq_getElem?_getD, List.getElem?_eq_getElem h]
  exact List.getElem_mem h
end Z

set_option Elab.async false
set_option linter.all false
set_option maxRecDepth 100000
set_option maxHeartbeats 4000000
namespace LAW
open PySem PySem.Spec PyProof.Rows L2 Z
/-! the text by places -/
def top (i : Nat) : Stmt := PySem.Challenge.pw_cellyards_k02_yards_refused.main.body.getD i (.Pass ⟨0, 0, 0, 0⟩)
abbrev s__law_purse : Stmt := top 17
abbrev s_is_number : Stmt := top 9
abbrev s_is_cell : Stmt := top 10
abbrev s_is_road : Stmt := top 11
abbrev s_checked_roads : Stmt := top 12
abbrev s_checked_cells : Stmt := top 13
abbrev s_Yard_init : Stmt := inClass (top 14) 0
abbrev s_Yard_without_road : Stmt := inClass (top 14) 5
abbrev s_Yard_without_entry : Stmt := inClass (top 14) 6
abbrev s_Yard_without_exit : Stmt := inClass (top 14) 7
abbrev s__law_asked : Stmt := top 20
abbrev s__law_caught : Stmt := top 21
abbrev s__law_mixed : Stmt := top 16
abbrev s__law_draw : Stmt := top 18
abbrev s__law_right : Stmt := top 22
abbrev s_law : Stmt := top 23
abbrev si_InvalidNumber : Stmt := inClass (top 3) 0
abbrev si_InvalidRoads : Stmt := inClass (top 4) 0
abbrev si_InvalidCells : Stmt := inClass (top 5) 0
abbrev si_NoRoad : Stmt := inClass (top 6) 0
abbrev si_NoCell : Stmt := inClass (top 7) 0
/-! the mirrors -/
def m__law_purse : S := (sSeq (sAsg (eC (.int 0)) (tgName 2)) (sSeq (sIf (tst (eOp2 (fI kLt) (eVar 1) (eCall fLen (aCons (eVar 0) aNil)))) (sAsg (eIx (eVar 0) (eVar 1)) (tgName 2)) sNx) (sRet (eLst (aCons (eOp2 (fI kMod) (eCall fInt (aCons (eCall fMax (aCons (eOp2 (fI kSub) (eVar 2) (eOp2 (fI kPow) (eC (.int 10)) (eC (.int 18)))) (aCons (eC (.int 0)) aNil))) aNil)) (eOp2 (fI kPow) (eOp2 (fI kPow) (eC (.int 10)) (eC (.int 60))) (eC (.int 8)))) (aCons (eOp2 (fI kMod) (eCall fInt (aCons (eVar 2) aNil)) (eC (.int 2147483647))) (aCons (eOp2 (fI kMul) (eC (.int 1000)) (eVar 1)) aNil)))))))
def f__law_purse : Fn := bodyF 2 3 m__law_purse
def m_is_number : S := (sRet (eAnd (eIsi .int (eVar 0)) (eAnd (eNot (eIsi .bool (eVar 0))) (eOp2 (fI kGe) (eVar 0) (eC (.int 0))))))
def f_is_number : Fn := bodyF 1 1 m_is_number
def m_is_cell : S := (sRet (eAnd (eFn f_is_number [false] (aCons (eVar 0) aNil)) (eOp2 (fI kLt) (eVar 0) (eVar 1))))
def f_is_cell : Fn := bodyF 2 2 m_is_cell
def m_is_road : S := (sSeq (sIf (bOr (bNot (tst (eIsi .tuple (eVar 0)))) (bOr (tst (eOp2 fNe (eCall fLen (aCons (eVar 0) aNil)) (eC (.int 2)))) (bOr (bNot (tst (eFn f_is_cell [false, false] (aCons (eIx (eVar 0) (eC (.int 0))) (aCons (eVar 1) aNil))))) (bNot (tst (eFn f_is_cell [false, false] (aCons (eIx (eVar 0) (eC (.int 1))) (aCons (eVar 1) aNil)))))))) (sRet (eC (.bl false))) sNx) (sRet (eOp2 fNe (eIx (eVar 0) (eC (.int 0))) (eIx (eVar 0) (eC (.int 1))))))
def f_is_road : Fn := bodyF 2 2 m_is_road
def m_checked_roads : S := (sSeq (sIf (bNot (tst (eIsLT (eVar 0)))) (sRaise "InvalidRoads" ["place"] (aCons (eC .non) aNil)) sNx) (sSeq (sFor (iEn (eVar 0)) (tgTup 2 (tgCons (tgName 2) (tgCons (tgName 3) tgNil))) (sIf (bNot (tst (eFn f_is_road [false, false] (aCons (eVar 3) (aCons (eVar 1) aNil))))) (sRaise "InvalidRoads" ["place"] (aCons (eVar 2) aNil)) sNx)) (sRet (eCall fTuple (aCons (eSS (eVar 0)) aNil)))))
def f_checked_roads : Fn := bodyF 2 4 m_checked_roads
def m_checked_cells : S := (sSeq (sIf (bNot (tst (eIsLT (eVar 0)))) (sRaise "InvalidCells" ["place"] (aCons (eC .non) aNil)) sNx) (sSeq (sFor (iEn (eVar 0)) (tgTup 2 (tgCons (tgName 2) (tgCons (tgName 3) tgNil))) (sIf (bNot (tst (eFn f_is_cell [false, false] (aCons (eVar 3) (aCons (eVar 1) aNil))))) (sRaise "InvalidCells" ["place"] (aCons (eVar 2) aNil)) sNx)) (sRet (eCall fTuple (aCons (eSS (eVar 0)) aNil)))))
def f_checked_cells : Fn := bodyF 2 4 m_checked_cells
def m_Yard_init : S := (sSeq (sIf (bOr (bNot (tst (eFn f_is_number [false] (aCons (eVar 1) aNil)))) (tst (eOp2 fEq (eVar 1) (eC (.int 0))))) (sRaise "InvalidNumber" ["thing"] (aCons (eVar 1) aNil)) sNx) (sSeq (sFldS ["Yard"] 0 "cells" (eVar 1)) (sSeq (sFldS ["Yard"] 0 "roads" (eFn f_checked_roads [false, false] (aCons (eVar 2) (aCons (eVar 1) aNil)))) (sSeq (sFldS ["Yard"] 0 "entries" (eFn f_checked_cells [false, false] (aCons (eVar 3) (aCons (eVar 1) aNil)))) (sFldS ["Yard"] 0 "exits" (eFn f_checked_cells [false, false] (aCons (eVar 4) (aCons (eVar 1) aNil))))))))
def f_Yard_init : Fn := bodyF 5 5 m_Yard_init
def m_Yard_without_road : S := (sSeq (sIf (bOr (bNot (tst (eFn f_is_road [false, false] (aCons (eTup (aCons (eVar 1) (aCons (eVar 2) aNil))) (aCons (eFld ["Yard"] "cells" (eVar 0)) aNil))))) (tst (eOp2 fNin (eTup (aCons (eVar 1) (aCons (eVar 2) aNil))) (eFld ["Yard"] "roads" (eVar 0))))) (sRaise2 "NoRoad" "x" "y" (aCons (eVar 1) (aCons (eVar 2) aNil))) sNx) (sSeq (sAsg (eComp (iSeq (eFld ["Yard"] "roads" (eVar 0))) (tgName 4) (tst (eOp2 fNe (eVar 4) (eTup (aCons (eVar 1) (aCons (eVar 2) aNil))))) (eVar 4) [4]) (tgName 3)) (sRet (eMkK "Yard" f_Yard_init 1 3 [0, 1, 2, 3] [] (aCons (eFld ["Yard"] "cells" (eVar 0)) aNil) (aCons (eVar 3) (aCons (eFld ["Yard"] "entries" (eVar 0)) (aCons (eFld ["Yard"] "exits" (eVar 0)) aNil)))))))
def f_Yard_without_road : Fn := bodyF 3 5 m_Yard_without_road
def m_Yard_without_entry : S := (sSeq (sIf (bOr (bNot (tst (eFn f_is_cell [false, false] (aCons (eVar 1) (aCons (eFld ["Yard"] "cells" (eVar 0)) aNil))))) (tst (eOp2 fNin (eVar 1) (eFld ["Yard"] "entries" (eVar 0))))) (sRaise "NoCell" ["x"] (aCons (eVar 1) aNil)) sNx) (sSeq (sAsg (eComp (iSeq (eFld ["Yard"] "entries" (eVar 0))) (tgName 3) (tst (eOp2 fNe (eVar 3) (eVar 1))) (eVar 3) [3]) (tgName 2)) (sRet (eMkK "Yard" f_Yard_init 1 3 [0, 1, 2, 3] [] (aCons (eFld ["Yard"] "cells" (eVar 0)) aNil) (aCons (eFld ["Yard"] "roads" (eVar 0)) (aCons (eVar 2) (aCons (eFld ["Yard"] "exits" (eVar 0)) aNil)))))))
def f_Yard_without_entry : Fn := bodyF 2 4 m_Yard_without_entry
def m_Yard_without_exit : S := (sSeq (sIf (bOr (bNot (tst (eFn f_is_cell [false, false] (aCons (eVar 1) (aCons (eFld ["Yard"] "cells" (eVar 0)) aNil))))) (tst (eOp2 fNin (eVar 1) (eFld ["Yard"] "exits" (eVar 0))))) (sRaise "NoCell" ["x"] (aCons (eVar 1) aNil)) sNx) (sSeq (sAsg (eComp (iSeq (eFld ["Yard"] "exits" (eVar 0))) (tgName 3) (tst (eOp2 fNe (eVar 3) (eVar 1))) (eVar 3) [3]) (tgName 2)) (sRet (eMkK "Yard" f_Yard_init 1 3 [0, 1, 2, 3] [] (aCons (eFld ["Yard"] "cells" (eVar 0)) aNil) (aCons (eFld ["Yard"] "roads" (eVar 0)) (aCons (eFld ["Yard"] "entries" (eVar 0)) (aCons (eVar 2) aNil)))))))
def f_Yard_without_exit : Fn := bodyF 2 4 m_Yard_without_exit
def m__law_asked : S := (sSeq (sIf (tst (eOp2 fEq (eVar 0) (eC (.int 0)))) (sRet (eMkK "Yard" f_Yard_init 1 3 [0, 1, 2, 3] [] (aCons (eIx (eVar 1) (eC (.int 0))) aNil) (aCons (eIx (eVar 1) (eC (.int 1))) (aCons (eIx (eVar 1) (eC (.int 2))) (aCons (eIx (eVar 1) (eC (.int 3))) aNil))))) sNx) (sSeq (sAsg (eMkK "Yard" f_Yard_init 1 3 [0, 1, 2, 3] [] (aCons (eC (.int 3)) aNil) (aCons (eLst (aCons (eTup (aCons (eC (.int 0)) (aCons (eC (.int 1)) aNil))) (aCons (eTup (aCons (eC (.int 1)) (aCons (eC (.int 2)) aNil))) aNil))) (aCons (eLst (aCons (eC (.int 0)) (aCons (eC (.int 1)) aNil))) (aCons (eLst (aCons (eC (.int 1)) (aCons (eC (.int 2)) aNil))) aNil)))) (tgName 2)) (sSeq (sIf (tst (eOp2 fEq (eVar 0) (eC (.int 1)))) (sRet (eMeth "Yard" "without_road" f_Yard_without_road [false, false, false] (eVar 2) (aCons (eIx (eVar 1) (eC (.int 0))) (aCons (eIx (eVar 1) (eC (.int 1))) aNil)))) sNx) (sRet (eIf (tst (eOp2 fEq (eVar 0) (eC (.int 2)))) (eMeth "Yard" "without_entry" f_Yard_without_entry [false, false] (eVar 2) (aCons (eIx (eVar 1) (eC (.int 0))) aNil)) (eMeth "Yard" "without_exit" f_Yard_without_exit [false, false] (eVar 2) (aCons (eIx (eVar 1) (eC (.int 0))) aNil)))))))
def f__law_asked : Fn := bodyF 2 3 m__law_asked
def m__law_caught : S := (sSeq (sAsg (eC .non) (tgName 2)) (sSeq (sTry (sExpr (eFn f__law_asked [false, false] (aCons (eVar 0) (aCons (eVar 1) aNil)))) [([("InvalidNumber", true), ("InvalidRoads", false), ("InvalidCells", false), ("NoRoad", false), ("NoCell", false)], some 3, (sAsg (eLst (aCons (eC (.str "number")) (aCons (eXf 3 "InvalidNumber" "thing") aNil))) (tgName 2))), ([("InvalidNumber", false), ("InvalidRoads", true), ("InvalidCells", false), ("NoRoad", false), ("NoCell", false)], some 3, (sAsg (eLst (aCons (eC (.str "roads")) (aCons (eXf 3 "InvalidRoads" "place") aNil))) (tgName 2))), ([("InvalidNumber", false), ("InvalidRoads", false), ("InvalidCells", true), ("NoRoad", false), ("NoCell", false)], some 3, (sAsg (eLst (aCons (eC (.str "cells")) (aCons (eXf 3 "InvalidCells" "place") aNil))) (tgName 2))), ([("InvalidNumber", false), ("InvalidRoads", false), ("InvalidCells", false), ("NoRoad", true), ("NoCell", false)], some 3, (sAsg (eLst (aCons (eC (.str "road")) (aCons (eXf 3 "NoRoad" "x") (aCons (eXf 3 "NoRoad" "y") aNil)))) (tgName 2))), ([("InvalidNumber", false), ("InvalidRoads", false), ("InvalidCells", false), ("NoRoad", false), ("NoCell", true)], some 3, (sAsg (eLst (aCons (eC (.str "cell")) (aCons (eXf 3 "NoCell" "x") aNil))) (tgName 2))), ([("InvalidNumber", true), ("InvalidRoads", true), ("InvalidCells", true), ("NoRoad", true), ("NoCell", true)], none, (sAsg (eLst (aCons (eC (.str "other")) aNil)) (tgName 2)))]) (sRet (eVar 2))))
def f__law_caught : Fn := bodyF 2 4 m__law_caught
def m__law_mixed : S := (sSeq (sAsg (eOp2 (fI kMod) (eCall fInt (aCons (eOp2 fAdd (eOp2 fAdd (eOp2 fAdd (eOp2 (fI kMul) (eVar 0) (eC (.int 2654435761))) (eOp2 (fI kMul) (eOp2 (fI kMul) (eC (.int 40503)) (eVar 1)) (eVar 1))) (eOp2 (fI kMul) (eC (.int 97)) (eVar 1))) (eC (.int 13))) aNil)) (eC (.int 2147483647))) (tgName 2)) (sRet (eOp2 (fI kDiv) (eOp2 (fI kMod) (eCall fInt (aCons (eOp2 fAdd (eOp2 fAdd (eOp2 (fI kMul) (eVar 2) (eVar 2)) (eOp2 (fI kMul) (eC (.int 7)) (eVar 2))) (eC (.int 11))) aNil)) (eC (.int 2147483629))) (eC (.int 3)))))
def f__law_mixed : Fn := bodyF 2 3 m__law_mixed
def m__law_draw : S := (sSeq (sIf (tst (eOp2 (fI kGt) (eIx (eVar 0) (eC (.int 0))) (eC (.int 0)))) (sSeq (sAsg (eOp2 (fI kMod) (eCall fInt (aCons (eIx (eVar 0) (eC (.int 0))) aNil)) (eVar 1)) (tgName 2)) (sSeq (sSub (eOp2 (fI kDiv) (eIx (eVar 0) (eC (.int 0))) (eVar 1)) (eVar 0) (eC (.int 0))) (sRet (eVar 2)))) sNx) (sSeq (sSub (eOp2 fAdd (eIx (eVar 0) (eC (.int 2))) (eC (.int 1))) (eVar 0) (eC (.int 2))) (sRet (eOp2 (fI kMod) (eCall fInt (aCons (eFn f__law_mixed [false, false] (aCons (eIx (eVar 0) (eC (.int 1))) (aCons (eIx (eVar 0) (eC (.int 2))) aNil))) aNil)) (eVar 1)))))
def f__law_draw : Fn := bodyF 2 3 m__law_draw
def m__law_right : S := (sSeq (sAsg (eOp2 fAdd (eC (.int 1)) (eFn f__law_draw [true, false] (aCons (eVar 0) (aCons (eC (.int 4)) aNil)))) (tgName 1)) (sSeq (sAsg (eComp (iRg1 (aCons (eOp2 (fI kSub) (eVar 1) (eC (.int 1))) aNil)) (tgName 3) tTrue (eTup (aCons (eVar 3) (aCons (eOp2 fAdd (eVar 3) (eC (.int 1))) aNil))) [3]) (tgName 2)) (sSeq (sAsg (eLst (aCons (eC .non) (aCons (eTup (aCons (eC (.int 0)) aNil)) (aCons (eTup (aCons (eC (.int 0)) (aCons (eC (.int 0)) aNil))) (aCons (eTup (aCons (eC (.int 0)) (aCons (eVar 1) aNil))) (aCons (eTup (aCons (eNeg (eC (.int 1))) (aCons (eC (.int 0)) aNil))) (aCons (eTup (aCons (eC (.int 0)) (aCons (eC (.bl true)) aNil))) (aCons (eLst (aCons (eC (.int 0)) (aCons (eC (.int 1)) aNil))) (aCons (eC (.str "01")) (aCons (eTup (aCons (eC (.int 0)) (aCons (eC (.int 1)) (aCons (eC (.int 2)) aNil)))) (aCons (eTup (aCons (eC (.str "0")) (aCons (eC (.int 1)) aNil))) (aCons (eC (.int 5)) (aCons (eTup (aCons (eC (.int 0)) (aCons (eC .non) aNil))) aNil))))))))))))) (tgName 4)) (sSeq (sAsg (eFn f__law_draw [true, false] (aCons (eVar 0) (aCons (eOp2 fAdd (eCall fLen (aCons (eVar 2) aNil)) (eC (.int 1))) aNil))) (tgName 5)) (sSeq (sAsg (eOp2 fAdd (eOp2 fAdd (eOp2 fAdd (eCut (eVar 2) oNone (oSome (eVar 5))) (eLst (aCons (eIx (eVar 4) (eFn f__law_draw [true, false] (aCons (eVar 0) (aCons (eC (.int 12)) aNil)))) aNil))) (eCut (eVar 2) (oSome (eVar 5)) oNone)) (eLst (aCons (eC .non) aNil))) (tgName 6)) (sSeq (sAsg (eLRg1 (eVar 1)) (tgName 7)) (sSeq (sAsg (eFn f__law_draw [true, false] (aCons (eVar 0) (aCons (eOp2 fAdd (eVar 1) (eC (.int 1))) aNil))) (tgName 8)) (sSeq (sAsg (eOp2 fAdd (eOp2 fAdd (eOp2 fAdd (eCut (eVar 7) oNone (oSome (eVar 8))) (eLst (aCons (eIx (eLst (aCons (eC .non) (aCons (eNeg (eC (.int 1))) (aCons (eVar 1) (aCons (eC (.bl true)) (aCons (eC (.str "0")) (aCons (eTup (aCons (eC (.int 0)) aNil)) (aCons (eLst (aCons (eC (.int 0)) aNil)) aNil)))))))) (eFn f__law_draw [true, false] (aCons (eVar 0) (aCons (eC (.int 7)) aNil)))) aNil))) (eCut (eVar 7) (oSome (eVar 8)) oNone)) (eLst (aCons (eC .non) aNil))) (tgName 9)) (sSeq (sAsg (eIx (eLst (aCons (eC .non) (aCons (eC (.int 5)) (aCons (eC (.str "ab")) (aCons eDic0 (aCons (eC (.bl true)) aNil)))))) (eFn f__law_draw [true, false] (aCons (eVar 0) (aCons (eC (.int 5)) aNil)))) (tgName 10)) (sSeq (sAsg (eIx (eLst (aCons (eC (.int 0)) (aCons (eNeg (eC (.int 1))) (aCons (eC .non) (aCons (eC (.bl true)) (aCons (eC (.str "2")) (aCons (eTup (aCons (eC (.int 1)) aNil)) aNil))))))) (eFn f__law_draw [true, false] (aCons (eVar 0) (aCons (eC (.int 6)) aNil)))) (tgName 11)) (sSeq (sAsg (eLst (aCons (eLst (aCons (eVar 11) (aCons (eVar 6) (aCons (eVar 9) (aCons (eVar 9) aNil))))) (aCons (eLst (aCons (eVar 1) (aCons (eVar 10) (aCons (eVar 9) (aCons (eVar 9) aNil))))) (aCons (eLst (aCons (eVar 1) (aCons (eVar 6) (aCons (eVar 10) (aCons (eVar 9) aNil))))) (aCons (eLst (aCons (eVar 1) (aCons (eVar 2) (aCons (eVar 10) (aCons (eVar 9) aNil))))) aNil))))) (tgName 12)) (sSeq (sAsg (eOp2 fAdd (eVar 12) (eLst (aCons (eLst (aCons (eVar 1) (aCons (eCall fTuple (aCons (eVar 6) aNil)) (aCons (eVar 9) (aCons (eVar 9) aNil))))) (aCons (eLst (aCons (eVar 1) (aCons (eVar 2) (aCons (eVar 9) (aCons (eVar 10) aNil))))) (aCons (eLst (aCons (eVar 1) (aCons (eVar 2) (aCons (eCall fTuple (aCons (eVar 9) aNil)) (aCons (eVar 7) aNil))))) aNil))))) (tgName 12)) (sSeq (sAsg (eOp2 fAdd (eVar 12) (eLst (aCons (eLst (aCons (eVar 1) (aCons (eVar 2) (aCons (eVar 7) (aCons (eVar 10) aNil))))) (aCons (eLst (aCons (eVar 1) (aCons (eTup aNil) (aCons (eTup aNil) (aCons (eVar 9) aNil))))) (aCons (eLst (aCons (eVar 1) (aCons (eVar 2) (aCons (eCall fTuple (aCons (eVar 7) aNil)) (aCons (eVar 7) aNil))))) aNil))))) (tgName 12)) (sSeq (sAsg (eLst (aCons (eLst (aCons (eC (.str "number")) (aCons (eVar 11) aNil))) (aCons (eLst (aCons (eC (.str "roads")) (aCons (eC .non) aNil))) (aCons (eLst (aCons (eC (.str "roads")) (aCons (eVar 5) aNil))) (aCons (eLst (aCons (eC (.str "cells")) (aCons (eC .non) aNil))) (aCons (eLst (aCons (eC (.str "roads")) (aCons (eVar 5) aNil))) (aCons (eLst (aCons (eC (.str "cells")) (aCons (eVar 8) aNil))) aNil))))))) (tgName 13)) (sSeq (sAsg (eOp2 fAdd (eVar 13) (eLst (aCons (eLst (aCons (eC (.str "cells")) (aCons (eVar 8) aNil))) (aCons (eLst (aCons (eC (.str "cells")) (aCons (eC .non) aNil))) (aCons (eLst (aCons (eC (.str "cells")) (aCons (eVar 8) aNil))) (aCons (eC .non) aNil)))))) (tgName 13)) (sSeq (sIf (tst (eOp2 fNe (eCall fStr (aCons (eComp (iSeq (eVar 12)) (tgName 14) tTrue (eFn f__law_caught [false, false] (aCons (eC (.int 0)) (aCons (eVar 14) aNil))) [14]) aNil)) (eCall fStr (aCons (eVar 13) aNil)))) (sRet (eC (.bl false))) sNx) (sSeq (sAsg (eLst (aCons (eTup (aCons (eC (.int 1)) (aCons (eC (.int 0)) aNil))) (aCons (eTup (aCons (eC (.int 0)) (aCons (eC (.int 2)) aNil))) (aCons (eTup (aCons (eC (.int 0)) (aCons (eC (.int 0)) aNil))) (aCons (eTup (aCons (eC .non) (aCons (eC (.int 1)) aNil))) (aCons (eTup (aCons (eC (.int 0)) (aCons (eC (.bl true)) aNil))) (aCons (eTup (aCons (eNeg (eC (.int 1))) (aCons (eC (.int 0)) aNil))) (aCons (eTup (aCons (eC (.str "0")) (aCons (eC (.int 1)) aNil))) (aCons (eTup (aCons (eC (.int 3)) (aCons (eC (.int 4)) aNil))) (aCons (eTup (aCons (eC (.bl false)) (aCons (eC (.int 1)) aNil))) aNil)))))))))) (tgName 15)) (sSeq (sAsg (eIx (eVar 15) (eFn f__law_draw [true, false] (aCons (eVar 0) (aCons (eC (.int 9)) aNil)))) (tgTup 2 (tgCons (tgName 3) (tgCons (tgName 16) tgNil)))) (sSeq (sAsg (eIx (eLst (aCons (eC (.int 3)) (aCons (eNeg (eC (.int 1))) (aCons (eC (.int 4)) (aCons (eC .non) (aCons (eC (.bl true)) (aCons (eC (.str "0")) (aCons (eTup (aCons (eC (.int 0)) aNil)) (aCons (eLst aNil) aNil))))))))) (eFn f__law_draw [true, false] (aCons (eVar 0) (aCons (eC (.int 8)) aNil)))) (tgName 17)) (sSeq (sAsg (eLst (aCons (eFn f__law_caught [false, false] (aCons (eC (.int 1)) (aCons (eLst (aCons (eVar 3) (aCons (eVar 16) aNil))) aNil))) (aCons (eFn f__law_caught [false, false] (aCons (eC (.int 2)) (aCons (eLst (aCons (eVar 17) aNil)) aNil))) (aCons (eFn f__law_caught [false, false] (aCons (eC (.int 3)) (aCons (eLst (aCons (eVar 17) aNil)) aNil))) aNil)))) (tgName 18)) (sSeq (sIf (tst (eOp2 fNe (eCall fStr (aCons (eVar 18) aNil)) (eCall fStr (aCons (eLst (aCons (eLst (aCons (eC (.str "road")) (aCons (eVar 3) (aCons (eVar 16) aNil)))) (aCons (eLst (aCons (eC (.str "cell")) (aCons (eVar 17) aNil))) (aCons (eLst (aCons (eC (.str "cell")) (aCons (eVar 17) aNil))) aNil)))) aNil)))) (sRet (eC (.bl false))) sNx) (sSeq (sAsg (eLst (aCons (eFn f__law_caught [false, false] (aCons (eC (.int 1)) (aCons (eLst (aCons (eC (.int 0)) (aCons (eC (.int 1)) aNil))) aNil))) (aCons (eFn f__law_caught [false, false] (aCons (eC (.int 2)) (aCons (eLst (aCons (eC (.int 0)) aNil)) aNil))) (aCons (eFn f__law_caught [false, false] (aCons (eC (.int 3)) (aCons (eLst (aCons (eC (.int 2)) aNil)) aNil))) (aCons (eFn f__law_caught [false, false] (aCons (eC (.int 2)) (aCons (eLst (aCons (eC (.int 2)) aNil)) aNil))) (aCons (eFn f__law_caught [false, false] (aCons (eC (.int 3)) (aCons (eLst (aCons (eC (.int 0)) aNil)) aNil))) aNil)))))) (tgName 18)) (sRet (eOp2 fEq (eVar 18) (eLst (aCons (eC .non) (aCons (eC .non) (aCons (eC .non) (aCons (eLst (aCons (eC (.str "cell")) (aCons (eC (.int 2)) aNil))) (aCons (eLst (aCons (eC (.str "cell")) (aCons (eC (.int 0)) aNil))) aNil))))))))))))))))))))))))))))))
def f__law_right : Fn := bodyF 1 19 m__law_right
def m_law : S := (sSeq (sFor (iRg1 (aCons (eOp2 fAdd (eC (.int 1)) (eCall fMin (aCons (eC (.int 8)) (aCons (eCall fLen (aCons (eVar 0) aNil)) aNil)))) aNil)) (tgName 1) (sSeq (sAsg (eFn f__law_purse [false, false] (aCons (eVar 0) (aCons (eVar 1) aNil))) (tgName 2)) (sFor (iRg1 (aCons (eC (.int 3)) aNil)) (tgName 3) (sIf (bNot (tst (eFn f__law_right [true] (aCons (eVar 2) aNil)))) (sRet (eC (.bl false))) sNx)))) (sRet (eOp2 fIs (eFn f__law_caught [false, false] (aCons (eC (.int 0)) (aCons (eLst (aCons (eC (.int 1)) (aCons (eLst aNil) (aCons (eLst aNil) (aCons (eLst aNil) aNil))))) aNil))) (eC .non))))
def f_law : Fn := bodyF 1 4 m_law
/-! what the module holds -/
structure Ad where
  a__law_purse : Addr
  d__law_purse : FuncData
  a_is_number : Addr
  d_is_number : FuncData
  a_is_cell : Addr
  d_is_cell : FuncData
  a_is_road : Addr
  d_is_road : FuncData
  a_checked_roads : Addr
  d_checked_roads : FuncData
  a_checked_cells : Addr
  d_checked_cells : FuncData
  a_Yard_init : Addr
  d_Yard_init : FuncData
  a_Yard_without_road : Addr
  d_Yard_without_road : FuncData
  a_Yard_without_entry : Addr
  d_Yard_without_entry : FuncData
  a_Yard_without_exit : Addr
  d_Yard_without_exit : FuncData
  a__law_asked : Addr
  d__law_asked : FuncData
  a__law_caught : Addr
  d__law_caught : FuncData
  a__law_mixed : Addr
  d__law_mixed : FuncData
  a__law_draw : Addr
  d__law_draw : FuncData
  a__law_right : Addr
  d__law_right : FuncData
  a_law : Addr
  d_law : FuncData
  C_YardError : Addr
  C_InvalidNumber : Addr
  C_InvalidRoads : Addr
  C_InvalidCells : Addr
  C_NoRoad : Addr
  C_NoCell : Addr
  C_Yard : Addr
  i_InvalidNumber : Addr
  e_InvalidNumber : FuncData
  i_InvalidRoads : Addr
  e_InvalidRoads : FuncData
  i_InvalidCells : Addr
  e_InvalidCells : FuncData
  i_NoRoad : Addr
  e_NoRoad : FuncData
  i_NoCell : Addr
  e_NoCell : FuncData
structure Fa (K : PySem.W.Frag) (mg : Str → Option Value) (r : Ad) : Prop where
  b_set : mg "set" = none
  b_len : mg "len" = none
  b_int : mg "int" = none
  b_max : mg "max" = none
  b_min : mg "min" = none
  b_all : mg "all" = none
  b_sum : mg "sum" = none
  b_sorted : mg "sorted" = none
  b_list : mg "list" = none
  b_tuple : mg "tuple" = none
  b_str : mg "str" = none
  b_isinstance : mg "isinstance" = none
  b_range : mg "range" = none
  b_enumerate : mg "enumerate" = none
  b_bool : mg "bool" = none
  b_dict : mg "dict" = none
  mg__law_purse : mg "_law_purse" = some (.ref r.a__law_purse)
  fn__law_purse : Fun K "_law_purse" "_law_purse" s__law_purse r.a__law_purse r.d__law_purse
  bd__law_purse : Binds K r.d__law_purse ["cells", "at"] []
  mg_is_number : mg "is_number" = some (.ref r.a_is_number)
  fn_is_number : Fun K "is_number" "is_number" s_is_number r.a_is_number r.d_is_number
  bd_is_number : Binds K r.d_is_number ["thing"] []
  mg_is_cell : mg "is_cell" = some (.ref r.a_is_cell)
  fn_is_cell : Fun K "is_cell" "is_cell" s_is_cell r.a_is_cell r.d_is_cell
  bd_is_cell : Binds K r.d_is_cell ["thing", "cells"] []
  mg_is_road : mg "is_road" = some (.ref r.a_is_road)
  fn_is_road : Fun K "is_road" "is_road" s_is_road r.a_is_road r.d_is_road
  bd_is_road : Binds K r.d_is_road ["thing", "cells"] []
  mg_checked_roads : mg "checked_roads" = some (.ref r.a_checked_roads)
  fn_checked_roads : Fun K "checked_roads" "checked_roads" s_checked_roads r.a_checked_roads r.d_checked_roads
  bd_checked_roads : Binds K r.d_checked_roads ["thing", "cells"] []
  mg_checked_cells : mg "checked_cells" = some (.ref r.a_checked_cells)
  fn_checked_cells : Fun K "checked_cells" "checked_cells" s_checked_cells r.a_checked_cells r.d_checked_cells
  bd_checked_cells : Binds K r.d_checked_cells ["thing", "cells"] []
  fn_Yard_init : Fun K "__init__" "Yard.__init__" s_Yard_init r.a_Yard_init r.d_Yard_init
  fn_Yard_without_road : Fun K "without_road" "Yard.without_road" s_Yard_without_road r.a_Yard_without_road r.d_Yard_without_road
  bd_Yard_without_road : Binds K r.d_Yard_without_road ["self", "x", "y"] []
  fn_Yard_without_entry : Fun K "without_entry" "Yard.without_entry" s_Yard_without_entry r.a_Yard_without_entry r.d_Yard_without_entry
  bd_Yard_without_entry : Binds K r.d_Yard_without_entry ["self", "x"] []
  fn_Yard_without_exit : Fun K "without_exit" "Yard.without_exit" s_Yard_without_exit r.a_Yard_without_exit r.d_Yard_without_exit
  bd_Yard_without_exit : Binds K r.d_Yard_without_exit ["self", "x"] []
  mg__law_asked : mg "_law_asked" = some (.ref r.a__law_asked)
  fn__law_asked : Fun K "_law_asked" "_law_asked" s__law_asked r.a__law_asked r.d__law_asked
  bd__law_asked : Binds K r.d__law_asked ["kind", "some"] []
  mg__law_caught : mg "_law_caught" = some (.ref r.a__law_caught)
  fn__law_caught : Fun K "_law_caught" "_law_caught" s__law_caught r.a__law_caught r.d__law_caught
  bd__law_caught : Binds K r.d__law_caught ["kind", "some"] []
  mg__law_mixed : mg "_law_mixed" = some (.ref r.a__law_mixed)
  fn__law_mixed : Fun K "_law_mixed" "_law_mixed" s__law_mixed r.a__law_mixed r.d__law_mixed
  bd__law_mixed : Binds K r.d__law_mixed ["cell", "k"] []
  mg__law_draw : mg "_law_draw" = some (.ref r.a__law_draw)
  fn__law_draw : Fun K "_law_draw" "_law_draw" s__law_draw r.a__law_draw r.d__law_draw
  bd__law_draw : Binds K r.d__law_draw ["purse", "out_of"] []
  mg__law_right : mg "_law_right" = some (.ref r.a__law_right)
  fn__law_right : Fun K "_law_right" "_law_right" s__law_right r.a__law_right r.d__law_right
  bd__law_right : Binds K r.d__law_right ["purse"] []
  mg_law : mg "law" = some (.ref r.a_law)
  fn_law : Fun K "law" "law" s_law r.a_law r.d_law
  bd_law : Binds K r.d_law ["script"] []
  mg_Yard : mg "Yard" = some (.ref r.C_Yard)
  cl_Yard : Cls K r.C_Yard
  mk_Yard : Mk K r.C_Yard r.a_Yard_init
  me_Yard_without_entry : Meth K r.C_Yard "without_entry" r.a_Yard_without_entry
  me_Yard_without_exit : Meth K r.C_Yard "without_exit" r.a_Yard_without_exit
  me_Yard_without_road : Meth K r.C_Yard "without_road" r.a_Yard_without_road
  fo_cells : FldOk K mg ["Yard"] "cells"
  fo_entries : FldOk K mg ["Yard"] "entries"
  fo_exits : FldOk K mg ["Yard"] "exits"
  fo_roads : FldOk K mg ["Yard"] "roads"
  kb_Yard_init_1_roads_entries_exits : KBz K r.d_Yard_init ["self", "cells", "roads", "entries", "exits"] 2 ["roads", "entries", "exits"] [0, 1, 2, 3, 4] []
  mg_YardError : mg "YardError" = some (.ref r.C_YardError)
  mg_InvalidNumber : mg "InvalidNumber" = some (.ref r.C_InvalidNumber)
  ox_InvalidNumber : OexC K r.C_InvalidNumber
  nf_InvalidNumber_thing : PySem.W.findIn K (.ref r.C_InvalidNumber) "thing" = some none
  xf_InvalidNumber : XfC K r.C_InvalidNumber
  mg_InvalidRoads : mg "InvalidRoads" = some (.ref r.C_InvalidRoads)
  ox_InvalidRoads : OexC K r.C_InvalidRoads
  nf_InvalidRoads_place : PySem.W.findIn K (.ref r.C_InvalidRoads) "place" = some none
  xf_InvalidRoads : XfC K r.C_InvalidRoads
  mg_InvalidCells : mg "InvalidCells" = some (.ref r.C_InvalidCells)
  ox_InvalidCells : OexC K r.C_InvalidCells
  nf_InvalidCells_place : PySem.W.findIn K (.ref r.C_InvalidCells) "place" = some none
  xf_InvalidCells : XfC K r.C_InvalidCells
  mg_NoRoad : mg "NoRoad" = some (.ref r.C_NoRoad)
  ox_NoRoad : OexC K r.C_NoRoad
  nf_NoRoad_x : PySem.W.findIn K (.ref r.C_NoRoad) "x" = some none
  nf_NoRoad_y : PySem.W.findIn K (.ref r.C_NoRoad) "y" = some none
  xf_NoRoad : XfC K r.C_NoRoad
  mg_NoCell : mg "NoCell" = some (.ref r.C_NoCell)
  ox_NoCell : OexC K r.C_NoCell
  nf_NoCell_x : PySem.W.findIn K (.ref r.C_NoCell) "x" = some none
  xf_NoCell : XfC K r.C_NoCell
  in_InvalidNumber : PySem.W.findIn K (.ref r.C_InvalidNumber) "__init__" = some (some (.ref r.i_InvalidNumber))
  ti_InvalidNumber : PySem.W.typeIn K (.ref r.i_InvalidNumber) = some (.type "function")
  fi_InvalidNumber : Fun K "__init__" "InvalidNumber.__init__" si_InvalidNumber r.i_InvalidNumber r.e_InvalidNumber
  bi_InvalidNumber : Binds K r.e_InvalidNumber ["self", "thing"] []
  in_InvalidRoads : PySem.W.findIn K (.ref r.C_InvalidRoads) "__init__" = some (some (.ref r.i_InvalidRoads))
  ti_InvalidRoads : PySem.W.typeIn K (.ref r.i_InvalidRoads) = some (.type "function")
  fi_InvalidRoads : Fun K "__init__" "InvalidRoads.__init__" si_InvalidRoads r.i_InvalidRoads r.e_InvalidRoads
  bi_InvalidRoads : Binds K r.e_InvalidRoads ["self", "place"] []
  in_InvalidCells : PySem.W.findIn K (.ref r.C_InvalidCells) "__init__" = some (some (.ref r.i_InvalidCells))
  ti_InvalidCells : PySem.W.typeIn K (.ref r.i_InvalidCells) = some (.type "function")
  fi_InvalidCells : Fun K "__init__" "InvalidCells.__init__" si_InvalidCells r.i_InvalidCells r.e_InvalidCells
  bi_InvalidCells : Binds K r.e_InvalidCells ["self", "place"] []
  in_NoRoad : PySem.W.findIn K (.ref r.C_NoRoad) "__init__" = some (some (.ref r.i_NoRoad))
  ti_NoRoad : PySem.W.typeIn K (.ref r.i_NoRoad) = some (.type "function")
  fi_NoRoad : Fun K "__init__" "NoRoad.__init__" si_NoRoad r.i_NoRoad r.e_NoRoad
  bi_NoRoad : Binds K r.e_NoRoad ["self", "x", "y"] []
  in_NoCell : PySem.W.findIn K (.ref r.C_NoCell) "__init__" = some (some (.ref r.i_NoCell))
  ti_NoCell : PySem.W.typeIn K (.ref r.i_NoCell) = some (.type "function")
  fi_NoCell : Fun K "__init__" "NoCell.__init__" si_NoCell r.i_NoCell r.e_NoCell
  bi_NoCell : Binds K r.e_NoCell ["self", "x"] []
  em_InvalidCells_InvalidCells : PySem.W.exmOne K (.ref r.C_InvalidCells) (.ref r.C_InvalidCells) = some true
  em_InvalidCells_InvalidNumber : PySem.W.exmOne K (.ref r.C_InvalidCells) (.ref r.C_InvalidNumber) = some false
  em_InvalidCells_InvalidRoads : PySem.W.exmOne K (.ref r.C_InvalidCells) (.ref r.C_InvalidRoads) = some false
  em_InvalidCells_NoCell : PySem.W.exmOne K (.ref r.C_InvalidCells) (.ref r.C_NoCell) = some false
  em_InvalidCells_NoRoad : PySem.W.exmOne K (.ref r.C_InvalidCells) (.ref r.C_NoRoad) = some false
  em_InvalidCells_YardError : PySem.W.exmOne K (.ref r.C_InvalidCells) (.ref r.C_YardError) = some true
  em_InvalidNumber_InvalidCells : PySem.W.exmOne K (.ref r.C_InvalidNumber) (.ref r.C_InvalidCells) = some false
  em_InvalidNumber_InvalidNumber : PySem.W.exmOne K (.ref r.C_InvalidNumber) (.ref r.C_InvalidNumber) = some true
  em_InvalidNumber_InvalidRoads : PySem.W.exmOne K (.ref r.C_InvalidNumber) (.ref r.C_InvalidRoads) = some false
  em_InvalidNumber_NoCell : PySem.W.exmOne K (.ref r.C_InvalidNumber) (.ref r.C_NoCell) = some false
  em_InvalidNumber_NoRoad : PySem.W.exmOne K (.ref r.C_InvalidNumber) (.ref r.C_NoRoad) = some false
  em_InvalidNumber_YardError : PySem.W.exmOne K (.ref r.C_InvalidNumber) (.ref r.C_YardError) = some true
  em_InvalidRoads_InvalidCells : PySem.W.exmOne K (.ref r.C_InvalidRoads) (.ref r.C_InvalidCells) = some false
  em_InvalidRoads_InvalidNumber : PySem.W.exmOne K (.ref r.C_InvalidRoads) (.ref r.C_InvalidNumber) = some false
  em_InvalidRoads_InvalidRoads : PySem.W.exmOne K (.ref r.C_InvalidRoads) (.ref r.C_InvalidRoads) = some true
  em_InvalidRoads_NoCell : PySem.W.exmOne K (.ref r.C_InvalidRoads) (.ref r.C_NoCell) = some false
  em_InvalidRoads_NoRoad : PySem.W.exmOne K (.ref r.C_InvalidRoads) (.ref r.C_NoRoad) = some false
  em_InvalidRoads_YardError : PySem.W.exmOne K (.ref r.C_InvalidRoads) (.ref r.C_YardError) = some true
  em_NoCell_InvalidCells : PySem.W.exmOne K (.ref r.C_NoCell) (.ref r.C_InvalidCells) = some false
  em_NoCell_InvalidNumber : PySem.W.exmOne K (.ref r.C_NoCell) (.ref r.C_InvalidNumber) = some false
  em_NoCell_InvalidRoads : PySem.W.exmOne K (.ref r.C_NoCell) (.ref r.C_InvalidRoads) = some false
  em_NoCell_NoCell : PySem.W.exmOne K (.ref r.C_NoCell) (.ref r.C_NoCell) = some true
  em_NoCell_NoRoad : PySem.W.exmOne K (.ref r.C_NoCell) (.ref r.C_NoRoad) = some false
  em_NoCell_YardError : PySem.W.exmOne K (.ref r.C_NoCell) (.ref r.C_YardError) = some true
  em_NoRoad_InvalidCells : PySem.W.exmOne K (.ref r.C_NoRoad) (.ref r.C_InvalidCells) = some false
  em_NoRoad_InvalidNumber : PySem.W.exmOne K (.ref r.C_NoRoad) (.ref r.C_InvalidNumber) = some false
  em_NoRoad_InvalidRoads : PySem.W.exmOne K (.ref r.C_NoRoad) (.ref r.C_InvalidRoads) = some false
  em_NoRoad_NoCell : PySem.W.exmOne K (.ref r.C_NoRoad) (.ref r.C_NoCell) = some false
  em_NoRoad_NoRoad : PySem.W.exmOne K (.ref r.C_NoRoad) (.ref r.C_NoRoad) = some true
  em_NoRoad_YardError : PySem.W.exmOne K (.ref r.C_NoRoad) (.ref r.C_YardError) = some true
/-! the derivations -/
section
variable {P : Program} {w : World} {K : PySem.W.Frag} {mg : Str → Option Value} {base : Heap} {r : Ad}
theorem sci_InvalidNumber : FnScope ["self", "thing"] ["self", "thing"] (defScope si_InvalidNumber) := ⟨rfl, rfl, rfl, by decide +kernel, rfl, by decide +kernel, by decide +kernel⟩
theorem ok_init_InvalidNumber (T : Fa K mg r) : FnOk P w K mg base L2.CX0 1 r.i_InvalidNumber r.e_InvalidNumber ["self", "thing"] (spI K "thing") := ok_init1 T.fi_InvalidNumber sci_InvalidNumber rfl rfl rfl (by decide) (by decide) (by decide) (by decide)
theorem sci_InvalidRoads : FnScope ["self", "place"] ["self", "place"] (defScope si_InvalidRoads) := ⟨rfl, rfl, rfl, by decide +kernel, rfl, by decide +kernel, by decide +kernel⟩
theorem ok_init_InvalidRoads (T : Fa K mg r) : FnOk P w K mg base L2.CX0 1 r.i_InvalidRoads r.e_InvalidRoads ["self", "place"] (spI K "place") := ok_init1 T.fi_InvalidRoads sci_InvalidRoads rfl rfl rfl (by decide) (by decide) (by decide) (by decide)
theorem sci_InvalidCells : FnScope ["self", "place"] ["self", "place"] (defScope si_InvalidCells) := ⟨rfl, rfl, rfl, by decide +kernel, rfl, by decide +kernel, by decide +kernel⟩
theorem ok_init_InvalidCells (T : Fa K mg r) : FnOk P w K mg base L2.CX0 1 r.i_InvalidCells r.e_InvalidCells ["self", "place"] (spI K "place") := ok_init1 T.fi_InvalidCells sci_InvalidCells rfl rfl rfl (by decide) (by decide) (by decide) (by decide)
theorem sci_NoRoad : FnScope ["self", "x", "y"] ["self", "x", "y"] (defScope si_NoRoad) := ⟨rfl, rfl, rfl, by decide +kernel, rfl, by decide +kernel, by decide +kernel⟩
theorem ok_init_NoRoad (T : Fa K mg r) : FnOk P w K mg base L2.CX0 1 r.i_NoRoad r.e_NoRoad ["self", "x", "y"] (spI2 K "x" "y") := ok_init2 T.fi_NoRoad sci_NoRoad rfl rfl rfl rfl (by decide) (by decide) (by decide) (by decide) (by decide) (by decide)
theorem sci_NoCell : FnScope ["self", "x"] ["self", "x"] (defScope si_NoCell) := ⟨rfl, rfl, rfl, by decide +kernel, rfl, by decide +kernel, by decide +kernel⟩
theorem ok_init_NoCell (T : Fa K mg r) : FnOk P w K mg base L2.CX0 1 r.i_NoCell r.e_NoCell ["self", "x"] (spI K "x") := ok_init1 T.fi_NoCell sci_NoCell rfl rfl rfl (by decide) (by decide) (by decide) (by decide)
theorem sc__law_purse : FnScope ["cells", "at", "cell"] ["cells", "at"] (defScope s__law_purse) := ⟨rfl, rfl, rfl, by decide +kernel, rfl, by decide +kernel, by decide +kernel⟩
theorem ok__law_purse (T : Fa K mg r) : FnZ P w K mg base 1 r.a__law_purse r.d__law_purse ["cells", "at"] f__law_purse := .of T.fn__law_purse sc__law_purse fun cdv A outer s H W hg hr => (show DSs _ _ _ m__law_purse from
  (dss_cons (ds_st sc__law_purse.nd 2 de_int) (dss_cons (ds_if (dt_cp od_lt (de_v 1) (de_callB cd_len T.b_len (da_cons (de_v 0) da_nil))) (dss_one (ds_st sc__law_purse.nd 2 (de_ix (de_v 0) (de_v 1) (fun _ _ => rfl)))) dss_nil) (dss_one (ds_ret (de_lst (da_cons (de_bin od_mod (de_callT cd_int T.b_int (da_cons (de_callB (cd_max rfl) T.b_max (da_cons (de_bin od_sub (de_v 2) (de_bin od_pow de_int de_int)) (da_cons de_int da_nil))) da_nil)) (de_bin od_pow (de_bin od_pow de_int de_int) de_int)) (da_cons (de_bin od_mod (de_callT cd_int T.b_int (da_cons (de_v 2) da_nil)) de_int) (da_cons (de_bin od_mulI de_int (de_v 1)) da_nil)))))))))
theorem sc_is_number : FnScope ["thing"] ["thing"] (defScope s_is_number) := ⟨rfl, rfl, rfl, by decide +kernel, rfl, by decide +kernel, by decide +kernel⟩
theorem ok_is_number (T : Fa K mg r) : FnZ P w K mg base 1 r.a_is_number r.d_is_number ["thing"] f_is_number := .of T.fn_is_number sc_is_number fun cdv A outer s H W hg hr => (show DSs _ _ _ m_is_number from
  (dss_one (ds_ret (de_and (de_isi (t := .int) T.b_isinstance T.b_int (de_v 0)) (de_and (de_not (de_isi (t := .bool) T.b_isinstance T.b_bool (de_v 0))) (de_one (de_cp od_ge (de_v 0) de_int)))))))
theorem sc_is_cell : FnScope ["thing", "cells"] ["thing", "cells"] (defScope s_is_cell) := ⟨rfl, rfl, rfl, by decide +kernel, rfl, by decide +kernel, by decide +kernel⟩
theorem ok_is_cell (T : Fa K mg r) : FnZ P w K mg base 2 r.a_is_cell r.d_is_cell ["thing", "cells"] f_is_cell := .of T.fn_is_cell sc_is_cell fun cdv A outer s H W hg hr => (show DSs _ _ _ m_is_cell from
  (dss_one (ds_ret (de_and (de_call (md := [false]) (ok_is_number T) T.mg_is_number T.fn_is_number.kp T.bd_is_number hg (hr.mono (by decide)) (takes_of rfl rfl rfl rfl) (da_cons (de_v 0) da_nil)) (de_one (de_cp od_lt (de_v 0) (de_v 1)))))))
theorem sc_is_road : FnScope ["thing", "cells"] ["thing", "cells"] (defScope s_is_road) := ⟨rfl, rfl, rfl, by decide +kernel, rfl, by decide +kernel, by decide +kernel⟩
theorem ok_is_road (T : Fa K mg r) : FnZ P w K mg base 3 r.a_is_road r.d_is_road ["thing", "cells"] f_is_road := .of T.fn_is_road sc_is_road fun cdv A outer s H W hg hr => (show DSs _ _ _ m_is_road from
  (dss_cons (ds_if (DW.dt (dw_or (dt_not (dt_val (de_isi (t := .tuple) T.b_isinstance T.b_tuple (de_v 0)))) (dw_or (dt_cp (od_ne hr.units) (de_callB cd_len T.b_len (da_cons (de_v 0) da_nil)) de_int) (dw_or (dt_not (dt_val (de_call (md := [false, false]) (ok_is_cell T) T.mg_is_cell T.fn_is_cell.kp T.bd_is_cell hg (hr.mono (by decide)) (takes_of rfl rfl rfl rfl) (da_cons (de_ix (de_v 0) de_int (fun _ _ => rfl)) (da_cons (de_v 1) da_nil))))) (dw_or1 (dt_not (dt_val (de_call (md := [false, false]) (ok_is_cell T) T.mg_is_cell T.fn_is_cell.kp T.bd_is_cell hg (hr.mono (by decide)) (takes_of rfl rfl rfl rfl) (da_cons (de_ix (de_v 0) de_int (fun _ _ => rfl)) (da_cons (de_v 1) da_nil)))))))))) (dss_one (ds_ret de_bl)) dss_nil) (dss_one (ds_ret (de_cp (od_ne hr.units) (de_ix (de_v 0) de_int (fun _ _ => rfl)) (de_ix (de_v 0) de_int (fun _ _ => rfl)))))))
theorem sc_checked_roads : FnScope ["thing", "cells", "place", "road"] ["thing", "cells"] (defScope s_checked_roads) := ⟨rfl, rfl, rfl, by decide +kernel, rfl, by decide +kernel, by decide +kernel⟩
theorem ok_checked_roads (T : Fa K mg r) : FnZ P w K mg base 4 r.a_checked_roads r.d_checked_roads ["thing", "cells"] f_checked_roads := .of T.fn_checked_roads sc_checked_roads fun cdv A outer s H W hg hr => (show DSs _ _ _ m_checked_roads from
  (dss_cons (ds_if (dt_not (dt_val (de_isLT T.b_isinstance T.b_list T.b_tuple (de_v 0)))) (dss_one (ds_raise1 rfl T.ox_InvalidRoads T.nf_InvalidRoads_place T.in_InvalidRoads T.ti_InvalidRoads (ok_init_InvalidRoads T) (hr.mono (by decide)) T.bi_InvalidRoads T.mg_InvalidRoads (takes_of rfl rfl rfl rfl) (da_cons de_non da_nil))) dss_nil) (dss_cons (ds_for (passes_of rfl) rfl (di_enum T.b_enumerate (de_v 0)) (dg_tup rfl (dgs_cons (pgn sc_checked_roads.nd 2) keeps_name (dgs_cons (pgn sc_checked_roads.nd 3) keeps_name dgs_nil))) (dss_one (ds_if (dt_not (dt_val (de_call (md := [false, false]) (ok_is_road T) T.mg_is_road T.fn_is_road.kp T.bd_is_road hg (hr.mono (by decide)) (takes_of rfl rfl rfl rfl) (da_cons (de_v 3) (da_cons (de_v 1) da_nil))))) (dss_one (ds_raise1 rfl T.ox_InvalidRoads T.nf_InvalidRoads_place T.in_InvalidRoads T.ti_InvalidRoads (ok_init_InvalidRoads T) (hr.mono (by decide)) T.bi_InvalidRoads T.mg_InvalidRoads (takes_of rfl rfl rfl rfl) (da_cons (de_v 2) da_nil))) dss_nil))) (dss_one (ds_ret (de_callT cd_tuple T.b_tuple (da_cons (de_ss rfl hr.units T.b_sorted T.b_set (de_v 0)) da_nil)))))))
theorem sc_checked_cells : FnScope ["thing", "cells", "place", "cell"] ["thing", "cells"] (defScope s_checked_cells) := ⟨rfl, rfl, rfl, by decide +kernel, rfl, by decide +kernel, by decide +kernel⟩
theorem ok_checked_cells (T : Fa K mg r) : FnZ P w K mg base 3 r.a_checked_cells r.d_checked_cells ["thing", "cells"] f_checked_cells := .of T.fn_checked_cells sc_checked_cells fun cdv A outer s H W hg hr => (show DSs _ _ _ m_checked_cells from
  (dss_cons (ds_if (dt_not (dt_val (de_isLT T.b_isinstance T.b_list T.b_tuple (de_v 0)))) (dss_one (ds_raise1 rfl T.ox_InvalidCells T.nf_InvalidCells_place T.in_InvalidCells T.ti_InvalidCells (ok_init_InvalidCells T) (hr.mono (by decide)) T.bi_InvalidCells T.mg_InvalidCells (takes_of rfl rfl rfl rfl) (da_cons de_non da_nil))) dss_nil) (dss_cons (ds_for (passes_of rfl) rfl (di_enum T.b_enumerate (de_v 0)) (dg_tup rfl (dgs_cons (pgn sc_checked_cells.nd 2) keeps_name (dgs_cons (pgn sc_checked_cells.nd 3) keeps_name dgs_nil))) (dss_one (ds_if (dt_not (dt_val (de_call (md := [false, false]) (ok_is_cell T) T.mg_is_cell T.fn_is_cell.kp T.bd_is_cell hg (hr.mono (by decide)) (takes_of rfl rfl rfl rfl) (da_cons (de_v 3) (da_cons (de_v 1) da_nil))))) (dss_one (ds_raise1 rfl T.ox_InvalidCells T.nf_InvalidCells_place T.in_InvalidCells T.ti_InvalidCells (ok_init_InvalidCells T) (hr.mono (by decide)) T.bi_InvalidCells T.mg_InvalidCells (takes_of rfl rfl rfl rfl) (da_cons (de_v 2) da_nil))) dss_nil))) (dss_one (ds_ret (de_callT cd_tuple T.b_tuple (da_cons (de_ss rfl hr.units T.b_sorted T.b_set (de_v 0)) da_nil)))))))
theorem sc_Yard_init : FnScope ["self", "cells", "roads", "entries", "exits"] ["self", "cells", "roads", "entries", "exits"] (defScope s_Yard_init) := ⟨rfl, rfl, rfl, by decide +kernel, rfl, by decide +kernel, by decide +kernel⟩
theorem ok_Yard_init (T : Fa K mg r) : FnZ P w K mg base 5 r.a_Yard_init r.d_Yard_init ["self", "cells", "roads", "entries", "exits"] f_Yard_init := .of T.fn_Yard_init sc_Yard_init fun cdv A outer s H W hg hr => (show DSs _ _ _ m_Yard_init from
  (dss_cons (ds_if (DW.dt (dw_or (dt_not (dt_val (de_call (md := [false]) (ok_is_number T) T.mg_is_number T.fn_is_number.kp T.bd_is_number hg (hr.mono (by decide)) (takes_of rfl rfl rfl rfl) (da_cons (de_v 1) da_nil)))) (dw_or1 (dt_cp (od_eq hr.units) (de_v 1) de_int)))) (dss_one (ds_raise1 rfl T.ox_InvalidNumber T.nf_InvalidNumber_thing T.in_InvalidNumber T.ti_InvalidNumber (ok_init_InvalidNumber T) (hr.mono (by decide)) T.bi_InvalidNumber T.mg_InvalidNumber (takes_of rfl rfl rfl rfl) (da_cons (de_v 1) da_nil))) dss_nil) (dss_cons (ds_fld (cs := ["Yard"]) T.fo_cells (pv_ 0) (de_v 1)) (dss_cons (ds_fld (cs := ["Yard"]) T.fo_roads (pv_ 0) (de_call (md := [false, false]) (ok_checked_roads T) T.mg_checked_roads T.fn_checked_roads.kp T.bd_checked_roads hg (hr.mono (by decide)) (takes_of rfl rfl rfl rfl) (da_cons (de_v 2) (da_cons (de_v 1) da_nil)))) (dss_cons (ds_fld (cs := ["Yard"]) T.fo_entries (pv_ 0) (de_call (md := [false, false]) (ok_checked_cells T) T.mg_checked_cells T.fn_checked_cells.kp T.bd_checked_cells hg (hr.mono (by decide)) (takes_of rfl rfl rfl rfl) (da_cons (de_v 3) (da_cons (de_v 1) da_nil)))) (dss_one (ds_fld (cs := ["Yard"]) T.fo_exits (pv_ 0) (de_call (md := [false, false]) (ok_checked_cells T) T.mg_checked_cells T.fn_checked_cells.kp T.bd_checked_cells hg (hr.mono (by decide)) (takes_of rfl rfl rfl rfl) (da_cons (de_v 4) (da_cons (de_v 1) da_nil))))))))))
theorem sc_Yard_without_road : FnScope ["self", "x", "y", "roads", "road"] ["self", "x", "y"] (defScope s_Yard_without_road) := ⟨rfl, rfl, rfl, by decide +kernel, rfl, by decide +kernel, by decide +kernel⟩
theorem ok_Yard_without_road (T : Fa K mg r) : FnZ P w K mg base 7 r.a_Yard_without_road r.d_Yard_without_road ["self", "x", "y"] f_Yard_without_road := .of T.fn_Yard_without_road sc_Yard_without_road fun cdv A outer s H W hg hr => (show DSs _ _ _ m_Yard_without_road from
  (dss_cons (ds_if (DW.dt (dw_or (dt_not (dt_val (de_call (md := [false, false]) (ok_is_road T) T.mg_is_road T.fn_is_road.kp T.bd_is_road hg (hr.mono (by decide)) (takes_of rfl rfl rfl rfl) (da_cons (de_tup (da_cons (de_v 1) (da_cons (de_v 2) da_nil))) (da_cons (de_fld (cs := ["Yard"]) T.fo_cells (de_v 0)) da_nil))))) (dw_or1 (dt_cp (od_nin hr.units65) (de_tup (da_cons (de_v 1) (da_cons (de_v 2) da_nil))) (de_fld (cs := ["Yard"]) T.fo_roads (de_v 0)))))) (dss_one (ds_raise2 rfl T.ox_NoRoad T.nf_NoRoad_x T.nf_NoRoad_y T.in_NoRoad T.ti_NoRoad (ok_init_NoRoad T) (hr.mono (by decide)) T.bi_NoRoad T.mg_NoRoad (takes_of rfl rfl rfl rfl) (da_cons (de_v 1) (da_cons (de_v 2) da_nil)))) dss_nil) (dss_cons (ds_setComp (own := [("road", 4)]) rfl sc_Yard_without_road.nd rfl rfl rfl (di_seq (de_fld (cs := ["Yard"]) T.fo_roads (de_v 0))) (blk_ok (N := ["self", "x", "y", "roads", "road"]) (sc := defScope s_Yard_without_road)) (fun _ _ _ _ _ => (pgn sc_Yard_without_road.nd 4)) (comp_name (by decide)) (fun _ _ _ _ _ => (dts_one (dt_cp (od_ne hr.units) (de_v 4) (de_tup (da_cons (de_v 1) (da_cons (de_v 2) da_nil)))))) (fun _ _ _ _ _ => (de_v 4))) (dss_one (ds_ret (de_mkK (n := 1) (ks := ["roads", "entries", "exits"]) (perm := [0, 1, 2, 3]) (dvs := []) (dds := []) T.mk_Yard (ok_Yard_init T) T.mg_Yard T.kb_Yard_init_1_roads_entries_exits (fun _ => .nil) hg (hr.mono (by decide)) (takes_of rfl rfl rfl rfl) (da_cons (de_fld (cs := ["Yard"]) T.fo_cells (de_v 0)) da_nil) (dk_cons (de_v 3) (dk_cons (de_fld (cs := ["Yard"]) T.fo_entries (de_v 0)) (dk_cons (de_fld (cs := ["Yard"]) T.fo_exits (de_v 0)) dk_nil)))))))))
theorem sc_Yard_without_entry : FnScope ["self", "x", "entries", "cell"] ["self", "x"] (defScope s_Yard_without_entry) := ⟨rfl, rfl, rfl, by decide +kernel, rfl, by decide +kernel, by decide +kernel⟩
theorem ok_Yard_without_entry (T : Fa K mg r) : FnZ P w K mg base 7 r.a_Yard_without_entry r.d_Yard_without_entry ["self", "x"] f_Yard_without_entry := .of T.fn_Yard_without_entry sc_Yard_without_entry fun cdv A outer s H W hg hr => (show DSs _ _ _ m_Yard_without_entry from
  (dss_cons (ds_if (DW.dt (dw_or (dt_not (dt_val (de_call (md := [false, false]) (ok_is_cell T) T.mg_is_cell T.fn_is_cell.kp T.bd_is_cell hg (hr.mono (by decide)) (takes_of rfl rfl rfl rfl) (da_cons (de_v 1) (da_cons (de_fld (cs := ["Yard"]) T.fo_cells (de_v 0)) da_nil))))) (dw_or1 (dt_cp (od_nin hr.units65) (de_v 1) (de_fld (cs := ["Yard"]) T.fo_entries (de_v 0)))))) (dss_one (ds_raise1 rfl T.ox_NoCell T.nf_NoCell_x T.in_NoCell T.ti_NoCell (ok_init_NoCell T) (hr.mono (by decide)) T.bi_NoCell T.mg_NoCell (takes_of rfl rfl rfl rfl) (da_cons (de_v 1) da_nil))) dss_nil) (dss_cons (ds_setComp (own := [("cell", 3)]) rfl sc_Yard_without_entry.nd rfl rfl rfl (di_seq (de_fld (cs := ["Yard"]) T.fo_entries (de_v 0))) (blk_ok (N := ["self", "x", "entries", "cell"]) (sc := defScope s_Yard_without_entry)) (fun _ _ _ _ _ => (pgn sc_Yard_without_entry.nd 3)) (comp_name (by decide)) (fun _ _ _ _ _ => (dts_one (dt_cp (od_ne hr.units) (de_v 3) (de_v 1)))) (fun _ _ _ _ _ => (de_v 3))) (dss_one (ds_ret (de_mkK (n := 1) (ks := ["roads", "entries", "exits"]) (perm := [0, 1, 2, 3]) (dvs := []) (dds := []) T.mk_Yard (ok_Yard_init T) T.mg_Yard T.kb_Yard_init_1_roads_entries_exits (fun _ => .nil) hg (hr.mono (by decide)) (takes_of rfl rfl rfl rfl) (da_cons (de_fld (cs := ["Yard"]) T.fo_cells (de_v 0)) da_nil) (dk_cons (de_fld (cs := ["Yard"]) T.fo_roads (de_v 0)) (dk_cons (de_v 2) (dk_cons (de_fld (cs := ["Yard"]) T.fo_exits (de_v 0)) dk_nil)))))))))
theorem sc_Yard_without_exit : FnScope ["self", "x", "exits", "cell"] ["self", "x"] (defScope s_Yard_without_exit) := ⟨rfl, rfl, rfl, by decide +kernel, rfl, by decide +kernel, by decide +kernel⟩
theorem ok_Yard_without_exit (T : Fa K mg r) : FnZ P w K mg base 7 r.a_Yard_without_exit r.d_Yard_without_exit ["self", "x"] f_Yard_without_exit := .of T.fn_Yard_without_exit sc_Yard_without_exit fun cdv A outer s H W hg hr => (show DSs _ _ _ m_Yard_without_exit from
  (dss_cons (ds_if (DW.dt (dw_or (dt_not (dt_val (de_call (md := [false, false]) (ok_is_cell T) T.mg_is_cell T.fn_is_cell.kp T.bd_is_cell hg (hr.mono (by decide)) (takes_of rfl rfl rfl rfl) (da_cons (de_v 1) (da_cons (de_fld (cs := ["Yard"]) T.fo_cells (de_v 0)) da_nil))))) (dw_or1 (dt_cp (od_nin hr.units65) (de_v 1) (de_fld (cs := ["Yard"]) T.fo_exits (de_v 0)))))) (dss_one (ds_raise1 rfl T.ox_NoCell T.nf_NoCell_x T.in_NoCell T.ti_NoCell (ok_init_NoCell T) (hr.mono (by decide)) T.bi_NoCell T.mg_NoCell (takes_of rfl rfl rfl rfl) (da_cons (de_v 1) da_nil))) dss_nil) (dss_cons (ds_setComp (own := [("cell", 3)]) rfl sc_Yard_without_exit.nd rfl rfl rfl (di_seq (de_fld (cs := ["Yard"]) T.fo_exits (de_v 0))) (blk_ok (N := ["self", "x", "exits", "cell"]) (sc := defScope s_Yard_without_exit)) (fun _ _ _ _ _ => (pgn sc_Yard_without_exit.nd 3)) (comp_name (by decide)) (fun _ _ _ _ _ => (dts_one (dt_cp (od_ne hr.units) (de_v 3) (de_v 1)))) (fun _ _ _ _ _ => (de_v 3))) (dss_one (ds_ret (de_mkK (n := 1) (ks := ["roads", "entries", "exits"]) (perm := [0, 1, 2, 3]) (dvs := []) (dds := []) T.mk_Yard (ok_Yard_init T) T.mg_Yard T.kb_Yard_init_1_roads_entries_exits (fun _ => .nil) hg (hr.mono (by decide)) (takes_of rfl rfl rfl rfl) (da_cons (de_fld (cs := ["Yard"]) T.fo_cells (de_v 0)) da_nil) (dk_cons (de_fld (cs := ["Yard"]) T.fo_roads (de_v 0)) (dk_cons (de_fld (cs := ["Yard"]) T.fo_entries (de_v 0)) (dk_cons (de_v 2) dk_nil)))))))))
theorem sc__law_asked : FnScope ["kind", "some", "made"] ["kind", "some"] (defScope s__law_asked) := ⟨rfl, rfl, rfl, by decide +kernel, rfl, by decide +kernel, by decide +kernel⟩
theorem ok__law_asked (T : Fa K mg r) : FnZ P w K mg base 8 r.a__law_asked r.d__law_asked ["kind", "some"] f__law_asked := .of T.fn__law_asked sc__law_asked fun cdv A outer s H W hg hr => (show DSs _ _ _ m__law_asked from
  (dss_cons (ds_if (dt_cp (od_eq hr.units) (de_v 0) de_int) (dss_one (ds_ret (de_mkK (n := 1) (ks := ["roads", "entries", "exits"]) (perm := [0, 1, 2, 3]) (dvs := []) (dds := []) T.mk_Yard (ok_Yard_init T) T.mg_Yard T.kb_Yard_init_1_roads_entries_exits (fun _ => .nil) hg (hr.mono (by decide)) (takes_of rfl rfl rfl rfl) (da_cons (de_ix (de_v 1) de_int (fun _ _ => rfl)) da_nil) (dk_cons (de_ix (de_v 1) de_int (fun _ _ => rfl)) (dk_cons (de_ix (de_v 1) de_int (fun _ _ => rfl)) (dk_cons (de_ix (de_v 1) de_int (fun _ _ => rfl)) dk_nil)))))) dss_nil) (dss_cons (ds_st sc__law_asked.nd 2 (de_mkK (n := 1) (ks := ["roads", "entries", "exits"]) (perm := [0, 1, 2, 3]) (dvs := []) (dds := []) T.mk_Yard (ok_Yard_init T) T.mg_Yard T.kb_Yard_init_1_roads_entries_exits (fun _ => .nil) hg (hr.mono (by decide)) (takes_of rfl rfl rfl rfl) (da_cons de_int da_nil) (dk_cons (de_lst (da_cons (de_tup (da_cons de_int (da_cons de_int da_nil))) (da_cons (de_tup (da_cons de_int (da_cons de_int da_nil))) da_nil))) (dk_cons (de_lst (da_cons de_int (da_cons de_int da_nil))) (dk_cons (de_lst (da_cons de_int (da_cons de_int da_nil))) dk_nil))))) (dss_cons (ds_if (dt_cp (od_eq hr.units) (de_v 0) de_int) (dss_one (ds_ret (de_meth (md := [false, false, false]) (c0 := "Yard") T.cl_Yard T.me_Yard_without_road T.mg_Yard (ok_Yard_without_road T) T.bd_Yard_without_road hg (hr.mono (by decide)) (takes_of rfl rfl rfl rfl) (de_v 2) (da_cons (de_ix (de_v 1) de_int (fun _ _ => rfl)) (da_cons (de_ix (de_v 1) de_int (fun _ _ => rfl)) da_nil))))) dss_nil) (dss_one (ds_ret (de_if (dt_cp (od_eq hr.units) (de_v 0) de_int) (de_meth (md := [false, false]) (c0 := "Yard") T.cl_Yard T.me_Yard_without_entry T.mg_Yard (ok_Yard_without_entry T) T.bd_Yard_without_entry hg (hr.mono (by decide)) (takes_of rfl rfl rfl rfl) (de_v 2) (da_cons (de_ix (de_v 1) de_int (fun _ _ => rfl)) da_nil)) (de_meth (md := [false, false]) (c0 := "Yard") T.cl_Yard T.me_Yard_without_exit T.mg_Yard (ok_Yard_without_exit T) T.bd_Yard_without_exit hg (hr.mono (by decide)) (takes_of rfl rfl rfl rfl) (de_v 2) (da_cons (de_ix (de_v 1) de_int (fun _ _ => rfl)) da_nil)))))))))
theorem sc__law_caught : FnScope ["kind", "some", "caught", "error"] ["kind", "some"] (defScope s__law_caught) := ⟨rfl, rfl, rfl, by decide +kernel, rfl, by decide +kernel, by decide +kernel⟩
theorem ok__law_caught (T : Fa K mg r) : FnZ P w K mg base 9 r.a__law_caught r.d__law_caught ["kind", "some"] f__law_caught := .of T.fn__law_caught sc__law_caught fun cdv A outer s H W hg hr => (show DSs _ _ _ m__law_caught from
  (dss_cons (ds_st sc__law_caught.nd 2 de_non) (dss_cons (ds_try (l := [(.ref r.C_InvalidNumber, [("InvalidNumber", true), ("InvalidRoads", false), ("InvalidCells", false), ("NoRoad", false), ("NoCell", false)], some 3, (sAsg (eLst (aCons (eC (.str "number")) (aCons (eXf 3 "InvalidNumber" "thing") aNil))) (tgName 2))), (.ref r.C_InvalidRoads, [("InvalidNumber", false), ("InvalidRoads", true), ("InvalidCells", false), ("NoRoad", false), ("NoCell", false)], some 3, (sAsg (eLst (aCons (eC (.str "roads")) (aCons (eXf 3 "InvalidRoads" "place") aNil))) (tgName 2))), (.ref r.C_InvalidCells, [("InvalidNumber", false), ("InvalidRoads", false), ("InvalidCells", true), ("NoRoad", false), ("NoCell", false)], some 3, (sAsg (eLst (aCons (eC (.str "cells")) (aCons (eXf 3 "InvalidCells" "place") aNil))) (tgName 2))), (.ref r.C_NoRoad, [("InvalidNumber", false), ("InvalidRoads", false), ("InvalidCells", false), ("NoRoad", true), ("NoCell", false)], some 3, (sAsg (eLst (aCons (eC (.str "road")) (aCons (eXf 3 "NoRoad" "x") (aCons (eXf 3 "NoRoad" "y") aNil)))) (tgName 2))), (.ref r.C_NoCell, [("InvalidNumber", false), ("InvalidRoads", false), ("InvalidCells", false), ("NoRoad", false), ("NoCell", true)], some 3, (sAsg (eLst (aCons (eC (.str "cell")) (aCons (eXf 3 "NoCell" "x") aNil))) (tgName 2))), (.ref r.C_YardError, [("InvalidNumber", true), ("InvalidRoads", true), ("InvalidCells", true), ("NoRoad", true), ("NoCell", true)], none, (sAsg (eLst (aCons (eC (.str "other")) aNil)) (tgName 2)))]) rfl rfl sc__law_caught.nd (takes_of rfl rfl rfl rfl) rfl (fun W pn xe tk ps => (dss_one (ds_expr (de_call (md := [false, false]) (ok__law_asked T) T.mg__law_asked T.fn__law_asked.kp T.bd__law_asked hg (hr.mono (by decide)) tk (da_cons (de_v 0) (da_cons (de_v 1) da_nil)))))) (.named (names_ T.mg_InvalidNumber) (tbl_cons T.mg_InvalidNumber T.em_InvalidNumber_InvalidNumber (tbl_cons T.mg_InvalidRoads T.em_InvalidRoads_InvalidNumber (tbl_cons T.mg_InvalidCells T.em_InvalidCells_InvalidNumber (tbl_cons T.mg_NoRoad T.em_NoRoad_InvalidNumber (tbl_cons T.mg_NoCell T.em_NoCell_InvalidNumber tbl_nil))))) rfl rfl (fun a oe cls d pn hz hf => (dss_one (ds_st sc__law_caught.nd 2 (de_lst (da_cons de_str (da_cons (de_xf T.xf_InvalidNumber T.nf_InvalidNumber_thing T.mg_InvalidNumber hz hf (pv_ 3)) da_nil)))))) (.named (names_ T.mg_InvalidRoads) (tbl_cons T.mg_InvalidNumber T.em_InvalidNumber_InvalidRoads (tbl_cons T.mg_InvalidRoads T.em_InvalidRoads_InvalidRoads (tbl_cons T.mg_InvalidCells T.em_InvalidCells_InvalidRoads (tbl_cons T.mg_NoRoad T.em_NoRoad_InvalidRoads (tbl_cons T.mg_NoCell T.em_NoCell_InvalidRoads tbl_nil))))) rfl rfl (fun a oe cls d pn hz hf => (dss_one (ds_st sc__law_caught.nd 2 (de_lst (da_cons de_str (da_cons (de_xf T.xf_InvalidRoads T.nf_InvalidRoads_place T.mg_InvalidRoads hz hf (pv_ 3)) da_nil)))))) (.named (names_ T.mg_InvalidCells) (tbl_cons T.mg_InvalidNumber T.em_InvalidNumber_InvalidCells (tbl_cons T.mg_InvalidRoads T.em_InvalidRoads_InvalidCells (tbl_cons T.mg_InvalidCells T.em_InvalidCells_InvalidCells (tbl_cons T.mg_NoRoad T.em_NoRoad_InvalidCells (tbl_cons T.mg_NoCell T.em_NoCell_InvalidCells tbl_nil))))) rfl rfl (fun a oe cls d pn hz hf => (dss_one (ds_st sc__law_caught.nd 2 (de_lst (da_cons de_str (da_cons (de_xf T.xf_InvalidCells T.nf_InvalidCells_place T.mg_InvalidCells hz hf (pv_ 3)) da_nil)))))) (.named (names_ T.mg_NoRoad) (tbl_cons T.mg_InvalidNumber T.em_InvalidNumber_NoRoad (tbl_cons T.mg_InvalidRoads T.em_InvalidRoads_NoRoad (tbl_cons T.mg_InvalidCells T.em_InvalidCells_NoRoad (tbl_cons T.mg_NoRoad T.em_NoRoad_NoRoad (tbl_cons T.mg_NoCell T.em_NoCell_NoRoad tbl_nil))))) rfl rfl (fun a oe cls d pn hz hf => (dss_one (ds_st sc__law_caught.nd 2 (de_lst (da_cons de_str (da_cons (de_xf T.xf_NoRoad T.nf_NoRoad_x T.mg_NoRoad hz hf (pv_ 3)) (da_cons (de_xf T.xf_NoRoad T.nf_NoRoad_y T.mg_NoRoad hz hf (pv_ 3)) da_nil))))))) (.named (names_ T.mg_NoCell) (tbl_cons T.mg_InvalidNumber T.em_InvalidNumber_NoCell (tbl_cons T.mg_InvalidRoads T.em_InvalidRoads_NoCell (tbl_cons T.mg_InvalidCells T.em_InvalidCells_NoCell (tbl_cons T.mg_NoRoad T.em_NoRoad_NoCell (tbl_cons T.mg_NoCell T.em_NoCell_NoCell tbl_nil))))) rfl rfl (fun a oe cls d pn hz hf => (dss_one (ds_st sc__law_caught.nd 2 (de_lst (da_cons de_str (da_cons (de_xf T.xf_NoCell T.nf_NoCell_x T.mg_NoCell hz hf (pv_ 3)) da_nil)))))) (.plain (names_ T.mg_YardError) (tbl_cons T.mg_InvalidNumber T.em_InvalidNumber_YardError (tbl_cons T.mg_InvalidRoads T.em_InvalidRoads_YardError (tbl_cons T.mg_InvalidCells T.em_InvalidCells_YardError (tbl_cons T.mg_NoRoad T.em_NoRoad_YardError (tbl_cons T.mg_NoCell T.em_NoCell_YardError tbl_nil))))) (fun a oe cls d pn hz hf => (dss_one (ds_st sc__law_caught.nd 2 (de_lst (da_cons de_str da_nil))))) .nil))))))) (dss_one (ds_ret (de_v 2))))))
theorem sc__law_mixed : FnScope ["cell", "k", "stirred"] ["cell", "k"] (defScope s__law_mixed) := ⟨rfl, rfl, rfl, by decide +kernel, rfl, by decide +kernel, by decide +kernel⟩
theorem ok__law_mixed (T : Fa K mg r) : FnZ P w K mg base 1 r.a__law_mixed r.d__law_mixed ["cell", "k"] f__law_mixed := .of T.fn__law_mixed sc__law_mixed fun cdv A outer s H W hg hr => (show DSs _ _ _ m__law_mixed from
  (dss_cons (ds_st sc__law_mixed.nd 2 (de_bin od_mod (de_callT cd_int T.b_int (da_cons (de_bin od_add (de_bin od_add (de_bin od_add (de_bin od_mulI (de_v 0) de_int) (de_bin od_mulI (de_bin od_mulI de_int (de_v 1)) (de_v 1))) (de_bin od_mulI de_int (de_v 1))) de_int) da_nil)) de_int)) (dss_one (ds_ret (de_bin od_div (de_bin od_mod (de_callT cd_int T.b_int (da_cons (de_bin od_add (de_bin od_add (de_bin od_mulI (de_v 2) (de_v 2)) (de_bin od_mulI de_int (de_v 2))) de_int) da_nil)) de_int) de_int)))))
theorem sc__law_draw : FnScope ["purse", "out_of", "drawn"] ["purse", "out_of"] (defScope s__law_draw) := ⟨rfl, rfl, rfl, by decide +kernel, rfl, by decide +kernel, by decide +kernel⟩
theorem ok__law_draw (T : Fa K mg r) : FnZ P w K mg base 2 r.a__law_draw r.d__law_draw ["purse", "out_of"] f__law_draw := .of T.fn__law_draw sc__law_draw fun cdv A outer s H W hg hr => (show DSs _ _ _ m__law_draw from
  (dss_cons (ds_if (dt_cp od_gt (de_ix (de_v 0) de_int (fun _ _ => rfl)) de_int) (dss_cons (ds_st sc__law_draw.nd 2 (de_bin od_mod (de_callT cd_int T.b_int (da_cons (de_ix (de_v 0) de_int (fun _ _ => rfl)) da_nil)) (de_v 1))) (dss_cons (ds_sub (de_bin od_div (de_ix (de_v 0) de_int (fun _ _ => rfl)) (de_v 1)) (de_v 0) de_int) (dss_one (ds_ret (de_v 2))))) dss_nil) (dss_cons (ds_sub (de_bin od_add (de_ix (de_v 0) de_int (fun _ _ => rfl)) de_int) (de_v 0) de_int) (dss_one (ds_ret (de_bin od_mod (de_callT cd_int T.b_int (da_cons (de_call (md := [false, false]) (ok__law_mixed T) T.mg__law_mixed T.fn__law_mixed.kp T.bd__law_mixed hg (hr.mono (by decide)) (takes_of rfl rfl rfl rfl) (da_cons (de_ix (de_v 0) de_int (fun _ _ => rfl)) (da_cons (de_ix (de_v 0) de_int (fun _ _ => rfl)) da_nil))) da_nil)) (de_v 1)))))))
theorem sc__law_right : FnScope ["purse", "size", "ways", "x", "odd", "at", "bad_ways", "cells", "spot", "bad", "none", "wrong", "asked", "due", "some", "pairs", "y", "cell", "told"] ["purse"] (defScope s__law_right) := ⟨rfl, rfl, rfl, by decide +kernel, rfl, by decide +kernel, by decide +kernel⟩
theorem ok__law_right (T : Fa K mg r) : FnZ P w K mg base 10 r.a__law_right r.d__law_right ["purse"] f__law_right := .of T.fn__law_right sc__law_right fun cdv A outer s H W hg hr => (show DSs _ _ _ m__law_right from
  (dss_cons (ds_st sc__law_right.nd 1 (de_bin od_add de_int (de_call (md := [true, false]) (ok__law_draw T) T.mg__law_draw T.fn__law_draw.kp T.bd__law_draw hg (hr.mono (by decide)) (takes_of rfl rfl rfl rfl) (da_cons (de_v 0) (da_cons de_int da_nil))))) (dss_cons (ds_setComp (own := [("x", 3)]) rfl sc__law_right.nd rfl rfl rfl (di_range1 T.b_range (da_cons (de_bin od_sub (de_v 1) de_int) da_nil)) (blk_ok (N := ["purse", "size", "ways", "x", "odd", "at", "bad_ways", "cells", "spot", "bad", "none", "wrong", "asked", "due", "some", "pairs", "y", "cell", "told"]) (sc := defScope s__law_right)) (fun _ _ _ _ _ => (pgn sc__law_right.nd 3)) (comp_name (by decide)) (fun _ _ _ _ _ => dts_nil) (fun _ _ _ _ _ => (de_tup (da_cons (de_v 3) (da_cons (de_bin od_add (de_v 3) de_int) da_nil))))) (dss_cons (ds_st sc__law_right.nd 4 (de_lst (da_cons de_non (da_cons (de_tup (da_cons de_int da_nil)) (da_cons (de_tup (da_cons de_int (da_cons de_int da_nil))) (da_cons (de_tup (da_cons de_int (da_cons (de_v 1) da_nil))) (da_cons (de_tup (da_cons (de_neg de_int) (da_cons de_int da_nil))) (da_cons (de_tup (da_cons de_int (da_cons de_bl da_nil))) (da_cons (de_lst (da_cons de_int (da_cons de_int da_nil))) (da_cons de_str (da_cons (de_tup (da_cons de_int (da_cons de_int (da_cons de_int da_nil)))) (da_cons (de_tup (da_cons de_str (da_cons de_int da_nil))) (da_cons de_int (da_cons (de_tup (da_cons de_int (da_cons de_non da_nil))) da_nil)))))))))))))) (dss_cons (ds_st sc__law_right.nd 5 (de_call (md := [true, false]) (ok__law_draw T) T.mg__law_draw T.fn__law_draw.kp T.bd__law_draw hg (hr.mono (by decide)) (takes_of rfl rfl rfl rfl) (da_cons (de_v 0) (da_cons (de_bin od_add (de_callB cd_len T.b_len (da_cons (de_v 2) da_nil)) de_int) da_nil)))) (dss_cons (ds_st sc__law_right.nd 6 (de_bin od_add (de_bin od_add (de_bin od_add (de_cut (de_v 2) do_none (do_some (de_v 5))) (de_lst (da_cons (de_ix (de_v 4) (de_call (md := [true, false]) (ok__law_draw T) T.mg__law_draw T.fn__law_draw.kp T.bd__law_draw hg (hr.mono (by decide)) (takes_of rfl rfl rfl rfl) (da_cons (de_v 0) (da_cons de_int da_nil))) (fun _ _ => rfl)) da_nil))) (de_cut (de_v 2) (do_some (de_v 5)) do_none)) (de_lst (da_cons de_non da_nil)))) (dss_cons (ds_st sc__law_right.nd 7 (de_lrg1 rfl T.b_list T.b_range (de_v 1))) (dss_cons (ds_st sc__law_right.nd 8 (de_call (md := [true, false]) (ok__law_draw T) T.mg__law_draw T.fn__law_draw.kp T.bd__law_draw hg (hr.mono (by decide)) (takes_of rfl rfl rfl rfl) (da_cons (de_v 0) (da_cons (de_bin od_add (de_v 1) de_int) da_nil)))) (dss_cons (ds_st sc__law_right.nd 9 (de_bin od_add (de_bin od_add (de_bin od_add (de_cut (de_v 7) do_none (do_some (de_v 8))) (de_lst (da_cons (de_ix (de_lst (da_cons de_non (da_cons (de_neg de_int) (da_cons (de_v 1) (da_cons de_bl (da_cons de_str (da_cons (de_tup (da_cons de_int da_nil)) (da_cons (de_lst (da_cons de_int da_nil)) da_nil)))))))) (de_call (md := [true, false]) (ok__law_draw T) T.mg__law_draw T.fn__law_draw.kp T.bd__law_draw hg (hr.mono (by decide)) (takes_of rfl rfl rfl rfl) (da_cons (de_v 0) (da_cons de_int da_nil))) (fun _ _ => rfl)) da_nil))) (de_cut (de_v 7) (do_some (de_v 8)) do_none)) (de_lst (da_cons de_non da_nil)))) (dss_cons (ds_st sc__law_right.nd 10 (de_ix (de_lst (da_cons de_non (da_cons de_int (da_cons de_str (da_cons de_dic0 (da_cons de_bl da_nil)))))) (de_call (md := [true, false]) (ok__law_draw T) T.mg__law_draw T.fn__law_draw.kp T.bd__law_draw hg (hr.mono (by decide)) (takes_of rfl rfl rfl rfl) (da_cons (de_v 0) (da_cons de_int da_nil))) (fun _ _ => rfl))) (dss_cons (ds_st sc__law_right.nd 11 (de_ix (de_lst (da_cons de_int (da_cons (de_neg de_int) (da_cons de_non (da_cons de_bl (da_cons de_str (da_cons (de_tup (da_cons de_int da_nil)) da_nil))))))) (de_call (md := [true, false]) (ok__law_draw T) T.mg__law_draw T.fn__law_draw.kp T.bd__law_draw hg (hr.mono (by decide)) (takes_of rfl rfl rfl rfl) (da_cons (de_v 0) (da_cons de_int da_nil))) (fun _ _ => rfl))) (dss_cons (ds_st sc__law_right.nd 12 (de_lst (da_cons (de_lst (da_cons (de_v 11) (da_cons (de_v 6) (da_cons (de_v 9) (da_cons (de_v 9) da_nil))))) (da_cons (de_lst (da_cons (de_v 1) (da_cons (de_v 10) (da_cons (de_v 9) (da_cons (de_v 9) da_nil))))) (da_cons (de_lst (da_cons (de_v 1) (da_cons (de_v 6) (da_cons (de_v 10) (da_cons (de_v 9) da_nil))))) (da_cons (de_lst (da_cons (de_v 1) (da_cons (de_v 2) (da_cons (de_v 10) (da_cons (de_v 9) da_nil))))) da_nil)))))) (dss_cons (ds_st sc__law_right.nd 12 (de_bin od_add (de_v 12) (de_lst (da_cons (de_lst (da_cons (de_v 1) (da_cons (de_callT cd_tuple T.b_tuple (da_cons (de_v 6) da_nil)) (da_cons (de_v 9) (da_cons (de_v 9) da_nil))))) (da_cons (de_lst (da_cons (de_v 1) (da_cons (de_v 2) (da_cons (de_v 9) (da_cons (de_v 10) da_nil))))) (da_cons (de_lst (da_cons (de_v 1) (da_cons (de_v 2) (da_cons (de_callT cd_tuple T.b_tuple (da_cons (de_v 9) da_nil)) (da_cons (de_v 7) da_nil))))) da_nil)))))) (dss_cons (ds_st sc__law_right.nd 12 (de_bin od_add (de_v 12) (de_lst (da_cons (de_lst (da_cons (de_v 1) (da_cons (de_v 2) (da_cons (de_v 7) (da_cons (de_v 10) da_nil))))) (da_cons (de_lst (da_cons (de_v 1) (da_cons (de_tup da_nil) (da_cons (de_tup da_nil) (da_cons (de_v 9) da_nil))))) (da_cons (de_lst (da_cons (de_v 1) (da_cons (de_v 2) (da_cons (de_callT cd_tuple T.b_tuple (da_cons (de_v 7) da_nil)) (da_cons (de_v 7) da_nil))))) da_nil)))))) (dss_cons (ds_st sc__law_right.nd 13 (de_lst (da_cons (de_lst (da_cons de_str (da_cons (de_v 11) da_nil))) (da_cons (de_lst (da_cons de_str (da_cons de_non da_nil))) (da_cons (de_lst (da_cons de_str (da_cons (de_v 5) da_nil))) (da_cons (de_lst (da_cons de_str (da_cons de_non da_nil))) (da_cons (de_lst (da_cons de_str (da_cons (de_v 5) da_nil))) (da_cons (de_lst (da_cons de_str (da_cons (de_v 8) da_nil))) da_nil)))))))) (dss_cons (ds_st sc__law_right.nd 13 (de_bin od_add (de_v 13) (de_lst (da_cons (de_lst (da_cons de_str (da_cons (de_v 8) da_nil))) (da_cons (de_lst (da_cons de_str (da_cons de_non da_nil))) (da_cons (de_lst (da_cons de_str (da_cons (de_v 8) da_nil))) (da_cons de_non da_nil))))))) (dss_cons (ds_if (dt_cp (od_ne hr.units) (de_callT (cd_str hg hr.units) T.b_str (da_cons (de_comp (own := [("some", 14)]) rfl sc__law_right.nd (di_seq (de_v 12)) (blk_ok (N := ["purse", "size", "ways", "x", "odd", "at", "bad_ways", "cells", "spot", "bad", "none", "wrong", "asked", "due", "some", "pairs", "y", "cell", "told"]) (sc := defScope s__law_right)) (fun _ _ _ _ _ => (pgn sc__law_right.nd 14)) (comp_name (by decide)) (fun _ _ _ _ _ => dts_nil) (fun _ _ _ _ _ => (de_call (md := [false, false]) (ok__law_caught T) T.mg__law_caught T.fn__law_caught.kp T.bd__law_caught hg (hr.mono (by decide)) takes_none5 (da_cons de_int (da_cons (de_v 14) da_nil))))) da_nil)) (de_callT (cd_str hg hr.units) T.b_str (da_cons (de_v 13) da_nil))) (dss_one (ds_ret de_bl)) dss_nil) (dss_cons (ds_st sc__law_right.nd 15 (de_lst (da_cons (de_tup (da_cons de_int (da_cons de_int da_nil))) (da_cons (de_tup (da_cons de_int (da_cons de_int da_nil))) (da_cons (de_tup (da_cons de_int (da_cons de_int da_nil))) (da_cons (de_tup (da_cons de_non (da_cons de_int da_nil))) (da_cons (de_tup (da_cons de_int (da_cons de_bl da_nil))) (da_cons (de_tup (da_cons (de_neg de_int) (da_cons de_int da_nil))) (da_cons (de_tup (da_cons de_str (da_cons de_int da_nil))) (da_cons (de_tup (da_cons de_int (da_cons de_int da_nil))) (da_cons (de_tup (da_cons de_bl (da_cons de_int da_nil))) da_nil))))))))))) (dss_cons (ds_asg (de_ix (de_v 15) (de_call (md := [true, false]) (ok__law_draw T) T.mg__law_draw T.fn__law_draw.kp T.bd__law_draw hg (hr.mono (by decide)) (takes_of rfl rfl rfl rfl) (da_cons (de_v 0) (da_cons de_int da_nil))) (fun _ _ => rfl)) (dg_tup rfl (dgs_cons (pgn sc__law_right.nd 3) keeps_name (dgs_cons (pgn sc__law_right.nd 16) keeps_name dgs_nil)))) (dss_cons (ds_st sc__law_right.nd 17 (de_ix (de_lst (da_cons de_int (da_cons (de_neg de_int) (da_cons de_int (da_cons de_non (da_cons de_bl (da_cons de_str (da_cons (de_tup (da_cons de_int da_nil)) (da_cons (de_lst da_nil) da_nil))))))))) (de_call (md := [true, false]) (ok__law_draw T) T.mg__law_draw T.fn__law_draw.kp T.bd__law_draw hg (hr.mono (by decide)) (takes_of rfl rfl rfl rfl) (da_cons (de_v 0) (da_cons de_int da_nil))) (fun _ _ => rfl))) (dss_cons (ds_st sc__law_right.nd 18 (de_lst (da_cons (de_call (md := [false, false]) (ok__law_caught T) T.mg__law_caught T.fn__law_caught.kp T.bd__law_caught hg (hr.mono (by decide)) (takes_of rfl rfl rfl rfl) (da_cons de_int (da_cons (de_lst (da_cons (de_v 3) (da_cons (de_v 16) da_nil))) da_nil))) (da_cons (de_call (md := [false, false]) (ok__law_caught T) T.mg__law_caught T.fn__law_caught.kp T.bd__law_caught hg (hr.mono (by decide)) (takes_of rfl rfl rfl rfl) (da_cons de_int (da_cons (de_lst (da_cons (de_v 17) da_nil)) da_nil))) (da_cons (de_call (md := [false, false]) (ok__law_caught T) T.mg__law_caught T.fn__law_caught.kp T.bd__law_caught hg (hr.mono (by decide)) (takes_of rfl rfl rfl rfl) (da_cons de_int (da_cons (de_lst (da_cons (de_v 17) da_nil)) da_nil))) da_nil))))) (dss_cons (ds_if (dt_cp (od_ne hr.units) (de_callT (cd_str hg hr.units) T.b_str (da_cons (de_v 18) da_nil)) (de_callT (cd_str hg hr.units) T.b_str (da_cons (de_lst (da_cons (de_lst (da_cons de_str (da_cons (de_v 3) (da_cons (de_v 16) da_nil)))) (da_cons (de_lst (da_cons de_str (da_cons (de_v 17) da_nil))) (da_cons (de_lst (da_cons de_str (da_cons (de_v 17) da_nil))) da_nil)))) da_nil))) (dss_one (ds_ret de_bl)) dss_nil) (dss_cons (ds_st sc__law_right.nd 18 (de_lst (da_cons (de_call (md := [false, false]) (ok__law_caught T) T.mg__law_caught T.fn__law_caught.kp T.bd__law_caught hg (hr.mono (by decide)) (takes_of rfl rfl rfl rfl) (da_cons de_int (da_cons (de_lst (da_cons de_int (da_cons de_int da_nil))) da_nil))) (da_cons (de_call (md := [false, false]) (ok__law_caught T) T.mg__law_caught T.fn__law_caught.kp T.bd__law_caught hg (hr.mono (by decide)) (takes_of rfl rfl rfl rfl) (da_cons de_int (da_cons (de_lst (da_cons de_int da_nil)) da_nil))) (da_cons (de_call (md := [false, false]) (ok__law_caught T) T.mg__law_caught T.fn__law_caught.kp T.bd__law_caught hg (hr.mono (by decide)) (takes_of rfl rfl rfl rfl) (da_cons de_int (da_cons (de_lst (da_cons de_int da_nil)) da_nil))) (da_cons (de_call (md := [false, false]) (ok__law_caught T) T.mg__law_caught T.fn__law_caught.kp T.bd__law_caught hg (hr.mono (by decide)) (takes_of rfl rfl rfl rfl) (da_cons de_int (da_cons (de_lst (da_cons de_int da_nil)) da_nil))) (da_cons (de_call (md := [false, false]) (ok__law_caught T) T.mg__law_caught T.fn__law_caught.kp T.bd__law_caught hg (hr.mono (by decide)) (takes_of rfl rfl rfl rfl) (da_cons de_int (da_cons (de_lst (da_cons de_int da_nil)) da_nil))) da_nil))))))) (dss_one (ds_ret (de_cp (od_eq hr.units) (de_v 18) (de_lst (da_cons de_non (da_cons de_non (da_cons de_non (da_cons (de_lst (da_cons de_str (da_cons de_int da_nil))) (da_cons (de_lst (da_cons de_str (da_cons de_int da_nil))) da_nil))))))))))))))))))))))))))))))))
theorem sc_law : FnScope ["script", "at", "purse", "turn"] ["script"] (defScope s_law) := ⟨rfl, rfl, rfl, by decide +kernel, rfl, by decide +kernel, by decide +kernel⟩
theorem ok_law (T : Fa K mg r) : FnZ P w K mg base 11 r.a_law r.d_law ["script"] f_law := .of T.fn_law sc_law fun cdv A outer s H W hg hr => (show DSs _ _ _ m_law from
  (dss_cons (ds_for (passes_of rfl) rfl (di_range1 T.b_range (da_cons (de_bin od_add de_int (de_callB (cd_min rfl) T.b_min (da_cons de_int (da_cons (de_callB cd_len T.b_len (da_cons (de_v 0) da_nil)) da_nil)))) da_nil)) (dg_name (pgn sc_law.nd 1)) (dss_cons (ds_st sc_law.nd 2 (de_call (md := [false, false]) (ok__law_purse T) T.mg__law_purse T.fn__law_purse.kp T.bd__law_purse hg (hr.mono (by decide)) (takes_of rfl rfl rfl rfl) (da_cons (de_v 0) (da_cons (de_v 1) da_nil)))) (dss_one (ds_for (passes_of rfl) rfl (di_range1 T.b_range (da_cons de_int da_nil)) (dg_name (pgn sc_law.nd 3)) (dss_one (ds_if (dt_not (dt_val (de_call (md := [true]) (ok__law_right T) T.mg__law_right T.fn__law_right.kp T.bd__law_right hg (hr.mono (by decide)) (takes_of rfl rfl rfl rfl) (da_cons (de_v 2) da_nil)))) (dss_one (ds_ret de_bl)) dss_nil)))))) (dss_one (ds_ret (de_cp od_is (de_call (md := [false, false]) (ok__law_caught T) T.mg__law_caught T.fn__law_caught.kp T.bd__law_caught hg (hr.mono (by decide)) (takes_of rfl rfl rfl rfl) (da_cons de_int (da_cons (de_lst (da_cons de_int (da_cons (de_lst da_nil) (da_cons (de_lst da_nil) (da_cons (de_lst da_nil) da_nil))))) da_nil))) de_non)))))
end
/-! the head -/
theorem all_mk {l : PySem.W.OpenLaw} {w : World} {K : PySem.W.Frag} {h : Heap} {mg : Str → Option Value} {fa : Addr} (X : K.In h) (G : h.Ns mainGlobals mg) (hfa : mg "law" = some (.ref fa))
    {a__law_purse a_is_number a_is_cell a_is_road a_checked_roads a_checked_cells a_Yard_init a_Yard_without_road a_Yard_without_entry a_Yard_without_exit a__law_asked a__law_caught a__law_mixed a__law_draw a__law_right a_law C_Yard C_YardError C_InvalidNumber C_InvalidRoads C_InvalidCells C_NoRoad C_NoCell i_InvalidNumber i_InvalidRoads i_InvalidCells i_NoRoad i_NoCell : Addr}
    {oc__law_purse : Value}
    {kV__law_purse : Value}
    {dc__law_purse : Value}
    {pm__law_purse : Value}
    {cd__law_purse : Value}
    {ct__law_purse : Value}
    {od__law_purse : Option Addr}
    {an__law_purse : Option Addr}
    {sl__law_purse : Array (Option Value)}
    {oc_is_number : Value}
    {kV_is_number : Value}
    {dc_is_number : Value}
    {pm_is_number : Value}
    {cd_is_number : Value}
    {ct_is_number : Value}
    {od_is_number : Option Addr}
    {an_is_number : Option Addr}
    {sl_is_number : Array (Option Value)}
    {oc_is_cell : Value}
    {kV_is_cell : Value}
    {dc_is_cell : Value}
    {pm_is_cell : Value}
    {cd_is_cell : Value}
    {ct_is_cell : Value}
    {od_is_cell : Option Addr}
    {an_is_cell : Option Addr}
    {sl_is_cell : Array (Option Value)}
    {oc_is_road : Value}
    {kV_is_road : Value}
    {dc_is_road : Value}
    {pm_is_road : Value}
    {cd_is_road : Value}
    {ct_is_road : Value}
    {od_is_road : Option Addr}
    {an_is_road : Option Addr}
    {sl_is_road : Array (Option Value)}
    {oc_checked_roads : Value}
    {kV_checked_roads : Value}
    {dc_checked_roads : Value}
    {pm_checked_roads : Value}
    {cd_checked_roads : Value}
    {ct_checked_roads : Value}
    {od_checked_roads : Option Addr}
    {an_checked_roads : Option Addr}
    {sl_checked_roads : Array (Option Value)}
    {oc_checked_cells : Value}
    {kV_checked_cells : Value}
    {dc_checked_cells : Value}
    {pm_checked_cells : Value}
    {cd_checked_cells : Value}
    {ct_checked_cells : Value}
    {od_checked_cells : Option Addr}
    {an_checked_cells : Option Addr}
    {sl_checked_cells : Array (Option Value)}
    {oc_Yard_init : Value}
    {kV_Yard_init : Value}
    {dc_Yard_init : Value}
    {pm_Yard_init : Value}
    {cd_Yard_init : Value}
    {ct_Yard_init : Value}
    {od_Yard_init : Option Addr}
    {an_Yard_init : Option Addr}
    {sl_Yard_init : Array (Option Value)}
    {oc_Yard_without_road : Value}
    {kV_Yard_without_road : Value}
    {dc_Yard_without_road : Value}
    {pm_Yard_without_road : Value}
    {cd_Yard_without_road : Value}
    {ct_Yard_without_road : Value}
    {od_Yard_without_road : Option Addr}
    {an_Yard_without_road : Option Addr}
    {sl_Yard_without_road : Array (Option Value)}
    {oc_Yard_without_entry : Value}
    {kV_Yard_without_entry : Value}
    {dc_Yard_without_entry : Value}
    {pm_Yard_without_entry : Value}
    {cd_Yard_without_entry : Value}
    {ct_Yard_without_entry : Value}
    {od_Yard_without_entry : Option Addr}
    {an_Yard_without_entry : Option Addr}
    {sl_Yard_without_entry : Array (Option Value)}
    {oc_Yard_without_exit : Value}
    {kV_Yard_without_exit : Value}
    {dc_Yard_without_exit : Value}
    {pm_Yard_without_exit : Value}
    {cd_Yard_without_exit : Value}
    {ct_Yard_without_exit : Value}
    {od_Yard_without_exit : Option Addr}
    {an_Yard_without_exit : Option Addr}
    {sl_Yard_without_exit : Array (Option Value)}
    {oc__law_asked : Value}
    {kV__law_asked : Value}
    {dc__law_asked : Value}
    {pm__law_asked : Value}
    {cd__law_asked : Value}
    {ct__law_asked : Value}
    {od__law_asked : Option Addr}
    {an__law_asked : Option Addr}
    {sl__law_asked : Array (Option Value)}
    {oc__law_caught : Value}
    {kV__law_caught : Value}
    {dc__law_caught : Value}
    {pm__law_caught : Value}
    {cd__law_caught : Value}
    {ct__law_caught : Value}
    {od__law_caught : Option Addr}
    {an__law_caught : Option Addr}
    {sl__law_caught : Array (Option Value)}
    {oc__law_mixed : Value}
    {kV__law_mixed : Value}
    {dc__law_mixed : Value}
    {pm__law_mixed : Value}
    {cd__law_mixed : Value}
    {ct__law_mixed : Value}
    {od__law_mixed : Option Addr}
    {an__law_mixed : Option Addr}
    {sl__law_mixed : Array (Option Value)}
    {oc__law_draw : Value}
    {kV__law_draw : Value}
    {dc__law_draw : Value}
    {pm__law_draw : Value}
    {cd__law_draw : Value}
    {ct__law_draw : Value}
    {od__law_draw : Option Addr}
    {an__law_draw : Option Addr}
    {sl__law_draw : Array (Option Value)}
    {oc__law_right : Value}
    {kV__law_right : Value}
    {dc__law_right : Value}
    {pm__law_right : Value}
    {cd__law_right : Value}
    {ct__law_right : Value}
    {od__law_right : Option Addr}
    {an__law_right : Option Addr}
    {sl__law_right : Array (Option Value)}
    {oc_law : Value}
    {kV_law : Value}
    {dc_law : Value}
    {pm_law : Value}
    {cd_law : Value}
    {ct_law : Value}
    {od_law : Option Addr}
    {an_law : Option Addr}
    {sl_law : Array (Option Value)}
    {nm_InvalidNumber : Str}
    {qq_InvalidNumber : Str}
    {NN_InvalidNumber : Addr}
    {bs_InvalidNumber : List Value}
    {bm_InvalidNumber : List Value}
    {sn_InvalidNumber : List Str}
    {sub_InvalidNumber : List Value}
    {ab_InvalidNumber : Bool}
    {col_InvalidNumber : Option Bool}
    {dd_InvalidNumber : Option Addr}
    {k0_InvalidNumber : Option Value}
    {k1_InvalidNumber : Option Value}
    {k2_InvalidNumber : Option Value}
    {k3_InvalidNumber : Option Value}
    {k5_InvalidNumber : Option Value}
    {nm_InvalidRoads : Str}
    {qq_InvalidRoads : Str}
    {NN_InvalidRoads : Addr}
    {bs_InvalidRoads : List Value}
    {bm_InvalidRoads : List Value}
    {sn_InvalidRoads : List Str}
    {sub_InvalidRoads : List Value}
    {ab_InvalidRoads : Bool}
    {col_InvalidRoads : Option Bool}
    {dd_InvalidRoads : Option Addr}
    {k0_InvalidRoads : Option Value}
    {k1_InvalidRoads : Option Value}
    {k2_InvalidRoads : Option Value}
    {k3_InvalidRoads : Option Value}
    {k5_InvalidRoads : Option Value}
    {nm_InvalidCells : Str}
    {qq_InvalidCells : Str}
    {NN_InvalidCells : Addr}
    {bs_InvalidCells : List Value}
    {bm_InvalidCells : List Value}
    {sn_InvalidCells : List Str}
    {sub_InvalidCells : List Value}
    {ab_InvalidCells : Bool}
    {col_InvalidCells : Option Bool}
    {dd_InvalidCells : Option Addr}
    {k0_InvalidCells : Option Value}
    {k1_InvalidCells : Option Value}
    {k2_InvalidCells : Option Value}
    {k3_InvalidCells : Option Value}
    {k5_InvalidCells : Option Value}
    {nm_NoRoad : Str}
    {qq_NoRoad : Str}
    {NN_NoRoad : Addr}
    {bs_NoRoad : List Value}
    {bm_NoRoad : List Value}
    {sn_NoRoad : List Str}
    {sub_NoRoad : List Value}
    {ab_NoRoad : Bool}
    {col_NoRoad : Option Bool}
    {dd_NoRoad : Option Addr}
    {k0_NoRoad : Option Value}
    {k1_NoRoad : Option Value}
    {k2_NoRoad : Option Value}
    {k3_NoRoad : Option Value}
    {k5_NoRoad : Option Value}
    {nm_NoCell : Str}
    {qq_NoCell : Str}
    {NN_NoCell : Addr}
    {bs_NoCell : List Value}
    {bm_NoCell : List Value}
    {sn_NoCell : List Str}
    {sub_NoCell : List Value}
    {ab_NoCell : Bool}
    {col_NoCell : Option Bool}
    {dd_NoCell : Option Addr}
    {k0_NoCell : Option Value}
    {k1_NoCell : Option Value}
    {k2_NoCell : Option Value}
    {k3_NoCell : Option Value}
    {k5_NoCell : Option Value}
    {oc_i_InvalidNumber : Value}
    {kV_i_InvalidNumber : Value}
    {dc_i_InvalidNumber : Value}
    {pm_i_InvalidNumber : Value}
    {cd_i_InvalidNumber : Value}
    {ct_i_InvalidNumber : Value}
    {od_i_InvalidNumber : Option Addr}
    {an_i_InvalidNumber : Option Addr}
    {sl_i_InvalidNumber : Array (Option Value)}
    {oc_i_InvalidRoads : Value}
    {kV_i_InvalidRoads : Value}
    {dc_i_InvalidRoads : Value}
    {pm_i_InvalidRoads : Value}
    {cd_i_InvalidRoads : Value}
    {ct_i_InvalidRoads : Value}
    {od_i_InvalidRoads : Option Addr}
    {an_i_InvalidRoads : Option Addr}
    {sl_i_InvalidRoads : Array (Option Value)}
    {oc_i_InvalidCells : Value}
    {kV_i_InvalidCells : Value}
    {dc_i_InvalidCells : Value}
    {pm_i_InvalidCells : Value}
    {cd_i_InvalidCells : Value}
    {ct_i_InvalidCells : Value}
    {od_i_InvalidCells : Option Addr}
    {an_i_InvalidCells : Option Addr}
    {sl_i_InvalidCells : Array (Option Value)}
    {oc_i_NoRoad : Value}
    {kV_i_NoRoad : Value}
    {dc_i_NoRoad : Value}
    {pm_i_NoRoad : Value}
    {cd_i_NoRoad : Value}
    {ct_i_NoRoad : Value}
    {od_i_NoRoad : Option Addr}
    {an_i_NoRoad : Option Addr}
    {sl_i_NoRoad : Array (Option Value)}
    {oc_i_NoCell : Value}
    {kV_i_NoCell : Value}
    {dc_i_NoCell : Value}
    {pm_i_NoCell : Value}
    {cd_i_NoCell : Value}
    {ct_i_NoCell : Value}
    {od_i_NoCell : Option Addr}
    {an_i_NoCell : Option Addr}
    {sl_i_NoCell : Array (Option Value)}
    (z_set : PySem.W.nsIn K mainGlobals "set" = some none)
    (z_len : PySem.W.nsIn K mainGlobals "len" = some none)
    (z_int : PySem.W.nsIn K mainGlobals "int" = some none)
    (z_max : PySem.W.nsIn K mainGlobals "max" = some none)
    (z_min : PySem.W.nsIn K mainGlobals "min" = some none)
    (z_all : PySem.W.nsIn K mainGlobals "all" = some none)
    (z_sum : PySem.W.nsIn K mainGlobals "sum" = some none)
    (z_sorted : PySem.W.nsIn K mainGlobals "sorted" = some none)
    (z_list : PySem.W.nsIn K mainGlobals "list" = some none)
    (z_tuple : PySem.W.nsIn K mainGlobals "tuple" = some none)
    (z_str : PySem.W.nsIn K mainGlobals "str" = some none)
    (z_isinstance : PySem.W.nsIn K mainGlobals "isinstance" = some none)
    (z_range : PySem.W.nsIn K mainGlobals "range" = some none)
    (z_enumerate : PySem.W.nsIn K mainGlobals "enumerate" = some none)
    (z_bool : PySem.W.nsIn K mainGlobals "bool" = some none)
    (z_dict : PySem.W.nsIn K mainGlobals "dict" = some none)
    (n__law_purse : PySem.W.nsIn K mainGlobals "_law_purse" = some (some (.ref a__law_purse)))
    (l__law_purse : K.lookup a__law_purse = some ⟨oc__law_purse, od__law_purse, .func (PySem.W.fnOf "_law_purse" "_law_purse" (defArgs s__law_purse) (defBody s__law_purse) (defScope s__law_purse) .none kV__law_purse dc__law_purse pm__law_purse an__law_purse cd__law_purse ct__law_purse), sl__law_purse⟩)
    (c__law_purse : PySem.W.codeIn K cd__law_purse "_law_purse" = true)
    (k__law_purse : PySem.W.keepIn K (.ref a__law_purse) = true)
    (n_is_number : PySem.W.nsIn K mainGlobals "is_number" = some (some (.ref a_is_number)))
    (l_is_number : K.lookup a_is_number = some ⟨oc_is_number, od_is_number, .func (PySem.W.fnOf "is_number" "is_number" (defArgs s_is_number) (defBody s_is_number) (defScope s_is_number) .none kV_is_number dc_is_number pm_is_number an_is_number cd_is_number ct_is_number), sl_is_number⟩)
    (c_is_number : PySem.W.codeIn K cd_is_number "is_number" = true)
    (k_is_number : PySem.W.keepIn K (.ref a_is_number) = true)
    (n_is_cell : PySem.W.nsIn K mainGlobals "is_cell" = some (some (.ref a_is_cell)))
    (l_is_cell : K.lookup a_is_cell = some ⟨oc_is_cell, od_is_cell, .func (PySem.W.fnOf "is_cell" "is_cell" (defArgs s_is_cell) (defBody s_is_cell) (defScope s_is_cell) .none kV_is_cell dc_is_cell pm_is_cell an_is_cell cd_is_cell ct_is_cell), sl_is_cell⟩)
    (c_is_cell : PySem.W.codeIn K cd_is_cell "is_cell" = true)
    (k_is_cell : PySem.W.keepIn K (.ref a_is_cell) = true)
    (n_is_road : PySem.W.nsIn K mainGlobals "is_road" = some (some (.ref a_is_road)))
    (l_is_road : K.lookup a_is_road = some ⟨oc_is_road, od_is_road, .func (PySem.W.fnOf "is_road" "is_road" (defArgs s_is_road) (defBody s_is_road) (defScope s_is_road) .none kV_is_road dc_is_road pm_is_road an_is_road cd_is_road ct_is_road), sl_is_road⟩)
    (c_is_road : PySem.W.codeIn K cd_is_road "is_road" = true)
    (k_is_road : PySem.W.keepIn K (.ref a_is_road) = true)
    (n_checked_roads : PySem.W.nsIn K mainGlobals "checked_roads" = some (some (.ref a_checked_roads)))
    (l_checked_roads : K.lookup a_checked_roads = some ⟨oc_checked_roads, od_checked_roads, .func (PySem.W.fnOf "checked_roads" "checked_roads" (defArgs s_checked_roads) (defBody s_checked_roads) (defScope s_checked_roads) .none kV_checked_roads dc_checked_roads pm_checked_roads an_checked_roads cd_checked_roads ct_checked_roads), sl_checked_roads⟩)
    (c_checked_roads : PySem.W.codeIn K cd_checked_roads "checked_roads" = true)
    (k_checked_roads : PySem.W.keepIn K (.ref a_checked_roads) = true)
    (n_checked_cells : PySem.W.nsIn K mainGlobals "checked_cells" = some (some (.ref a_checked_cells)))
    (l_checked_cells : K.lookup a_checked_cells = some ⟨oc_checked_cells, od_checked_cells, .func (PySem.W.fnOf "checked_cells" "checked_cells" (defArgs s_checked_cells) (defBody s_checked_cells) (defScope s_checked_cells) .none kV_checked_cells dc_checked_cells pm_checked_cells an_checked_cells cd_checked_cells ct_checked_cells), sl_checked_cells⟩)
    (c_checked_cells : PySem.W.codeIn K cd_checked_cells "checked_cells" = true)
    (k_checked_cells : PySem.W.keepIn K (.ref a_checked_cells) = true)
    (l_Yard_init : K.lookup a_Yard_init = some ⟨oc_Yard_init, od_Yard_init, .func (PySem.W.fnOf "__init__" "Yard.__init__" (defArgs s_Yard_init) (defBody s_Yard_init) (defScope s_Yard_init) .none kV_Yard_init dc_Yard_init pm_Yard_init an_Yard_init cd_Yard_init ct_Yard_init), sl_Yard_init⟩)
    (c_Yard_init : PySem.W.codeIn K cd_Yard_init "Yard.__init__" = true)
    (k_Yard_init : PySem.W.keepIn K (.ref a_Yard_init) = true)
    (l_Yard_without_road : K.lookup a_Yard_without_road = some ⟨oc_Yard_without_road, od_Yard_without_road, .func (PySem.W.fnOf "without_road" "Yard.without_road" (defArgs s_Yard_without_road) (defBody s_Yard_without_road) (defScope s_Yard_without_road) .none kV_Yard_without_road dc_Yard_without_road pm_Yard_without_road an_Yard_without_road cd_Yard_without_road ct_Yard_without_road), sl_Yard_without_road⟩)
    (c_Yard_without_road : PySem.W.codeIn K cd_Yard_without_road "Yard.without_road" = true)
    (k_Yard_without_road : PySem.W.keepIn K (.ref a_Yard_without_road) = true)
    (l_Yard_without_entry : K.lookup a_Yard_without_entry = some ⟨oc_Yard_without_entry, od_Yard_without_entry, .func (PySem.W.fnOf "without_entry" "Yard.without_entry" (defArgs s_Yard_without_entry) (defBody s_Yard_without_entry) (defScope s_Yard_without_entry) .none kV_Yard_without_entry dc_Yard_without_entry pm_Yard_without_entry an_Yard_without_entry cd_Yard_without_entry ct_Yard_without_entry), sl_Yard_without_entry⟩)
    (c_Yard_without_entry : PySem.W.codeIn K cd_Yard_without_entry "Yard.without_entry" = true)
    (k_Yard_without_entry : PySem.W.keepIn K (.ref a_Yard_without_entry) = true)
    (l_Yard_without_exit : K.lookup a_Yard_without_exit = some ⟨oc_Yard_without_exit, od_Yard_without_exit, .func (PySem.W.fnOf "without_exit" "Yard.without_exit" (defArgs s_Yard_without_exit) (defBody s_Yard_without_exit) (defScope s_Yard_without_exit) .none kV_Yard_without_exit dc_Yard_without_exit pm_Yard_without_exit an_Yard_without_exit cd_Yard_without_exit ct_Yard_without_exit), sl_Yard_without_exit⟩)
    (c_Yard_without_exit : PySem.W.codeIn K cd_Yard_without_exit "Yard.without_exit" = true)
    (k_Yard_without_exit : PySem.W.keepIn K (.ref a_Yard_without_exit) = true)
    (n__law_asked : PySem.W.nsIn K mainGlobals "_law_asked" = some (some (.ref a__law_asked)))
    (l__law_asked : K.lookup a__law_asked = some ⟨oc__law_asked, od__law_asked, .func (PySem.W.fnOf "_law_asked" "_law_asked" (defArgs s__law_asked) (defBody s__law_asked) (defScope s__law_asked) .none kV__law_asked dc__law_asked pm__law_asked an__law_asked cd__law_asked ct__law_asked), sl__law_asked⟩)
    (c__law_asked : PySem.W.codeIn K cd__law_asked "_law_asked" = true)
    (k__law_asked : PySem.W.keepIn K (.ref a__law_asked) = true)
    (n__law_caught : PySem.W.nsIn K mainGlobals "_law_caught" = some (some (.ref a__law_caught)))
    (l__law_caught : K.lookup a__law_caught = some ⟨oc__law_caught, od__law_caught, .func (PySem.W.fnOf "_law_caught" "_law_caught" (defArgs s__law_caught) (defBody s__law_caught) (defScope s__law_caught) .none kV__law_caught dc__law_caught pm__law_caught an__law_caught cd__law_caught ct__law_caught), sl__law_caught⟩)
    (c__law_caught : PySem.W.codeIn K cd__law_caught "_law_caught" = true)
    (k__law_caught : PySem.W.keepIn K (.ref a__law_caught) = true)
    (n__law_mixed : PySem.W.nsIn K mainGlobals "_law_mixed" = some (some (.ref a__law_mixed)))
    (l__law_mixed : K.lookup a__law_mixed = some ⟨oc__law_mixed, od__law_mixed, .func (PySem.W.fnOf "_law_mixed" "_law_mixed" (defArgs s__law_mixed) (defBody s__law_mixed) (defScope s__law_mixed) .none kV__law_mixed dc__law_mixed pm__law_mixed an__law_mixed cd__law_mixed ct__law_mixed), sl__law_mixed⟩)
    (c__law_mixed : PySem.W.codeIn K cd__law_mixed "_law_mixed" = true)
    (k__law_mixed : PySem.W.keepIn K (.ref a__law_mixed) = true)
    (n__law_draw : PySem.W.nsIn K mainGlobals "_law_draw" = some (some (.ref a__law_draw)))
    (l__law_draw : K.lookup a__law_draw = some ⟨oc__law_draw, od__law_draw, .func (PySem.W.fnOf "_law_draw" "_law_draw" (defArgs s__law_draw) (defBody s__law_draw) (defScope s__law_draw) .none kV__law_draw dc__law_draw pm__law_draw an__law_draw cd__law_draw ct__law_draw), sl__law_draw⟩)
    (c__law_draw : PySem.W.codeIn K cd__law_draw "_law_draw" = true)
    (k__law_draw : PySem.W.keepIn K (.ref a__law_draw) = true)
    (n__law_right : PySem.W.nsIn K mainGlobals "_law_right" = some (some (.ref a__law_right)))
    (l__law_right : K.lookup a__law_right = some ⟨oc__law_right, od__law_right, .func (PySem.W.fnOf "_law_right" "_law_right" (defArgs s__law_right) (defBody s__law_right) (defScope s__law_right) .none kV__law_right dc__law_right pm__law_right an__law_right cd__law_right ct__law_right), sl__law_right⟩)
    (c__law_right : PySem.W.codeIn K cd__law_right "_law_right" = true)
    (k__law_right : PySem.W.keepIn K (.ref a__law_right) = true)
    (n_law : PySem.W.nsIn K mainGlobals "law" = some (some (.ref a_law)))
    (l_law : K.lookup a_law = some ⟨oc_law, od_law, .func (PySem.W.fnOf "law" "law" (defArgs s_law) (defBody s_law) (defScope s_law) .none kV_law dc_law pm_law an_law cd_law ct_law), sl_law⟩)
    (c_law : PySem.W.codeIn K cd_law "law" = true)
    (k_law : PySem.W.keepIn K (.ref a_law) = true)
    (nC_Yard : PySem.W.nsIn K mainGlobals "Yard" = some (some (.ref C_Yard)))
    (pg_Yard : PySem.W.plainGet K C_Yard Str.empty = true)
    (hd_Yard : PySem.W.hasDictIn K C_Yard = true)
    (po_Yard : PySem.W.plainOver K C_Yard = true)
    (sa_Yard : PySem.W.findIn K (.ref C_Yard) "__setattr__" = some (some (.builtin "object.__setattr__")))
    (ms_Yard : PySem.W.makesIn K C_Yard = true)
    (mi_Yard : PySem.W.findIn K (.ref C_Yard) "__init__" = some (some (.ref a_Yard_init)))
    (mf_Yard : PySem.W.isFn K (.ref a_Yard_init) = true)
    (mp_Yard : PySem.W.keepIn K (.ref C_Yard) = true)
    (mt_Yard_without_entry : PySem.W.findIn K (.ref C_Yard) "without_entry" = some (some (.ref a_Yard_without_entry)))
    (mn_Yard_without_entry : PySem.W.isFn K (.ref a_Yard_without_entry) = true)
    (mt_Yard_without_exit : PySem.W.findIn K (.ref C_Yard) "without_exit" = some (some (.ref a_Yard_without_exit)))
    (mn_Yard_without_exit : PySem.W.isFn K (.ref a_Yard_without_exit) = true)
    (mt_Yard_without_road : PySem.W.findIn K (.ref C_Yard) "without_road" = some (some (.ref a_Yard_without_road)))
    (mn_Yard_without_road : PySem.W.isFn K (.ref a_Yard_without_road) = true)
    (no_Yard_cells : PySem.W.findIn K (.ref C_Yard) "cells" = some none)
    (no_Yard_entries : PySem.W.findIn K (.ref C_Yard) "entries" = some none)
    (no_Yard_exits : PySem.W.findIn K (.ref C_Yard) "exits" = some none)
    (no_Yard_roads : PySem.W.findIn K (.ref C_Yard) "roads" = some none)
    (nC_YardError : PySem.W.nsIn K mainGlobals "YardError" = some (some (.ref C_YardError)))
    (nC_InvalidNumber : PySem.W.nsIn K mainGlobals "InvalidNumber" = some (some (.ref C_InvalidNumber)))
    (nf_InvalidNumber_thing : PySem.W.findIn K (.ref C_InvalidNumber) "thing" = some none)
    (ex_InvalidNumber : PySem.W.subIn K (.ref C_InvalidNumber) (.type "BaseException") = some true)
    (xl_InvalidNumber : K.lookup C_InvalidNumber = some (excClassObj nm_InvalidNumber qq_InvalidNumber C_InvalidNumber NN_InvalidNumber bs_InvalidNumber bm_InvalidNumber true sn_InvalidNumber sub_InvalidNumber ab_InvalidNumber col_InvalidNumber dd_InvalidNumber k0_InvalidNumber k1_InvalidNumber k2_InvalidNumber k3_InvalidNumber k5_InvalidNumber "ValueError.__new__"))
    (rv_InvalidNumber : PySem.HandSPX.refsVE bm_InvalidNumber = true)
    (sa_InvalidNumber : PySem.W.findIn K (.ref C_InvalidNumber) "__setattr__" = some (some (.builtin "object.__setattr__")))
    (ty_InvalidNumber : PySem.W.typeIn K (.ref C_InvalidNumber) = some (.type "type"))
    (kC_InvalidNumber : PySem.W.keepIn K (.ref C_InvalidNumber) = true)
    (ga_InvalidNumber : PySem.W.findIn K (.ref C_InvalidNumber) "__getattribute__" = some (some (.builtin "BaseException.__getattribute__")))
    (gg_InvalidNumber : PySem.W.findIn K (.ref C_InvalidNumber) "__getattr__" = some none)
    (hd_InvalidNumber : PySem.W.hasDictIn K C_InvalidNumber = true)
    (nC_InvalidRoads : PySem.W.nsIn K mainGlobals "InvalidRoads" = some (some (.ref C_InvalidRoads)))
    (nf_InvalidRoads_place : PySem.W.findIn K (.ref C_InvalidRoads) "place" = some none)
    (ex_InvalidRoads : PySem.W.subIn K (.ref C_InvalidRoads) (.type "BaseException") = some true)
    (xl_InvalidRoads : K.lookup C_InvalidRoads = some (excClassObj nm_InvalidRoads qq_InvalidRoads C_InvalidRoads NN_InvalidRoads bs_InvalidRoads bm_InvalidRoads true sn_InvalidRoads sub_InvalidRoads ab_InvalidRoads col_InvalidRoads dd_InvalidRoads k0_InvalidRoads k1_InvalidRoads k2_InvalidRoads k3_InvalidRoads k5_InvalidRoads "ValueError.__new__"))
    (rv_InvalidRoads : PySem.HandSPX.refsVE bm_InvalidRoads = true)
    (sa_InvalidRoads : PySem.W.findIn K (.ref C_InvalidRoads) "__setattr__" = some (some (.builtin "object.__setattr__")))
    (ty_InvalidRoads : PySem.W.typeIn K (.ref C_InvalidRoads) = some (.type "type"))
    (kC_InvalidRoads : PySem.W.keepIn K (.ref C_InvalidRoads) = true)
    (ga_InvalidRoads : PySem.W.findIn K (.ref C_InvalidRoads) "__getattribute__" = some (some (.builtin "BaseException.__getattribute__")))
    (gg_InvalidRoads : PySem.W.findIn K (.ref C_InvalidRoads) "__getattr__" = some none)
    (hd_InvalidRoads : PySem.W.hasDictIn K C_InvalidRoads = true)
    (nC_InvalidCells : PySem.W.nsIn K mainGlobals "InvalidCells" = some (some (.ref C_InvalidCells)))
    (nf_InvalidCells_place : PySem.W.findIn K (.ref C_InvalidCells) "place" = some none)
    (ex_InvalidCells : PySem.W.subIn K (.ref C_InvalidCells) (.type "BaseException") = some true)
    (xl_InvalidCells : K.lookup C_InvalidCells = some (excClassObj nm_InvalidCells qq_InvalidCells C_InvalidCells NN_InvalidCells bs_InvalidCells bm_InvalidCells true sn_InvalidCells sub_InvalidCells ab_InvalidCells col_InvalidCells dd_InvalidCells k0_InvalidCells k1_InvalidCells k2_InvalidCells k3_InvalidCells k5_InvalidCells "ValueError.__new__"))
    (rv_InvalidCells : PySem.HandSPX.refsVE bm_InvalidCells = true)
    (sa_InvalidCells : PySem.W.findIn K (.ref C_InvalidCells) "__setattr__" = some (some (.builtin "object.__setattr__")))
    (ty_InvalidCells : PySem.W.typeIn K (.ref C_InvalidCells) = some (.type "type"))
    (kC_InvalidCells : PySem.W.keepIn K (.ref C_InvalidCells) = true)
    (ga_InvalidCells : PySem.W.findIn K (.ref C_InvalidCells) "__getattribute__" = some (some (.builtin "BaseException.__getattribute__")))
    (gg_InvalidCells : PySem.W.findIn K (.ref C_InvalidCells) "__getattr__" = some none)
    (hd_InvalidCells : PySem.W.hasDictIn K C_InvalidCells = true)
    (nC_NoRoad : PySem.W.nsIn K mainGlobals "NoRoad" = some (some (.ref C_NoRoad)))
    (nf_NoRoad_x : PySem.W.findIn K (.ref C_NoRoad) "x" = some none)
    (nf_NoRoad_y : PySem.W.findIn K (.ref C_NoRoad) "y" = some none)
    (ex_NoRoad : PySem.W.subIn K (.ref C_NoRoad) (.type "BaseException") = some true)
    (xl_NoRoad : K.lookup C_NoRoad = some (excClassObj nm_NoRoad qq_NoRoad C_NoRoad NN_NoRoad bs_NoRoad bm_NoRoad true sn_NoRoad sub_NoRoad ab_NoRoad col_NoRoad dd_NoRoad k0_NoRoad k1_NoRoad k2_NoRoad k3_NoRoad k5_NoRoad "ValueError.__new__"))
    (rv_NoRoad : PySem.HandSPX.refsVE bm_NoRoad = true)
    (sa_NoRoad : PySem.W.findIn K (.ref C_NoRoad) "__setattr__" = some (some (.builtin "object.__setattr__")))
    (ty_NoRoad : PySem.W.typeIn K (.ref C_NoRoad) = some (.type "type"))
    (kC_NoRoad : PySem.W.keepIn K (.ref C_NoRoad) = true)
    (ga_NoRoad : PySem.W.findIn K (.ref C_NoRoad) "__getattribute__" = some (some (.builtin "BaseException.__getattribute__")))
    (gg_NoRoad : PySem.W.findIn K (.ref C_NoRoad) "__getattr__" = some none)
    (hd_NoRoad : PySem.W.hasDictIn K C_NoRoad = true)
    (nC_NoCell : PySem.W.nsIn K mainGlobals "NoCell" = some (some (.ref C_NoCell)))
    (nf_NoCell_x : PySem.W.findIn K (.ref C_NoCell) "x" = some none)
    (ex_NoCell : PySem.W.subIn K (.ref C_NoCell) (.type "BaseException") = some true)
    (xl_NoCell : K.lookup C_NoCell = some (excClassObj nm_NoCell qq_NoCell C_NoCell NN_NoCell bs_NoCell bm_NoCell true sn_NoCell sub_NoCell ab_NoCell col_NoCell dd_NoCell k0_NoCell k1_NoCell k2_NoCell k3_NoCell k5_NoCell "ValueError.__new__"))
    (rv_NoCell : PySem.HandSPX.refsVE bm_NoCell = true)
    (sa_NoCell : PySem.W.findIn K (.ref C_NoCell) "__setattr__" = some (some (.builtin "object.__setattr__")))
    (ty_NoCell : PySem.W.typeIn K (.ref C_NoCell) = some (.type "type"))
    (kC_NoCell : PySem.W.keepIn K (.ref C_NoCell) = true)
    (ga_NoCell : PySem.W.findIn K (.ref C_NoCell) "__getattribute__" = some (some (.builtin "BaseException.__getattribute__")))
    (gg_NoCell : PySem.W.findIn K (.ref C_NoCell) "__getattr__" = some none)
    (hd_NoCell : PySem.W.hasDictIn K C_NoCell = true)
    (in_InvalidNumber : PySem.W.findIn K (.ref C_InvalidNumber) "__init__" = some (some (.ref i_InvalidNumber)))
    (ti_InvalidNumber : PySem.W.typeIn K (.ref i_InvalidNumber) = some (.type "function"))
    (li_InvalidNumber : K.lookup i_InvalidNumber = some ⟨oc_i_InvalidNumber, od_i_InvalidNumber, .func (PySem.W.fnOf "__init__" "InvalidNumber.__init__" (defArgs si_InvalidNumber) (defBody si_InvalidNumber) (defScope si_InvalidNumber) .none kV_i_InvalidNumber dc_i_InvalidNumber pm_i_InvalidNumber an_i_InvalidNumber cd_i_InvalidNumber ct_i_InvalidNumber), sl_i_InvalidNumber⟩)
    (ci_InvalidNumber : PySem.W.codeIn K cd_i_InvalidNumber "InvalidNumber.__init__" = true)
    (ki_InvalidNumber : PySem.W.keepIn K (.ref i_InvalidNumber) = true)
    (in_InvalidRoads : PySem.W.findIn K (.ref C_InvalidRoads) "__init__" = some (some (.ref i_InvalidRoads)))
    (ti_InvalidRoads : PySem.W.typeIn K (.ref i_InvalidRoads) = some (.type "function"))
    (li_InvalidRoads : K.lookup i_InvalidRoads = some ⟨oc_i_InvalidRoads, od_i_InvalidRoads, .func (PySem.W.fnOf "__init__" "InvalidRoads.__init__" (defArgs si_InvalidRoads) (defBody si_InvalidRoads) (defScope si_InvalidRoads) .none kV_i_InvalidRoads dc_i_InvalidRoads pm_i_InvalidRoads an_i_InvalidRoads cd_i_InvalidRoads ct_i_InvalidRoads), sl_i_InvalidRoads⟩)
    (ci_InvalidRoads : PySem.W.codeIn K cd_i_InvalidRoads "InvalidRoads.__init__" = true)
    (ki_InvalidRoads : PySem.W.keepIn K (.ref i_InvalidRoads) = true)
    (in_InvalidCells : PySem.W.findIn K (.ref C_InvalidCells) "__init__" = some (some (.ref i_InvalidCells)))
    (ti_InvalidCells : PySem.W.typeIn K (.ref i_InvalidCells) = some (.type "function"))
    (li_InvalidCells : K.lookup i_InvalidCells = some ⟨oc_i_InvalidCells, od_i_InvalidCells, .func (PySem.W.fnOf "__init__" "InvalidCells.__init__" (defArgs si_InvalidCells) (defBody si_InvalidCells) (defScope si_InvalidCells) .none kV_i_InvalidCells dc_i_InvalidCells pm_i_InvalidCells an_i_InvalidCells cd_i_InvalidCells ct_i_InvalidCells), sl_i_InvalidCells⟩)
    (ci_InvalidCells : PySem.W.codeIn K cd_i_InvalidCells "InvalidCells.__init__" = true)
    (ki_InvalidCells : PySem.W.keepIn K (.ref i_InvalidCells) = true)
    (in_NoRoad : PySem.W.findIn K (.ref C_NoRoad) "__init__" = some (some (.ref i_NoRoad)))
    (ti_NoRoad : PySem.W.typeIn K (.ref i_NoRoad) = some (.type "function"))
    (li_NoRoad : K.lookup i_NoRoad = some ⟨oc_i_NoRoad, od_i_NoRoad, .func (PySem.W.fnOf "__init__" "NoRoad.__init__" (defArgs si_NoRoad) (defBody si_NoRoad) (defScope si_NoRoad) .none kV_i_NoRoad dc_i_NoRoad pm_i_NoRoad an_i_NoRoad cd_i_NoRoad ct_i_NoRoad), sl_i_NoRoad⟩)
    (ci_NoRoad : PySem.W.codeIn K cd_i_NoRoad "NoRoad.__init__" = true)
    (ki_NoRoad : PySem.W.keepIn K (.ref i_NoRoad) = true)
    (in_NoCell : PySem.W.findIn K (.ref C_NoCell) "__init__" = some (some (.ref i_NoCell)))
    (ti_NoCell : PySem.W.typeIn K (.ref i_NoCell) = some (.type "function"))
    (li_NoCell : K.lookup i_NoCell = some ⟨oc_i_NoCell, od_i_NoCell, .func (PySem.W.fnOf "__init__" "NoCell.__init__" (defArgs si_NoCell) (defBody si_NoCell) (defScope si_NoCell) .none kV_i_NoCell dc_i_NoCell pm_i_NoCell an_i_NoCell cd_i_NoCell ct_i_NoCell), sl_i_NoCell⟩)
    (ci_NoCell : PySem.W.codeIn K cd_i_NoCell "NoCell.__init__" = true)
    (ki_NoCell : PySem.W.keepIn K (.ref i_NoCell) = true)
    (em_InvalidCells_InvalidCells : PySem.W.exmOne K (.ref C_InvalidCells) (.ref C_InvalidCells) = some true)
    (em_InvalidCells_InvalidNumber : PySem.W.exmOne K (.ref C_InvalidCells) (.ref C_InvalidNumber) = some false)
    (em_InvalidCells_InvalidRoads : PySem.W.exmOne K (.ref C_InvalidCells) (.ref C_InvalidRoads) = some false)
    (em_InvalidCells_NoCell : PySem.W.exmOne K (.ref C_InvalidCells) (.ref C_NoCell) = some false)
    (em_InvalidCells_NoRoad : PySem.W.exmOne K (.ref C_InvalidCells) (.ref C_NoRoad) = some false)
    (em_InvalidCells_YardError : PySem.W.exmOne K (.ref C_InvalidCells) (.ref C_YardError) = some true)
    (em_InvalidNumber_InvalidCells : PySem.W.exmOne K (.ref C_InvalidNumber) (.ref C_InvalidCells) = some false)
    (em_InvalidNumber_InvalidNumber : PySem.W.exmOne K (.ref C_InvalidNumber) (.ref C_InvalidNumber) = some true)
    (em_InvalidNumber_InvalidRoads : PySem.W.exmOne K (.ref C_InvalidNumber) (.ref C_InvalidRoads) = some false)
    (em_InvalidNumber_NoCell : PySem.W.exmOne K (.ref C_InvalidNumber) (.ref C_NoCell) = some false)
    (em_InvalidNumber_NoRoad : PySem.W.exmOne K (.ref C_InvalidNumber) (.ref C_NoRoad) = some false)
    (em_InvalidNumber_YardError : PySem.W.exmOne K (.ref C_InvalidNumber) (.ref C_YardError) = some true)
    (em_InvalidRoads_InvalidCells : PySem.W.exmOne K (.ref C_InvalidRoads) (.ref C_InvalidCells) = some false)
    (em_InvalidRoads_InvalidNumber : PySem.W.exmOne K (.ref C_InvalidRoads) (.ref C_InvalidNumber) = some false)
    (em_InvalidRoads_InvalidRoads : PySem.W.exmOne K (.ref C_InvalidRoads) (.ref C_InvalidRoads) = some true)
    (em_InvalidRoads_NoCell : PySem.W.exmOne K (.ref C_InvalidRoads) (.ref C_NoCell) = some false)
    (em_InvalidRoads_NoRoad : PySem.W.exmOne K (.ref C_InvalidRoads) (.ref C_NoRoad) = some false)
    (em_InvalidRoads_YardError : PySem.W.exmOne K (.ref C_InvalidRoads) (.ref C_YardError) = some true)
    (em_NoCell_InvalidCells : PySem.W.exmOne K (.ref C_NoCell) (.ref C_InvalidCells) = some false)
    (em_NoCell_InvalidNumber : PySem.W.exmOne K (.ref C_NoCell) (.ref C_InvalidNumber) = some false)
    (em_NoCell_InvalidRoads : PySem.W.exmOne K (.ref C_NoCell) (.ref C_InvalidRoads) = some false)
    (em_NoCell_NoCell : PySem.W.exmOne K (.ref C_NoCell) (.ref C_NoCell) = some true)
    (em_NoCell_NoRoad : PySem.W.exmOne K (.ref C_NoCell) (.ref C_NoRoad) = some false)
    (em_NoCell_YardError : PySem.W.exmOne K (.ref C_NoCell) (.ref C_YardError) = some true)
    (em_NoRoad_InvalidCells : PySem.W.exmOne K (.ref C_NoRoad) (.ref C_InvalidCells) = some false)
    (em_NoRoad_InvalidNumber : PySem.W.exmOne K (.ref C_NoRoad) (.ref C_InvalidNumber) = some false)
    (em_NoRoad_InvalidRoads : PySem.W.exmOne K (.ref C_NoRoad) (.ref C_InvalidRoads) = some false)
    (em_NoRoad_NoCell : PySem.W.exmOne K (.ref C_NoRoad) (.ref C_NoCell) = some false)
    (em_NoRoad_NoRoad : PySem.W.exmOne K (.ref C_NoRoad) (.ref C_NoRoad) = some true)
    (em_NoRoad_YardError : PySem.W.exmOne K (.ref C_NoRoad) (.ref C_YardError) = some true)
    : ∃ fd : FuncData, (∀ (s : Shared) (v : Value), BindsTo s fd ⟨[v], []⟩ [("script", v)]) ∧ ∀ base : Heap, K.In base → base.Ns mainGlobals mg → FnZ l.prog w K mg base 11 fa fd ["script"] f_law := by
  have e := hfa.symm.trans (PySem.W.mg_of X G n_law)
  have e2 : fa = a_law := by
    cases e
    rfl
  rw [e2]
  have F__law_purse := fun_mk (st := s__law_purse) l__law_purse c__law_purse k__law_purse
  have F_is_number := fun_mk (st := s_is_number) l_is_number c_is_number k_is_number
  have F_is_cell := fun_mk (st := s_is_cell) l_is_cell c_is_cell k_is_cell
  have F_is_road := fun_mk (st := s_is_road) l_is_road c_is_road k_is_road
  have F_checked_roads := fun_mk (st := s_checked_roads) l_checked_roads c_checked_roads k_checked_roads
  have F_checked_cells := fun_mk (st := s_checked_cells) l_checked_cells c_checked_cells k_checked_cells
  have F_Yard_init := fun_mk (st := s_Yard_init) l_Yard_init c_Yard_init k_Yard_init
  have F_Yard_without_road := fun_mk (st := s_Yard_without_road) l_Yard_without_road c_Yard_without_road k_Yard_without_road
  have F_Yard_without_entry := fun_mk (st := s_Yard_without_entry) l_Yard_without_entry c_Yard_without_entry k_Yard_without_entry
  have F_Yard_without_exit := fun_mk (st := s_Yard_without_exit) l_Yard_without_exit c_Yard_without_exit k_Yard_without_exit
  have F__law_asked := fun_mk (st := s__law_asked) l__law_asked c__law_asked k__law_asked
  have F__law_caught := fun_mk (st := s__law_caught) l__law_caught c__law_caught k__law_caught
  have F__law_mixed := fun_mk (st := s__law_mixed) l__law_mixed c__law_mixed k__law_mixed
  have F__law_draw := fun_mk (st := s__law_draw) l__law_draw c__law_draw k__law_draw
  have F__law_right := fun_mk (st := s__law_right) l__law_right c__law_right k__law_right
  have F_law := fun_mk (st := s_law) l_law c_law k_law
  have I_InvalidNumber := fun_mk (st := si_InvalidNumber) li_InvalidNumber ci_InvalidNumber ki_InvalidNumber
  have I_InvalidRoads := fun_mk (st := si_InvalidRoads) li_InvalidRoads ci_InvalidRoads ki_InvalidRoads
  have I_InvalidCells := fun_mk (st := si_InvalidCells) li_InvalidCells ci_InvalidCells ki_InvalidCells
  have I_NoRoad := fun_mk (st := si_NoRoad) li_NoRoad ci_NoRoad ki_NoRoad
  have I_NoCell := fun_mk (st := si_NoCell) li_NoCell ci_NoCell ki_NoCell
  let r : Ad := { a__law_purse := a__law_purse, d__law_purse := PySem.W.fnOf "_law_purse" "_law_purse" (defArgs s__law_purse) (defBody s__law_purse) (defScope s__law_purse) .none kV__law_purse dc__law_purse pm__law_purse an__law_purse cd__law_purse ct__law_purse, a_is_number := a_is_number, d_is_number := PySem.W.fnOf "is_number" "is_number" (defArgs s_is_number) (defBody s_is_number) (defScope s_is_number) .none kV_is_number dc_is_number pm_is_number an_is_number cd_is_number ct_is_number, a_is_cell := a_is_cell, d_is_cell := PySem.W.fnOf "is_cell" "is_cell" (defArgs s_is_cell) (defBody s_is_cell) (defScope s_is_cell) .none kV_is_cell dc_is_cell pm_is_cell an_is_cell cd_is_cell ct_is_cell, a_is_road := a_is_road, d_is_road := PySem.W.fnOf "is_road" "is_road" (defArgs s_is_road) (defBody s_is_road) (defScope s_is_road) .none kV_is_road dc_is_road pm_is_road an_is_road cd_is_road ct_is_road, a_checked_roads := a_checked_roads, d_checked_roads := PySem.W.fnOf "checked_roads" "checked_roads" (defArgs s_checked_roads) (defBody s_checked_roads) (defScope s_checked_roads) .none kV_checked_roads dc_checked_roads pm_checked_roads an_checked_roads cd_checked_roads ct_checked_roads, a_checked_cells := a_checked_cells, d_checked_cells := PySem.W.fnOf "checked_cells" "checked_cells" (defArgs s_checked_cells) (defBody s_checked_cells) (defScope s_checked_cells) .none kV_checked_cells dc_checked_cells pm_checked_cells an_checked_cells cd_checked_cells ct_checked_cells, a_Yard_init := a_Yard_init, d_Yard_init := PySem.W.fnOf "__init__" "Yard.__init__" (defArgs s_Yard_init) (defBody s_Yard_init) (defScope s_Yard_init) .none kV_Yard_init dc_Yard_init pm_Yard_init an_Yard_init cd_Yard_init ct_Yard_init, a_Yard_without_road := a_Yard_without_road, d_Yard_without_road := PySem.W.fnOf "without_road" "Yard.without_road" (defArgs s_Yard_without_road) (defBody s_Yard_without_road) (defScope s_Yard_without_road) .none kV_Yard_without_road dc_Yard_without_road pm_Yard_without_road an_Yard_without_road cd_Yard_without_road ct_Yard_without_road, a_Yard_without_entry := a_Yard_without_entry, d_Yard_without_entry := PySem.W.fnOf "without_entry" "Yard.without_entry" (defArgs s_Yard_without_entry) (defBody s_Yard_without_entry) (defScope s_Yard_without_entry) .none kV_Yard_without_entry dc_Yard_without_entry pm_Yard_without_entry an_Yard_without_entry cd_Yard_without_entry ct_Yard_without_entry, a_Yard_without_exit := a_Yard_without_exit, d_Yard_without_exit := PySem.W.fnOf "without_exit" "Yard.without_exit" (defArgs s_Yard_without_exit) (defBody s_Yard_without_exit) (defScope s_Yard_without_exit) .none kV_Yard_without_exit dc_Yard_without_exit pm_Yard_without_exit an_Yard_without_exit cd_Yard_without_exit ct_Yard_without_exit, a__law_asked := a__law_asked, d__law_asked := PySem.W.fnOf "_law_asked" "_law_asked" (defArgs s__law_asked) (defBody s__law_asked) (defScope s__law_asked) .none kV__law_asked dc__law_asked pm__law_asked an__law_asked cd__law_asked ct__law_asked, a__law_caught := a__law_caught, d__law_caught := PySem.W.fnOf "_law_caught" "_law_caught" (defArgs s__law_caught) (defBody s__law_caught) (defScope s__law_caught) .none kV__law_caught dc__law_caught pm__law_caught an__law_caught cd__law_caught ct__law_caught, a__law_mixed := a__law_mixed, d__law_mixed := PySem.W.fnOf "_law_mixed" "_law_mixed" (defArgs s__law_mixed) (defBody s__law_mixed) (defScope s__law_mixed) .none kV__law_mixed dc__law_mixed pm__law_mixed an__law_mixed cd__law_mixed ct__law_mixed, a__law_draw := a__law_draw, d__law_draw := PySem.W.fnOf "_law_draw" "_law_draw" (defArgs s__law_draw) (defBody s__law_draw) (defScope s__law_draw) .none kV__law_draw dc__law_draw pm__law_draw an__law_draw cd__law_draw ct__law_draw, a__law_right := a__law_right, d__law_right := PySem.W.fnOf "_law_right" "_law_right" (defArgs s__law_right) (defBody s__law_right) (defScope s__law_right) .none kV__law_right dc__law_right pm__law_right an__law_right cd__law_right ct__law_right, a_law := a_law, d_law := PySem.W.fnOf "law" "law" (defArgs s_law) (defBody s_law) (defScope s_law) .none kV_law dc_law pm_law an_law cd_law ct_law, C_YardError := C_YardError, C_InvalidNumber := C_InvalidNumber, C_InvalidRoads := C_InvalidRoads, C_InvalidCells := C_InvalidCells, C_NoRoad := C_NoRoad, C_NoCell := C_NoCell, C_Yard := C_Yard, i_InvalidNumber := i_InvalidNumber, e_InvalidNumber := PySem.W.fnOf "__init__" "InvalidNumber.__init__" (defArgs si_InvalidNumber) (defBody si_InvalidNumber) (defScope si_InvalidNumber) .none kV_i_InvalidNumber dc_i_InvalidNumber pm_i_InvalidNumber an_i_InvalidNumber cd_i_InvalidNumber ct_i_InvalidNumber, i_InvalidRoads := i_InvalidRoads, e_InvalidRoads := PySem.W.fnOf "__init__" "InvalidRoads.__init__" (defArgs si_InvalidRoads) (defBody si_InvalidRoads) (defScope si_InvalidRoads) .none kV_i_InvalidRoads dc_i_InvalidRoads pm_i_InvalidRoads an_i_InvalidRoads cd_i_InvalidRoads ct_i_InvalidRoads, i_InvalidCells := i_InvalidCells, e_InvalidCells := PySem.W.fnOf "__init__" "InvalidCells.__init__" (defArgs si_InvalidCells) (defBody si_InvalidCells) (defScope si_InvalidCells) .none kV_i_InvalidCells dc_i_InvalidCells pm_i_InvalidCells an_i_InvalidCells cd_i_InvalidCells ct_i_InvalidCells, i_NoRoad := i_NoRoad, e_NoRoad := PySem.W.fnOf "__init__" "NoRoad.__init__" (defArgs si_NoRoad) (defBody si_NoRoad) (defScope si_NoRoad) .none kV_i_NoRoad dc_i_NoRoad pm_i_NoRoad an_i_NoRoad cd_i_NoRoad ct_i_NoRoad, i_NoCell := i_NoCell, e_NoCell := PySem.W.fnOf "__init__" "NoCell.__init__" (defArgs si_NoCell) (defBody si_NoCell) (defScope si_NoCell) .none kV_i_NoCell dc_i_NoCell pm_i_NoCell an_i_NoCell cd_i_NoCell ct_i_NoCell }
  have T : Fa K mg r := {
    b_set := PySem.W.mg_none_of X G z_set
    b_len := PySem.W.mg_none_of X G z_len
    b_int := PySem.W.mg_none_of X G z_int
    b_max := PySem.W.mg_none_of X G z_max
    b_min := PySem.W.mg_none_of X G z_min
    b_all := PySem.W.mg_none_of X G z_all
    b_sum := PySem.W.mg_none_of X G z_sum
    b_sorted := PySem.W.mg_none_of X G z_sorted
    b_list := PySem.W.mg_none_of X G z_list
    b_tuple := PySem.W.mg_none_of X G z_tuple
    b_str := PySem.W.mg_none_of X G z_str
    b_isinstance := PySem.W.mg_none_of X G z_isinstance
    b_range := PySem.W.mg_none_of X G z_range
    b_enumerate := PySem.W.mg_none_of X G z_enumerate
    b_bool := PySem.W.mg_none_of X G z_bool
    b_dict := PySem.W.mg_none_of X G z_dict
    mg__law_purse := PySem.W.mg_of X G n__law_purse
    fn__law_purse := F__law_purse
    bd__law_purse := F__law_purse.binds (ps := ["cells", "at"]) (fun _ _ _ _ _ _ us hl => match us, hl with | [_, _], _ => rfl)
    mg_is_number := PySem.W.mg_of X G n_is_number
    fn_is_number := F_is_number
    bd_is_number := F_is_number.binds (ps := ["thing"]) (fun _ _ _ _ _ _ us hl => match us, hl with | [_], _ => rfl)
    mg_is_cell := PySem.W.mg_of X G n_is_cell
    fn_is_cell := F_is_cell
    bd_is_cell := F_is_cell.binds (ps := ["thing", "cells"]) (fun _ _ _ _ _ _ us hl => match us, hl with | [_, _], _ => rfl)
    mg_is_road := PySem.W.mg_of X G n_is_road
    fn_is_road := F_is_road
    bd_is_road := F_is_road.binds (ps := ["thing", "cells"]) (fun _ _ _ _ _ _ us hl => match us, hl with | [_, _], _ => rfl)
    mg_checked_roads := PySem.W.mg_of X G n_checked_roads
    fn_checked_roads := F_checked_roads
    bd_checked_roads := F_checked_roads.binds (ps := ["thing", "cells"]) (fun _ _ _ _ _ _ us hl => match us, hl with | [_, _], _ => rfl)
    mg_checked_cells := PySem.W.mg_of X G n_checked_cells
    fn_checked_cells := F_checked_cells
    bd_checked_cells := F_checked_cells.binds (ps := ["thing", "cells"]) (fun _ _ _ _ _ _ us hl => match us, hl with | [_, _], _ => rfl)
    fn_Yard_init := F_Yard_init
    fn_Yard_without_road := F_Yard_without_road
    bd_Yard_without_road := F_Yard_without_road.binds (ps := ["self", "x", "y"]) (fun _ _ _ _ _ _ us hl => match us, hl with | [_, _, _], _ => rfl)
    fn_Yard_without_entry := F_Yard_without_entry
    bd_Yard_without_entry := F_Yard_without_entry.binds (ps := ["self", "x"]) (fun _ _ _ _ _ _ us hl => match us, hl with | [_, _], _ => rfl)
    fn_Yard_without_exit := F_Yard_without_exit
    bd_Yard_without_exit := F_Yard_without_exit.binds (ps := ["self", "x"]) (fun _ _ _ _ _ _ us hl => match us, hl with | [_, _], _ => rfl)
    mg__law_asked := PySem.W.mg_of X G n__law_asked
    fn__law_asked := F__law_asked
    bd__law_asked := F__law_asked.binds (ps := ["kind", "some"]) (fun _ _ _ _ _ _ us hl => match us, hl with | [_, _], _ => rfl)
    mg__law_caught := PySem.W.mg_of X G n__law_caught
    fn__law_caught := F__law_caught
    bd__law_caught := F__law_caught.binds (ps := ["kind", "some"]) (fun _ _ _ _ _ _ us hl => match us, hl with | [_, _], _ => rfl)
    mg__law_mixed := PySem.W.mg_of X G n__law_mixed
    fn__law_mixed := F__law_mixed
    bd__law_mixed := F__law_mixed.binds (ps := ["cell", "k"]) (fun _ _ _ _ _ _ us hl => match us, hl with | [_, _], _ => rfl)
    mg__law_draw := PySem.W.mg_of X G n__law_draw
    fn__law_draw := F__law_draw
    bd__law_draw := F__law_draw.binds (ps := ["purse", "out_of"]) (fun _ _ _ _ _ _ us hl => match us, hl with | [_, _], _ => rfl)
    mg__law_right := PySem.W.mg_of X G n__law_right
    fn__law_right := F__law_right
    bd__law_right := F__law_right.binds (ps := ["purse"]) (fun _ _ _ _ _ _ us hl => match us, hl with | [_], _ => rfl)
    mg_law := PySem.W.mg_of X G n_law
    fn_law := F_law
    bd_law := F_law.binds (ps := ["script"]) (fun _ _ _ _ _ _ us hl => match us, hl with | [_], _ => rfl)
    mg_Yard := PySem.W.mg_of X G nC_Yard
    cl_Yard := ⟨pg_Yard, hd_Yard, po_Yard, sa_Yard⟩
    mk_Yard := ⟨ms_Yard, mi_Yard, mf_Yard, mp_Yard⟩
    me_Yard_without_entry := ⟨mt_Yard_without_entry, mn_Yard_without_entry, k_Yard_without_entry⟩
    me_Yard_without_exit := ⟨mt_Yard_without_exit, mn_Yard_without_exit, k_Yard_without_exit⟩
    me_Yard_without_road := ⟨mt_Yard_without_road, mn_Yard_without_road, k_Yard_without_road⟩
    fo_cells := (fld_cons (PySem.W.mg_of X G nC_Yard) ⟨pg_Yard, hd_Yard, po_Yard, sa_Yard⟩ no_Yard_cells fld_nil)
    fo_entries := (fld_cons (PySem.W.mg_of X G nC_Yard) ⟨pg_Yard, hd_Yard, po_Yard, sa_Yard⟩ no_Yard_entries fld_nil)
    fo_exits := (fld_cons (PySem.W.mg_of X G nC_Yard) ⟨pg_Yard, hd_Yard, po_Yard, sa_Yard⟩ no_Yard_exits fld_nil)
    fo_roads := (fld_cons (PySem.W.mg_of X G nC_Yard) ⟨pg_Yard, hd_Yard, po_Yard, sa_Yard⟩ no_Yard_roads fld_nil)
    kb_Yard_init_1_roads_entries_exits := kb_of fun us ws h1 h2 => match us, h1, ws, h2 with | [_, _], _, [_, _, _], _ => rfl
    mg_YardError := PySem.W.mg_of X G nC_YardError
    mg_InvalidNumber := PySem.W.mg_of X G nC_InvalidNumber
    ox_InvalidNumber := ⟨⟨nm_InvalidNumber, qq_InvalidNumber, NN_InvalidNumber, bs_InvalidNumber, bm_InvalidNumber, sn_InvalidNumber, sub_InvalidNumber, ab_InvalidNumber, col_InvalidNumber, dd_InvalidNumber, k0_InvalidNumber, k1_InvalidNumber, k2_InvalidNumber, k3_InvalidNumber, k5_InvalidNumber, xl_InvalidNumber, rv_InvalidNumber⟩, sa_InvalidNumber, ex_InvalidNumber, ty_InvalidNumber, kC_InvalidNumber⟩
    nf_InvalidNumber_thing := nf_InvalidNumber_thing
    xf_InvalidNumber := ⟨ga_InvalidNumber, gg_InvalidNumber, ex_InvalidNumber, hd_InvalidNumber⟩
    mg_InvalidRoads := PySem.W.mg_of X G nC_InvalidRoads
    ox_InvalidRoads := ⟨⟨nm_InvalidRoads, qq_InvalidRoads, NN_InvalidRoads, bs_InvalidRoads, bm_InvalidRoads, sn_InvalidRoads, sub_InvalidRoads, ab_InvalidRoads, col_InvalidRoads, dd_InvalidRoads, k0_InvalidRoads, k1_InvalidRoads, k2_InvalidRoads, k3_InvalidRoads, k5_InvalidRoads, xl_InvalidRoads, rv_InvalidRoads⟩, sa_InvalidRoads, ex_InvalidRoads, ty_InvalidRoads, kC_InvalidRoads⟩
    nf_InvalidRoads_place := nf_InvalidRoads_place
    xf_InvalidRoads := ⟨ga_InvalidRoads, gg_InvalidRoads, ex_InvalidRoads, hd_InvalidRoads⟩
    mg_InvalidCells := PySem.W.mg_of X G nC_InvalidCells
    ox_InvalidCells := ⟨⟨nm_InvalidCells, qq_InvalidCells, NN_InvalidCells, bs_InvalidCells, bm_InvalidCells, sn_InvalidCells, sub_InvalidCells, ab_InvalidCells, col_InvalidCells, dd_InvalidCells, k0_InvalidCells, k1_InvalidCells, k2_InvalidCells, k3_InvalidCells, k5_InvalidCells, xl_InvalidCells, rv_InvalidCells⟩, sa_InvalidCells, ex_InvalidCells, ty_InvalidCells, kC_InvalidCells⟩
    nf_InvalidCells_place := nf_InvalidCells_place
    xf_InvalidCells := ⟨ga_InvalidCells, gg_InvalidCells, ex_InvalidCells, hd_InvalidCells⟩
    mg_NoRoad := PySem.W.mg_of X G nC_NoRoad
    ox_NoRoad := ⟨⟨nm_NoRoad, qq_NoRoad, NN_NoRoad, bs_NoRoad, bm_NoRoad, sn_NoRoad, sub_NoRoad, ab_NoRoad, col_NoRoad, dd_NoRoad, k0_NoRoad, k1_NoRoad, k2_NoRoad, k3_NoRoad, k5_NoRoad, xl_NoRoad, rv_NoRoad⟩, sa_NoRoad, ex_NoRoad, ty_NoRoad, kC_NoRoad⟩
    nf_NoRoad_x := nf_NoRoad_x
    nf_NoRoad_y := nf_NoRoad_y
    xf_NoRoad := ⟨ga_NoRoad, gg_NoRoad, ex_NoRoad, hd_NoRoad⟩
    mg_NoCell := PySem.W.mg_of X G nC_NoCell
    ox_NoCell := ⟨⟨nm_NoCell, qq_NoCell, NN_NoCell, bs_NoCell, bm_NoCell, sn_NoCell, sub_NoCell, ab_NoCell, col_NoCell, dd_NoCell, k0_NoCell, k1_NoCell, k2_NoCell, k3_NoCell, k5_NoCell, xl_NoCell, rv_NoCell⟩, sa_NoCell, ex_NoCell, ty_NoCell, kC_NoCell⟩
    nf_NoCell_x := nf_NoCell_x
    xf_NoCell := ⟨ga_NoCell, gg_NoCell, ex_NoCell, hd_NoCell⟩
    in_InvalidNumber := in_InvalidNumber
    ti_InvalidNumber := ti_InvalidNumber
    fi_InvalidNumber := I_InvalidNumber
    bi_InvalidNumber := I_InvalidNumber.binds (ps := ["self", "thing"]) (fun _ _ _ _ _ _ us hl => match us, hl with | [_, _], _ => rfl)
    in_InvalidRoads := in_InvalidRoads
    ti_InvalidRoads := ti_InvalidRoads
    fi_InvalidRoads := I_InvalidRoads
    bi_InvalidRoads := I_InvalidRoads.binds (ps := ["self", "place"]) (fun _ _ _ _ _ _ us hl => match us, hl with | [_, _], _ => rfl)
    in_InvalidCells := in_InvalidCells
    ti_InvalidCells := ti_InvalidCells
    fi_InvalidCells := I_InvalidCells
    bi_InvalidCells := I_InvalidCells.binds (ps := ["self", "place"]) (fun _ _ _ _ _ _ us hl => match us, hl with | [_, _], _ => rfl)
    in_NoRoad := in_NoRoad
    ti_NoRoad := ti_NoRoad
    fi_NoRoad := I_NoRoad
    bi_NoRoad := I_NoRoad.binds (ps := ["self", "x", "y"]) (fun _ _ _ _ _ _ us hl => match us, hl with | [_, _, _], _ => rfl)
    in_NoCell := in_NoCell
    ti_NoCell := ti_NoCell
    fi_NoCell := I_NoCell
    bi_NoCell := I_NoCell.binds (ps := ["self", "x"]) (fun _ _ _ _ _ _ us hl => match us, hl with | [_, _], _ => rfl)
    em_InvalidCells_InvalidCells := em_InvalidCells_InvalidCells
    em_InvalidCells_InvalidNumber := em_InvalidCells_InvalidNumber
    em_InvalidCells_InvalidRoads := em_InvalidCells_InvalidRoads
    em_InvalidCells_NoCell := em_InvalidCells_NoCell
    em_InvalidCells_NoRoad := em_InvalidCells_NoRoad
    em_InvalidCells_YardError := em_InvalidCells_YardError
    em_InvalidNumber_InvalidCells := em_InvalidNumber_InvalidCells
    em_InvalidNumber_InvalidNumber := em_InvalidNumber_InvalidNumber
    em_InvalidNumber_InvalidRoads := em_InvalidNumber_InvalidRoads
    em_InvalidNumber_NoCell := em_InvalidNumber_NoCell
    em_InvalidNumber_NoRoad := em_InvalidNumber_NoRoad
    em_InvalidNumber_YardError := em_InvalidNumber_YardError
    em_InvalidRoads_InvalidCells := em_InvalidRoads_InvalidCells
    em_InvalidRoads_InvalidNumber := em_InvalidRoads_InvalidNumber
    em_InvalidRoads_InvalidRoads := em_InvalidRoads_InvalidRoads
    em_InvalidRoads_NoCell := em_InvalidRoads_NoCell
    em_InvalidRoads_NoRoad := em_InvalidRoads_NoRoad
    em_InvalidRoads_YardError := em_InvalidRoads_YardError
    em_NoCell_InvalidCells := em_NoCell_InvalidCells
    em_NoCell_InvalidNumber := em_NoCell_InvalidNumber
    em_NoCell_InvalidRoads := em_NoCell_InvalidRoads
    em_NoCell_NoCell := em_NoCell_NoCell
    em_NoCell_NoRoad := em_NoCell_NoRoad
    em_NoCell_YardError := em_NoCell_YardError
    em_NoRoad_InvalidCells := em_NoRoad_InvalidCells
    em_NoRoad_InvalidNumber := em_NoRoad_InvalidNumber
    em_NoRoad_InvalidRoads := em_NoRoad_InvalidRoads
    em_NoRoad_NoCell := em_NoRoad_NoCell
    em_NoRoad_NoRoad := em_NoRoad_NoRoad
    em_NoRoad_YardError := em_NoRoad_YardError
  }
  exact ⟨_, fun s v => .of_eq rfl, fun base _ _ => ok_law (r := r) T⟩
end LAW

set_option Elab.async false
set_option linter.all false
set_option maxRecDepth 100000
set_option maxHeartbeats 4000000
/-! the purse -/
namespace LAW
open PySem Z
theorem mixed_ev {c k : Int} (hc : 0 ≤ c ∧ c < 2 ^ 31) (hk : 0 ≤ k ∧ k ≤ 10 ^ 12) : ∃ v : Int, 0 ≤ v ∧ f__law_mixed [.val (.int c), .val (.int k)] = some (.ret false (.int v) []) := by
  let s := ((c * 2654435761 + 40503 * k * k + 97 * k + 13) % 2147483647 : Int)
  have hs : 0 ≤ s ∧ s < 2147483647 := ⟨Int.emod_nonneg _ (by decide), Int.emod_lt_of_pos _ (by decide)⟩
  refine ⟨(s * s + 7 * s + 11) % 2147483629 / 3, Int.ediv_nonneg (Int.emod_nonneg _ (by decide)) (by decide), ?_⟩
  refine body_rt (x := .dat (.int ((s * s + 7 * s + 11) % 2147483629 / 3))) (ρ := [.val (.int c), .val (.int k), .val (.int s)]) (seq_ev (asg_ev (ρ1 := [.val (.int c), .val (.int k), .no]) (x := .dat (.int s)) (mod_ev (int_ev (add_ev (add_ev (add_ev (mul_ev rfl rfl ?_ ?_) (mul_ev (mul_ev rfl rfl ?_ ?_) rfl ?_ ?_)) (mul_ev rfl rfl ?_ ?_)) rfl)) rfl (by decide)) rfl)
    (ret_ev (div_ev (mod_ev (int_ev (add_ev (add_ev (mul_ev rfl rfl ?_ ?_) (mul_ev rfl rfl ?_ ?_)) rfl)) rfl (by decide)) rfl (by decide) (by decide))))
  all_goals first | decide | (unfold Sm; omega)
def Pu (n : Nat) (p : List D) : Prop := ∃ a b c : Int, p = [.int a, .int b, .int c] ∧ 0 ≤ a ∧ (0 ≤ b ∧ b < 2 ^ 31) ∧ 0 ≤ c ∧ c ≤ n
theorem draw_ev {n : Nat} {p : List D} {m : Int} (hp : Pu n p) (hn : n ≤ 10 ^ 9) (hm : 0 < m ∧ m ≤ 1000) : ∃ (v : Int) (p' : List D), (0 ≤ v ∧ v < m) ∧ Pu (n + 1) p' ∧ f__law_draw [.cel (.lst p), .val (.int m)] = some (.ret false (.int v) [.lst p']) := by
  obtain ⟨a, b, c, rfl, ha, hb, hc⟩ := hp
  by_cases h : 0 < a
  · refine ⟨a % m, [.int (a / m), .int b, .int c], ⟨Int.emod_nonneg _ (by omega), Int.emod_lt_of_pos _ hm.1⟩, ⟨a / m, b, c, rfl, Int.ediv_nonneg ha (by omega), hb, hc.1, by omega⟩, ?_⟩
    refine body_rt (x := .dat (.int (a % m))) (ρ := [.cel true (.lst [.int (a / m), .int b, .int c]), .val (.int m), .val (.int (a % m))]) (seqR_ev (ifT_ev (gt0 (decide_eq_true h) rfl) (seq_ev (asg_ev (x := .dat (.int (a % m))) (mod_ev (int_ev rfl) rfl hm.1) rfl) (seq_ev (sub_ev (k := 0) (div_ev (i := a) (j := m) rfl rfl hm.1 (by unfold Sm; omega)) rfl rfl (by simp)) rfl))))
  · obtain ⟨v, hv, hf⟩ := mixed_ev (c := b) (k := c + 1) hb (by omega)
    refine ⟨v % m, [.int a, .int b, .int (c + 1)], ⟨Int.emod_nonneg _ (by omega), Int.emod_lt_of_pos _ hm.1⟩, ⟨a, b, c + 1, rfl, ha, hb, by omega, by omega⟩, ?_⟩
    refine body_rt (x := .dat (.int (v % m))) (ρ := [.cel true (.lst [.int a, .int b, .int (c + 1)]), .val (.int m), .no]) (seq_ev (ifF_ev (gt0 (decide_eq_false h) rfl) rfl) (seq_ev (sub_ev (k := 2) (add_ev (i := c) (j := 1) rfl rfl) rfl rfl (by simp)) (ret_ev (mod_ev (int_ev (fn_ev (x := .dat (.int v)) (cons_ev rfl (cons_ev rfl rfl)) rfl hf rfl rfl)) rfl hm.1))))
theorem Pu.mono {n k : Nat} {p : List D} (h : Pu n p) (hk : n ≤ k) : Pu k p := by
  obtain ⟨a, b, c, rfl, ha, hb, hc⟩ := h
  exact ⟨a, b, c, rfl, ha, hb, hc.1, by omega⟩
theorem drawE {n : Nat} {p : List D} {m : Int} {rest : E} {ρ1 : E} (hp : Pu n p) (hn : n ≤ 10 ^ 9) (hm : 0 < m ∧ m ≤ 1000) {a : M Rf} (ha : ∀ p', a (.cel true (.lst p') :: rest) = some (.ok (.dat (.int m)) (.cel true (.lst p') :: rest))) :
    ∃ (v : Int) (p' : List D), (0 ≤ v ∧ v < m) ∧ Pu (n + 1) p' ∧ eFn f__law_draw [true, false] (aCons (eVar 0) (aCons a aNil)) (.cel true (.lst p) :: rest) = some (.ok (.dat (.int v)) (.cel true (.lst p') :: rest)) := by
  obtain ⟨v, p', h1, h2, h3⟩ := draw_ev hp hn hm
  exact ⟨v, p', h1, h2, fn_ev (x := .dat (.int v)) (xs := [.cel 0, .dat (.int m)]) (cons_ev (x := .cel 0) rfl (cons_ev (ha p) rfl)) rfl h3 rfl rfl⟩
theorem purse_ev {ns : List Int} {j : Nat} (hj : j ≤ 8) (hl : ns.length ≤ 1000) : ∃ p, Pu 10000 p ∧ f__law_purse [.val (LI ns), .val (.int (j : Int))] = some (.ret true (.lst p) []) := by
  have lenL : ∀ {ρ : E}, ρ[0]? = some (.val (LI ns)) → eCall fLen (aCons (eVar 0) aNil) ρ = some (.ok (.dat (.int ns.length)) ρ) := fun {ρ} h => by
    refine call_ev (xs := [.dat (LI ns)]) (ds := [LI ns]) (d := .int ns.length) (cons_ev (x := .dat (LI ns)) (var_ev h) rfl) rfl ?_
    show some (D.int ((ns.map D.int).length : Nat)) = _
    rw [List.length_map]
  have rest : ∀ c : Int, ∃ p, Pu 10000 p ∧ (sRet (eLst (aCons (eOp2 (fI kMod) (eCall fInt (aCons (eCall fMax (aCons (eOp2 (fI kSub) (eVar 2) (eOp2 (fI kPow) (eC (.int 10)) (eC (.int 18)))) (aCons (eC (.int 0)) aNil))) aNil)) (eOp2 (fI kPow) (eOp2 (fI kPow) (eC (.int 10)) (eC (.int 60))) (eC (.int 8)))) (aCons (eOp2 (fI kMod) (eCall fInt (aCons (eVar 2) aNil)) (eC (.int 2147483647))) (aCons (eOp2 (fI kMul) (eC (.int 1000)) (eVar 1)) aNil))))) [.val (LI ns), .val (.int (j : Int)), .val (.int c)] = some (.rt (.new p) [.val (LI ns), .val (.int (j : Int)), .val (.int c)]) := by
    intro c
    let m : Int := if (0 : Int) > c - 10 ^ 18 then 0 else c - 10 ^ 18
    have hm : 0 ≤ m := by
      show 0 ≤ if (0 : Int) > c - 10 ^ 18 then 0 else c - 10 ^ 18
      split <;> omega
    refine ⟨[.int (m % (10 ^ 60) ^ 8), .int (c % 2147483647), .int (1000 * (j : Int))], ⟨_, _, _, rfl, Int.emod_nonneg _ (by decide), ⟨Int.emod_nonneg _ (by decide), ?_⟩, by omega, by omega⟩, ?_⟩
    · have := Int.emod_lt_of_pos c (b := 2147483647) (by decide)
      omega
    · refine ret_ev (lst_ev (xs := [.dat (.int (m % (10 ^ 60) ^ 8)), .dat (.int (c % 2147483647)), .dat (.int (1000 * (j : Int)))]) (cons_ev (x := .dat (.int (m % (10 ^ 60) ^ 8))) (mod_ev (int_ev (call_ev (xs := [.dat (.int (c - 10 ^ 18)), .dat (.int 0)]) (ds := [.int (c - 10 ^ 18), .int 0]) (d := .int m) (cons_ev (x := .dat (.int (c - 10 ^ 18))) (op2_ev (d := .int (c - 10 ^ 18)) (x := .dat (.int c)) (y := .dat (.int (10 ^ 18))) rfl (by kernel_rfl) rfl rfl rfl) rfl) rfl rfl)) (by kernel_rfl) (by decide)) (cons_ev (x := .dat (.int (c % 2147483647))) (mod_ev (int_ev rfl) rfl (by decide)) (cons_ev (x := .dat (.int (1000 * (j : Int)))) (mul_ev rfl rfl (by decide) (by unfold Sm; omega)) rfl))) rfl)
  have lt : tst (eOp2 (fI kLt) (eVar 1) (eCall fLen (aCons (eVar 0) aNil))) [.val (LI ns), .val (.int (j : Int)), .val (.int 0)] = some (.ok (decide ((j : Int) < (ns.length : Int))) [.val (LI ns), .val (.int (j : Int)), .val (.int 0)]) := tst_ev (op2_ev (d := .bl (decide ((j : Int) < (ns.length : Int)))) (x := .dat (.int (j : Int))) (y := .dat (.int ns.length)) rfl (lenL rfl) rfl rfl rfl)
  by_cases h : j < ns.length
  · obtain ⟨p, hp, e⟩ := rest ns[j]!
    refine ⟨p, hp, body_rt (x := .new p) (ρ := [.val (LI ns), .val (.int (j : Int)), .val (.int ns[j]!)]) (seq_ev (ρ1 := [.val (LI ns), .val (.int (j : Int)), .val (.int 0)]) (asg_ev (x := .dat (.int 0)) rfl rfl) (seq_ev (ρ1 := [.val (LI ns), .val (.int (j : Int)), .val (.int ns[j]!)]) (ifT_ev (ρ1 := [.val (LI ns), .val (.int (j : Int)), .val (.int 0)]) (by rw [lt, decide_eq_true (by omega)]) (asg_ev (x := .dat (.int ns[j]!)) (ρ1 := [.val (LI ns), .val (.int (j : Int)), .val (.int 0)]) (ixL_ev (x := .dat (LI ns)) rfl rfl rfl ?_) rfl)) e))⟩
    rw [atI_nat (by rw [List.length_map]; exact h), List.getElem?_map]
    simp [h]
  · obtain ⟨p, hp, e⟩ := rest 0
    exact ⟨p, hp, body_rt (x := .new p) (ρ := [.val (LI ns), .val (.int (j : Int)), .val (.int 0)]) (seq_ev (ρ1 := [.val (LI ns), .val (.int (j : Int)), .val (.int 0)]) (asg_ev (x := .dat (.int 0)) rfl rfl) (seq_ev (ρ1 := [.val (LI ns), .val (.int (j : Int)), .val (.int 0)]) (ifF_ev (ρ1 := [.val (LI ns), .val (.int (j : Int)), .val (.int 0)]) (by rw [lt, decide_eq_false (by omega)]) rfl) e))⟩
end LAW

set_option Elab.async false
set_option linter.all false
set_option maxRecDepth 100000
set_option maxHeartbeats 0
/-! k02: what is refused, case by case. -/
namespace LAW
open PySem Z
def ways (s : Nat) : List D := (List.range (s - 1)).map fun (k : Nat) => .tup [.int k, .int (k + 1)]
def oddL (s : Nat) : List D := [.non, .tup [.int 0], .tup [.int 0, .int 0], .tup [.int 0, .int s], .tup [.int (-1), .int 0], .tup [.int 0, .bl true], .lst [.int 0, .int 1], .str "01", .tup [.int 0, .int 1, .int 2], .tup [.str "0", .int 1], .int 5, .tup [.int 0, .non]]
def cellsL (s : Nat) : List D := (List.range s).map fun (k : Nat) => .int k
def badL (s : Nat) : List D := [.non, .int (-1), .int s, .bl true, .str "0", .tup [.int 0], .lst [.int 0]]
def nonL : List D := [.non, .int 5, .str "ab", .dic [] [], .bl true]
def wrongL : List D := [.int 0, .int (-1), .non, .bl true, .str "2", .tup [.int 1]]
def badW (s at_ o : Nat) : List D := (ways s).take at_ ++ [(oddL s).getD o .non] ++ (ways s).drop at_ ++ [.non]
def badC (s sp b : Nat) : List D := (cellsL s).take sp ++ [(badL s).getD b .non] ++ (cellsL s).drop sp ++ [.non]
abbrev caught0 (a b c d : D) : Option FR := f__law_caught [.val (.int 0), .val (.lst [a, b, c, d])]
abbrev says (s : Str) (d : D) : Option FR := some (.ret true (.lst [.str s, d]) [])
theorem sz4 {s : Nat} (h : s < 4) : s = 0 ∨ s = 1 ∨ s = 2 ∨ s = 3 := by omega
theorem c1 : ∀ w ∈ wrongL, ∀ X Y Z : D, caught0 w X Y Z = says "number" w := by
  intro w hw X Y Z
  simp only [wrongL, List.mem_cons, List.not_mem_nil, or_false] at hw
  rcases hw with rfl | rfl | rfl | rfl | rfl | rfl
  all_goals kernel_rfl
theorem c2 : ∀ s < 4, ∀ w ∈ nonL, ∀ Y Z : D, caught0 (.int ((s + 1 : Nat) : Int)) w Y Z = says "roads" .non := by
  intro s hs w hw X Y
  simp only [nonL, List.mem_cons, List.not_mem_nil, or_false] at hw
  rcases sz4 hs with rfl | rfl | rfl | rfl <;> rcases hw with rfl | rfl | rfl | rfl | rfl
  all_goals kernel_rfl
theorem c4 : ∀ s < 4, ∀ w ∈ nonL, ∀ Z : D, caught0 (.int ((s + 1 : Nat) : Int)) (.lst (ways (s + 1))) w Z = says "cells" .non := by
  intro s hs w hw X
  simp only [nonL, List.mem_cons, List.not_mem_nil, or_false] at hw
  rcases sz4 hs with rfl | rfl | rfl | rfl <;> rcases hw with rfl | rfl | rfl | rfl | rfl
  all_goals kernel_rfl
end LAW

set_option Elab.async false
set_option linter.all false
set_option maxRecDepth 100000
set_option maxHeartbeats 0
/-! k02: what is refused, case by case. -/
namespace LAW
open PySem Z
theorem ten (P : Nat → Nat → Prop) (h00 : P 0 0) (h10 : P 1 0) (h11 : P 1 1) (h20 : P 2 0) (h21 : P 2 1) (h22 : P 2 2) (h30 : P 3 0) (h31 : P 3 1) (h32 : P 3 2) (h33 : P 3 3) : ∀ s < 4, ∀ a ≤ s, P s a := by
  intro s hs a ha
  rcases sz4 hs with rfl | rfl | rfl | rfl
  · obtain rfl : a = 0 := by omega
    exact h00
  · have : a = 0 ∨ a = 1 := by omega
    rcases this with rfl | rfl <;> assumption
  · have : a = 0 ∨ a = 1 ∨ a = 2 := by omega
    rcases this with rfl | rfl | rfl <;> assumption
  · have : a = 0 ∨ a = 1 ∨ a = 2 ∨ a = 3 := by omega
    rcases this with rfl | rfl | rfl | rfl <;> assumption
theorem o12 (P : Nat → Prop) (h0 : P 0) (h1 : P 1) (h2 : P 2) (h3 : P 3) (h4 : P 4) (h5 : P 5) (h6 : P 6) (h7 : P 7) (h8 : P 8) (h9 : P 9) (h10 : P 10) (h11 : P 11) : ∀ o < 12, P o := by
  intro o ho
  have : o = 0 ∨ o = 1 ∨ o = 2 ∨ o = 3 ∨ o = 4 ∨ o = 5 ∨ o = 6 ∨ o = 7 ∨ o = 8 ∨ o = 9 ∨ o = 10 ∨ o = 11 := by omega
  rcases this with rfl | rfl | rfl | rfl | rfl | rfl | rfl | rfl | rfl | rfl | rfl | rfl <;> assumption
theorem b7 (P : Nat → Prop) (h0 : P 0) (h1 : P 1) (h2 : P 2) (h3 : P 3) (h4 : P 4) (h5 : P 5) (h6 : P 6) : ∀ o < 7, P o := by
  intro o ho
  have : o = 0 ∨ o = 1 ∨ o = 2 ∨ o = 3 ∨ o = 4 ∨ o = 5 ∨ o = 6 := by omega
  rcases this with rfl | rfl | rfl | rfl | rfl | rfl | rfl <;> assumption
theorem c3 (X Y : D) : ∀ s < 4, ∀ a ≤ s, ∀ o < 12, caught0 (.int ((s + 1 : Nat) : Int)) (.lst (badW (s + 1) a o)) X Y = says "roads" (.int (a : Int)) := by
  refine ten _ ?_ ?_ ?_ ?_ ?_ ?_ ?_ ?_ ?_ ?_
  all_goals refine o12 _ ?_ ?_ ?_ ?_ ?_ ?_ ?_ ?_ ?_ ?_ ?_ ?_
  all_goals kernel_rfl
theorem c5 (X Y : D) : ∀ s < 4, ∀ a ≤ s, ∀ o < 12, caught0 (.int ((s + 1 : Nat) : Int)) (.tup (badW (s + 1) a o)) X Y = says "roads" (.int (a : Int)) := by
  refine ten _ ?_ ?_ ?_ ?_ ?_ ?_ ?_ ?_ ?_ ?_
  all_goals refine o12 _ ?_ ?_ ?_ ?_ ?_ ?_ ?_ ?_ ?_ ?_ ?_ ?_
  all_goals kernel_rfl
end LAW

set_option Elab.async false
set_option linter.all false
set_option maxRecDepth 100000
set_option maxHeartbeats 0
/-! k02: what is refused, case by case. -/
namespace LAW
open PySem Z
theorem fourteen (P : Nat → Nat → Prop) (h00 : P 0 0) (h01 : P 0 1) (h10 : P 1 0) (h11 : P 1 1) (h12 : P 1 2) (h20 : P 2 0) (h21 : P 2 1) (h22 : P 2 2) (h23 : P 2 3) (h30 : P 3 0) (h31 : P 3 1) (h32 : P 3 2) (h33 : P 3 3) (h34 : P 3 4) : ∀ s < 4, ∀ a ≤ s + 1, P s a := by
  intro s hs a ha
  rcases sz4 hs with rfl | rfl | rfl | rfl
  · have : a = 0 ∨ a = 1 := by omega
    rcases this with rfl | rfl <;> assumption
  · have : a = 0 ∨ a = 1 ∨ a = 2 := by omega
    rcases this with rfl | rfl | rfl <;> assumption
  · have : a = 0 ∨ a = 1 ∨ a = 2 ∨ a = 3 := by omega
    rcases this with rfl | rfl | rfl | rfl <;> assumption
  · have : a = 0 ∨ a = 1 ∨ a = 2 ∨ a = 3 ∨ a = 4 := by omega
    rcases this with rfl | rfl | rfl | rfl | rfl <;> assumption
theorem c6 (X : D) : ∀ s < 4, ∀ a ≤ s + 1, ∀ o < 7, caught0 (.int ((s + 1 : Nat) : Int)) (.lst (ways (s + 1))) (.lst (badC (s + 1) a o)) X = says "cells" (.int (a : Int)) := by
  refine fourteen _ ?_ ?_ ?_ ?_ ?_ ?_ ?_ ?_ ?_ ?_ ?_ ?_ ?_ ?_
  all_goals refine b7 _ ?_ ?_ ?_ ?_ ?_ ?_ ?_
  all_goals kernel_rfl
theorem c7 (X : D) : ∀ s < 4, ∀ a ≤ s + 1, ∀ o < 7, caught0 (.int ((s + 1 : Nat) : Int)) (.lst (ways (s + 1))) (.tup (badC (s + 1) a o)) X = says "cells" (.int (a : Int)) := by
  refine fourteen _ ?_ ?_ ?_ ?_ ?_ ?_ ?_ ?_ ?_ ?_ ?_ ?_ ?_ ?_
  all_goals refine b7 _ ?_ ?_ ?_ ?_ ?_ ?_ ?_
  all_goals kernel_rfl
theorem c9 : ∀ s < 4, ∀ a ≤ s + 1, ∀ o < 7, caught0 (.int ((s + 1 : Nat) : Int)) (.tup []) (.tup []) (.lst (badC (s + 1) a o)) = says "cells" (.int (a : Int)) := by
  refine fourteen _ ?_ ?_ ?_ ?_ ?_ ?_ ?_ ?_ ?_ ?_ ?_ ?_ ?_ ?_
  all_goals refine b7 _ ?_ ?_ ?_ ?_ ?_ ?_ ?_
  all_goals kernel_rfl
theorem c8 : ∀ s < 4, ∀ w ∈ nonL, caught0 (.int ((s + 1 : Nat) : Int)) (.lst (ways (s + 1))) (.lst (cellsL (s + 1))) w = says "cells" .non := by
  intro s hs w hw
  simp only [nonL, List.mem_cons, List.not_mem_nil, or_false] at hw
  rcases sz4 hs with rfl | rfl | rfl | rfl <;> rcases hw with rfl | rfl | rfl | rfl | rfl
  all_goals kernel_rfl
theorem c10 : ∀ s < 4, caught0 (.int ((s + 1 : Nat) : Int)) (.lst (ways (s + 1))) (.tup (cellsL (s + 1))) (.lst (cellsL (s + 1))) = some (.ret false .non []) := by
  intro s hs
  rcases sz4 hs with rfl | rfl | rfl | rfl
  all_goals kernel_rfl
def cellL : List D := [.int 3, .int (-1), .int 4, .non, .bl true, .str "0", .tup [.int 0], .lst []]
theorem d2 : ∀ w ∈ cellL, f__law_caught [.val (.int 2), .val (.lst [w])] = says "cell" w := by
  intro w hw
  simp only [cellL, List.mem_cons, List.not_mem_nil, or_false] at hw
  rcases hw with rfl | rfl | rfl | rfl | rfl | rfl | rfl | rfl
  all_goals kernel_rfl
theorem d3 : ∀ w ∈ cellL, f__law_caught [.val (.int 3), .val (.lst [w])] = says "cell" w := by
  intro w hw
  simp only [cellL, List.mem_cons, List.not_mem_nil, or_false] at hw
  rcases hw with rfl | rfl | rfl | rfl | rfl | rfl | rfl | rfl
  all_goals kernel_rfl
def pairL : List (D × D) := [(.int 1, .int 0), (.int 0, .int 2), (.int 0, .int 0), (.non, .int 1), (.int 0, .bl true), (.int (-1), .int 0), (.str "0", .int 1), (.int 3, .int 4), (.bl false, .int 1)]
theorem d1 : ∀ w ∈ pairL, f__law_caught [.val (.int 1), .val (.lst [w.1, w.2])] = some (.ret true (.lst [.str "road", w.1, w.2]) []) := by
  intro w hw
  simp only [pairL, List.mem_cons, List.not_mem_nil, or_false] at hw
  rcases hw with rfl | rfl | rfl | rfl | rfl | rfl | rfl | rfl | rfl
  all_goals kernel_rfl
theorem e1 : f__law_caught [.val (.int 1), .val (.lst [.int 0, .int 1])] = some (.ret false .non []) := by kernel_rfl
theorem e2 : f__law_caught [.val (.int 2), .val (.lst [.int 0])] = some (.ret false .non []) := by kernel_rfl
theorem e3 : f__law_caught [.val (.int 3), .val (.lst [.int 2])] = some (.ret false .non []) := by kernel_rfl
theorem e4 : f__law_caught [.val (.int 2), .val (.lst [.int 2])] = says "cell" (.int 2) := by kernel_rfl
theorem e5 : f__law_caught [.val (.int 3), .val (.lst [.int 0])] = says "cell" (.int 0) := by kernel_rfl
theorem e0 : f__law_caught [.val (.int 0), .val (.lst [.int 1, .lst [], .lst [], .lst []])] = some (.ret false .non []) := by kernel_rfl
/-! the words that are compared -/
def due (w : D) (a c : Nat) : List D := [.lst [.str "number", w], .lst [.str "roads", .non], .lst [.str "roads", .int (a : Int)], .lst [.str "cells", .non], .lst [.str "roads", .int (a : Int)], .lst [.str "cells", .int (c : Int)], .lst [.str "cells", .int (c : Int)], .lst [.str "cells", .non], .lst [.str "cells", .int (c : Int)], .non]
theorem s2 : (pairL.all fun p => cellL.all fun c => good (fStr [.lst [.lst [.str "road", p.1, p.2], .lst [.str "cell", c], .lst [.str "cell", c]]])) = true := by decide +kernel
end LAW

set_option Elab.async false
set_option linter.all false
set_option maxRecDepth 100000
set_option maxHeartbeats 0
/-! k02: the words that are compared. -/
namespace LAW
open PySem Z
theorem s1_0_0 : ((List.range 5).all fun c => good (fStr [.lst (due (.int 0) 0 c)])) = true := by decide +kernel
theorem s1_0_1 : ((List.range 5).all fun c => good (fStr [.lst (due (.int 0) 1 c)])) = true := by decide +kernel
theorem s1_0_2 : ((List.range 5).all fun c => good (fStr [.lst (due (.int 0) 2 c)])) = true := by decide +kernel
theorem s1_0_3 : ((List.range 5).all fun c => good (fStr [.lst (due (.int 0) 3 c)])) = true := by decide +kernel
theorem s1_1_0 : ((List.range 5).all fun c => good (fStr [.lst (due (.int (-1)) 0 c)])) = true := by decide +kernel
theorem s1_1_1 : ((List.range 5).all fun c => good (fStr [.lst (due (.int (-1)) 1 c)])) = true := by decide +kernel
theorem s1_1_2 : ((List.range 5).all fun c => good (fStr [.lst (due (.int (-1)) 2 c)])) = true := by decide +kernel
theorem s1_1_3 : ((List.range 5).all fun c => good (fStr [.lst (due (.int (-1)) 3 c)])) = true := by decide +kernel
theorem s1_2_0 : ((List.range 5).all fun c => good (fStr [.lst (due (.non) 0 c)])) = true := by decide +kernel
theorem s1_2_1 : ((List.range 5).all fun c => good (fStr [.lst (due (.non) 1 c)])) = true := by decide +kernel
theorem s1_2_2 : ((List.range 5).all fun c => good (fStr [.lst (due (.non) 2 c)])) = true := by decide +kernel
theorem s1_2_3 : ((List.range 5).all fun c => good (fStr [.lst (due (.non) 3 c)])) = true := by decide +kernel
theorem s1_3_0 : ((List.range 5).all fun c => good (fStr [.lst (due (.bl true) 0 c)])) = true := by decide +kernel
theorem s1_3_1 : ((List.range 5).all fun c => good (fStr [.lst (due (.bl true) 1 c)])) = true := by decide +kernel
theorem s1_3_2 : ((List.range 5).all fun c => good (fStr [.lst (due (.bl true) 2 c)])) = true := by decide +kernel
theorem s1_3_3 : ((List.range 5).all fun c => good (fStr [.lst (due (.bl true) 3 c)])) = true := by decide +kernel
theorem s1_4_0 : ((List.range 5).all fun c => good (fStr [.lst (due (.str "2") 0 c)])) = true := by decide +kernel
theorem s1_4_1 : ((List.range 5).all fun c => good (fStr [.lst (due (.str "2") 1 c)])) = true := by decide +kernel
theorem s1_4_2 : ((List.range 5).all fun c => good (fStr [.lst (due (.str "2") 2 c)])) = true := by decide +kernel
theorem s1_4_3 : ((List.range 5).all fun c => good (fStr [.lst (due (.str "2") 3 c)])) = true := by decide +kernel
theorem s1_5_0 : ((List.range 5).all fun c => good (fStr [.lst (due (.tup [.int 1]) 0 c)])) = true := by decide +kernel
theorem s1_5_1 : ((List.range 5).all fun c => good (fStr [.lst (due (.tup [.int 1]) 1 c)])) = true := by decide +kernel
theorem s1_5_2 : ((List.range 5).all fun c => good (fStr [.lst (due (.tup [.int 1]) 2 c)])) = true := by decide +kernel
theorem s1_5_3 : ((List.range 5).all fun c => good (fStr [.lst (due (.tup [.int 1]) 3 c)])) = true := by decide +kernel
theorem s1 : ∀ w ∈ wrongL, ∀ a < 4, ∀ c < 5, good (fStr [.lst (due w a c)]) = true := by
  intro w hw a ha c hc
  simp only [wrongL, List.mem_cons, List.not_mem_nil, or_false] at hw
  have hc' : c ∈ List.range 5 := List.mem_range.mpr hc
  rcases sz4 ha with rfl | rfl | rfl | rfl <;> rcases hw with rfl | rfl | rfl | rfl | rfl | rfl
  · exact List.all_eq_true.mp s1_0_0 c hc'
  · exact List.all_eq_true.mp s1_1_0 c hc'
  · exact List.all_eq_true.mp s1_2_0 c hc'
  · exact List.all_eq_true.mp s1_3_0 c hc'
  · exact List.all_eq_true.mp s1_4_0 c hc'
  · exact List.all_eq_true.mp s1_5_0 c hc'
  · exact List.all_eq_true.mp s1_0_1 c hc'
  · exact List.all_eq_true.mp s1_1_1 c hc'
  · exact List.all_eq_true.mp s1_2_1 c hc'
  · exact List.all_eq_true.mp s1_3_1 c hc'
  · exact List.all_eq_true.mp s1_4_1 c hc'
  · exact List.all_eq_true.mp s1_5_1 c hc'
  · exact List.all_eq_true.mp s1_0_2 c hc'
  · exact List.all_eq_true.mp s1_1_2 c hc'
  · exact List.all_eq_true.mp s1_2_2 c hc'
  · exact List.all_eq_true.mp s1_3_2 c hc'
  · exact List.all_eq_true.mp s1_4_2 c hc'
  · exact List.all_eq_true.mp s1_5_2 c hc'
  · exact List.all_eq_true.mp s1_0_3 c hc'
  · exact List.all_eq_true.mp s1_1_3 c hc'
  · exact List.all_eq_true.mp s1_2_3 c hc'
  · exact List.all_eq_true.mp s1_3_3 c hc'
  · exact List.all_eq_true.mp s1_4_3 c hc'
  · exact List.all_eq_true.mp s1_5_3 c hc'
end LAW

set_option Elab.async false
set_option linter.all false
set_option maxRecDepth 100000
set_option maxHeartbeats 4000000
/-! k02: the second half of _law_right. -/
namespace LAW
open PySem Z
def q16 : S := (sSeq (sIf (tst (eOp2 fNe (eCall fStr (aCons (eComp (iSeq (eVar 12)) (tgName 14) tTrue (eFn f__law_caught [false, false] (aCons (eC (.int 0)) (aCons (eVar 14) aNil))) [14]) aNil)) (eCall fStr (aCons (eVar 13) aNil)))) (sRet (eC (.bl false))) sNx) (sSeq (sAsg (eLst (aCons (eTup (aCons (eC (.int 1)) (aCons (eC (.int 0)) aNil))) (aCons (eTup (aCons (eC (.int 0)) (aCons (eC (.int 2)) aNil))) (aCons (eTup (aCons (eC (.int 0)) (aCons (eC (.int 0)) aNil))) (aCons (eTup (aCons (eC .non) (aCons (eC (.int 1)) aNil))) (aCons (eTup (aCons (eC (.int 0)) (aCons (eC (.bl true)) aNil))) (aCons (eTup (aCons (eNeg (eC (.int 1))) (aCons (eC (.int 0)) aNil))) (aCons (eTup (aCons (eC (.str "0")) (aCons (eC (.int 1)) aNil))) (aCons (eTup (aCons (eC (.int 3)) (aCons (eC (.int 4)) aNil))) (aCons (eTup (aCons (eC (.bl false)) (aCons (eC (.int 1)) aNil))) aNil)))))))))) (tgName 15)) (sSeq (sAsg (eIx (eVar 15) (eFn f__law_draw [true, false] (aCons (eVar 0) (aCons (eC (.int 9)) aNil)))) (tgTup 2 (tgCons (tgName 3) (tgCons (tgName 16) tgNil)))) (sSeq (sAsg (eIx (eLst (aCons (eC (.int 3)) (aCons (eNeg (eC (.int 1))) (aCons (eC (.int 4)) (aCons (eC .non) (aCons (eC (.bl true)) (aCons (eC (.str "0")) (aCons (eTup (aCons (eC (.int 0)) aNil)) (aCons (eLst aNil) aNil))))))))) (eFn f__law_draw [true, false] (aCons (eVar 0) (aCons (eC (.int 8)) aNil)))) (tgName 17)) (sSeq (sAsg (eLst (aCons (eFn f__law_caught [false, false] (aCons (eC (.int 1)) (aCons (eLst (aCons (eVar 3) (aCons (eVar 16) aNil))) aNil))) (aCons (eFn f__law_caught [false, false] (aCons (eC (.int 2)) (aCons (eLst (aCons (eVar 17) aNil)) aNil))) (aCons (eFn f__law_caught [false, false] (aCons (eC (.int 3)) (aCons (eLst (aCons (eVar 17) aNil)) aNil))) aNil)))) (tgName 18)) (sSeq (sIf (tst (eOp2 fNe (eCall fStr (aCons (eVar 18) aNil)) (eCall fStr (aCons (eLst (aCons (eLst (aCons (eC (.str "road")) (aCons (eVar 3) (aCons (eVar 16) aNil)))) (aCons (eLst (aCons (eC (.str "cell")) (aCons (eVar 17) aNil))) (aCons (eLst (aCons (eC (.str "cell")) (aCons (eVar 17) aNil))) aNil)))) aNil)))) (sRet (eC (.bl false))) sNx) (sSeq (sAsg (eLst (aCons (eFn f__law_caught [false, false] (aCons (eC (.int 1)) (aCons (eLst (aCons (eC (.int 0)) (aCons (eC (.int 1)) aNil))) aNil))) (aCons (eFn f__law_caught [false, false] (aCons (eC (.int 2)) (aCons (eLst (aCons (eC (.int 0)) aNil)) aNil))) (aCons (eFn f__law_caught [false, false] (aCons (eC (.int 3)) (aCons (eLst (aCons (eC (.int 2)) aNil)) aNil))) (aCons (eFn f__law_caught [false, false] (aCons (eC (.int 2)) (aCons (eLst (aCons (eC (.int 2)) aNil)) aNil))) (aCons (eFn f__law_caught [false, false] (aCons (eC (.int 3)) (aCons (eLst (aCons (eC (.int 0)) aNil)) aNil))) aNil)))))) (tgName 18)) (sRet (eOp2 fEq (eVar 18) (eLst (aCons (eC .non) (aCons (eC .non) (aCons (eC .non) (aCons (eLst (aCons (eC (.str "cell")) (aCons (eC (.int 2)) aNil))) (aCons (eLst (aCons (eC (.str "cell")) (aCons (eC (.int 0)) aNil))) aNil)))))))))))))))
def pairD : List D := pairL.map fun w => .tup [w.1, w.2]
def toldF (d : D) : D := match f__law_caught [.val (.int 0), .val d] with
  | some (.ret _ r _) => r
  | _ => .non
/-- what is answered: a new list, or None -/
def Ans (d r : D) : Prop := (∃ l, r = .lst l ∧ f__law_caught [.val (.int 0), .val d] = some (.ret true (.lst l) [])) ∨ (r = .non ∧ f__law_caught [.val (.int 0), .val d] = some (.ret false .non []))
theorem ans_told {d r : D} (h : Ans d r) : toldF d = r := by
  unfold toldF
  rcases h with ⟨l, rfl, h⟩ | ⟨rfl, h⟩ <;> rw [h]
theorem tail_ev {n : Nat} {p : List D} (hp : Pu n p) (hn : n + 2 ≤ 10 ^ 9) {asked dueL : List D} {s1 s2 s4 s5 s6 s7 s8 s9 s10 s11 : Sl} (hl : dueL.length ≤ 1000) (ha : ∀ d ∈ asked, Ans d (toldF d)) (hd : asked.map toldF = dueL) (hg : good (fStr [.lst dueL]) = true) :
    ∃ p' ρ, Pu (n + 2) p' ∧ (∀ p0 : List D, outs [Ar.cel (.lst p0)] ρ = some [.lst p']) ∧ q16 [.cel true (.lst p), s1, s2, .no, s4, s5, s6, s7, s8, s9, s10, s11, .cel false (.lst asked), .cel false (.lst dueL), .no, .no, .no, .no, .no] = some (.rt (.dat (.bl true)) ρ) := by
  obtain ⟨z, hz, heq⟩ := good_ev hg
  obtain ⟨v1, p1, hv1, hp1, e8⟩ := drawE (rest := [s1, s2, .no, s4, s5, s6, s7, s8, s9, s10, s11, .val (.lst asked), .cel false (.lst dueL), .no, .cel false (.lst pairD), .no, .no, .no]) (ρ1 := []) (a := eC (.int 9)) hp (by omega) (by decide) fun _ => rfl
  obtain ⟨d0, hd0, a1⟩ := atI_mem (xs := pairD) (v := v1) hv1
  obtain ⟨w, hw, rfl⟩ := List.mem_map.mp hd0
  obtain ⟨v2, p2, hv2, hp2, e9⟩ := drawE (rest := [s1, s2, .val w.1, s4, s5, s6, s7, s8, s9, s10, s11, .val (.lst asked), .cel false (.lst dueL), .no, .cel false (.lst pairD), .val w.2, .no, .no]) (ρ1 := []) (a := eC (.int 8)) hp1 (by omega) (by decide) fun _ => rfl
  obtain ⟨d, hdc, a2⟩ := atI_mem (xs := cellL) (v := v2) hv2
  obtain ⟨y, hy, heq2⟩ := good_ev (List.all_eq_true.mp (List.all_eq_true.mp LAW.s2 w hw) d hdc)
  have comp : compL (tgName 14) tTrue (eFn f__law_caught [false, false] (aCons (eC (.int 0)) (aCons (eVar 14) aNil))) [14] asked [.cel true (.lst p), s1, s2, .no, s4, s5, s6, s7, s8, s9, s10, s11, .val (.lst asked), .cel false (.lst dueL), .no, .no, .no, .no, .no] = some (asked.map toldF, [.cel true (.lst p), s1, s2, .no, s4, s5, s6, s7, s8, s9, s10, s11, .val (.lst asked), .cel false (.lst dueL), .no, .no, .no, .no, .no]) := by
    refine compL_map asked fun d hd => ?_
    rcases ha d hd with ⟨l, hr, hf⟩ | ⟨hr, hf⟩
    · refine ⟨[.cel true (.lst p), s1, s2, .no, s4, s5, s6, s7, s8, s9, s10, s11, .val (.lst asked), .cel false (.lst dueL), .val d, .no, .no, .no, .no], [.cel true (.lst p), s1, s2, .no, s4, s5, s6, s7, s8, s9, s10, s11, .val (.lst asked), .cel false (.lst dueL), .val d, .no, .no, .no, .no], .new l, [.cel true (.lst p), s1, s2, .no, s4, s5, s6, s7, s8, s9, s10, s11, .val (.lst asked), .cel false (.lst dueL), .val d, .no, .no, .no, .no], [.cel true (.lst p), s1, s2, .no, s4, s5, s6, s7, s8, s9, s10, s11, .val (.lst asked), .cel false (.lst dueL), .val d, .no, .no, .no, .no], rfl, rfl, fn_ev (x := .new l) (xs := [.dat (.int 0), .dat d]) rfl rfl hf rfl rfl, ?_, rfl, rfl⟩
      rw [hr]
      rfl
    · refine ⟨[.cel true (.lst p), s1, s2, .no, s4, s5, s6, s7, s8, s9, s10, s11, .val (.lst asked), .cel false (.lst dueL), .val d, .no, .no, .no, .no], [.cel true (.lst p), s1, s2, .no, s4, s5, s6, s7, s8, s9, s10, s11, .val (.lst asked), .cel false (.lst dueL), .val d, .no, .no, .no, .no], .dat .non, [.cel true (.lst p), s1, s2, .no, s4, s5, s6, s7, s8, s9, s10, s11, .val (.lst asked), .cel false (.lst dueL), .val d, .no, .no, .no, .no], [.cel true (.lst p), s1, s2, .no, s4, s5, s6, s7, s8, s9, s10, s11, .val (.lst asked), .cel false (.lst dueL), .val d, .no, .no, .no, .no], rfl, rfl, fn_ev (x := .dat .non) (xs := [.dat (.int 0), .dat d]) rfl rfl hf rfl rfl, ?_, rfl, rfl⟩
      rw [hr]
      rfl
  rw [hd] at comp
  refine ⟨p2, [.cel true (.lst p2), s1, s2, .val w.1, s4, s5, s6, s7, s8, s9, s10, s11, .val (.lst asked), .cel false (.lst dueL), .no, .cel false (.lst pairD), .val w.2, .val d, .cel false (.lst [.non, .non, .non, .lst [.str "cell", .int 2], .lst [.str "cell", .int 0]])], hp2, fun _ => rfl, ?_⟩
  refine seq_ev (ρ1 := [.cel true (.lst p), s1, s2, .no, s4, s5, s6, s7, s8, s9, s10, s11, .val (.lst asked), .cel false (.lst dueL), .no, .no, .no, .no, .no]) (ifF_ev (ρ1 := [.cel true (.lst p), s1, s2, .no, s4, s5, s6, s7, s8, s9, s10, s11, .val (.lst asked), .cel false (.lst dueL), .no, .no, .no, .no, .no]) (ne_ev (str_ev (x := .new dueL) (d := .lst dueL) (comp_ev (ds := asked) (es := dueL) (ρ1 := [.cel true (.lst p), s1, s2, .no, s4, s5, s6, s7, s8, s9, s10, s11, .val (.lst asked), .cel false (.lst dueL), .no, .no, .no, .no, .no]) rfl rfl comp (szOk hl)) rfl hz) (str_ev (x := .cel 13) (d := .lst dueL) rfl rfl hz) rfl rfl heq) rfl) ?_
  refine seq_ev (ρ1 := [.cel true (.lst p), s1, s2, .no, s4, s5, s6, s7, s8, s9, s10, s11, .val (.lst asked), .cel false (.lst dueL), .no, .cel false (.lst pairD), .no, .no, .no]) (asg_ev (x := .new pairD) (ρ1 := [.cel true (.lst p), s1, s2, .no, s4, s5, s6, s7, s8, s9, s10, s11, .val (.lst asked), .cel false (.lst dueL), .no, .no, .no, .no, .no]) (by kernel_rfl) rfl) ?_
  refine seq_ev (ρ1 := [.cel true (.lst p1), s1, s2, .val w.1, s4, s5, s6, s7, s8, s9, s10, s11, .val (.lst asked), .cel false (.lst dueL), .no, .cel false (.lst pairD), .val w.2, .no, .no]) (asg_ev (x := .dat (.tup [w.1, w.2])) (ρ1 := [.cel true (.lst p1), s1, s2, .no, s4, s5, s6, s7, s8, s9, s10, s11, .val (.lst asked), .cel false (.lst dueL), .no, .cel false (.lst pairD), .no, .no, .no]) (ixL_ev (x := .cel 15) rfl e8 rfl a1) rfl) ?_
  refine seq_ev (ρ1 := [.cel true (.lst p2), s1, s2, .val w.1, s4, s5, s6, s7, s8, s9, s10, s11, .val (.lst asked), .cel false (.lst dueL), .no, .cel false (.lst pairD), .val w.2, .val d, .no]) (asg_ev (x := .dat d) (ixL_ev (x := .new cellL) (ρ1 := [.cel true (.lst p1), s1, s2, .val w.1, s4, s5, s6, s7, s8, s9, s10, s11, .val (.lst asked), .cel false (.lst dueL), .no, .cel false (.lst pairD), .val w.2, .no, .no]) (by kernel_rfl) e9 rfl a2) rfl) ?_
  refine seq_ev (ρ1 := [.cel true (.lst p2), s1, s2, .val w.1, s4, s5, s6, s7, s8, s9, s10, s11, .val (.lst asked), .cel false (.lst dueL), .no, .cel false (.lst pairD), .val w.2, .val d, .cel false (.lst [.lst [.str "road", w.1, w.2], .lst [.str "cell", d], .lst [.str "cell", d]])]) (asg_ev (x := .new [.lst [.str "road", w.1, w.2], .lst [.str "cell", d], .lst [.str "cell", d]]) (ρ1 := [.cel true (.lst p2), s1, s2, .val w.1, s4, s5, s6, s7, s8, s9, s10, s11, .val (.lst asked), .cel false (.lst dueL), .no, .cel false (.lst pairD), .val w.2, .val d, .no]) (lst_ev (ds := [.lst [.str "road", w.1, w.2], .lst [.str "cell", d], .lst [.str "cell", d]]) (cons_ev (x := .new [.str "road", w.1, w.2]) (fn_ev (x := .new [.str "road", w.1, w.2]) (xs := [.dat (.int 1), .dat (.lst [w.1, w.2])]) rfl rfl (d1 w hw) rfl rfl) (cons_ev (x := .new [.str "cell", d]) (fn_ev (x := .new [.str "cell", d]) (xs := [.dat (.int 2), .dat (.lst [d])]) rfl rfl (d2 d hdc) rfl rfl) (cons_ev (x := .new [.str "cell", d]) (fn_ev (x := .new [.str "cell", d]) (xs := [.dat (.int 3), .dat (.lst [d])]) rfl rfl (d3 d hdc) rfl rfl) rfl))) rfl) rfl) ?_
  refine seq_ev (ρ1 := [.cel true (.lst p2), s1, s2, .val w.1, s4, s5, s6, s7, s8, s9, s10, s11, .val (.lst asked), .cel false (.lst dueL), .no, .cel false (.lst pairD), .val w.2, .val d, .cel false (.lst [.lst [.str "road", w.1, w.2], .lst [.str "cell", d], .lst [.str "cell", d]])]) (ifF_ev (ρ1 := [.cel true (.lst p2), s1, s2, .val w.1, s4, s5, s6, s7, s8, s9, s10, s11, .val (.lst asked), .cel false (.lst dueL), .no, .cel false (.lst pairD), .val w.2, .val d, .cel false (.lst [.lst [.str "road", w.1, w.2], .lst [.str "cell", d], .lst [.str "cell", d]])]) (ne_ev (str_ev (x := .cel 18) (d := .lst [.lst [.str "road", w.1, w.2], .lst [.str "cell", d], .lst [.str "cell", d]]) rfl rfl hy) (str_ev (x := .new [.lst [.str "road", w.1, w.2], .lst [.str "cell", d], .lst [.str "cell", d]]) (d := .lst [.lst [.str "road", w.1, w.2], .lst [.str "cell", d], .lst [.str "cell", d]]) (by kernel_rfl) rfl hy) rfl rfl heq2) rfl) ?_
  refine seq_ev (ρ1 := [.cel true (.lst p2), s1, s2, .val w.1, s4, s5, s6, s7, s8, s9, s10, s11, .val (.lst asked), .cel false (.lst dueL), .no, .cel false (.lst pairD), .val w.2, .val d, .cel false (.lst [.non, .non, .non, .lst [.str "cell", .int 2], .lst [.str "cell", .int 0]])]) (asg_ev (x := .new [.non, .non, .non, .lst [.str "cell", .int 2], .lst [.str "cell", .int 0]]) (ρ1 := [.cel true (.lst p2), s1, s2, .val w.1, s4, s5, s6, s7, s8, s9, s10, s11, .val (.lst asked), .cel false (.lst dueL), .no, .cel false (.lst pairD), .val w.2, .val d, .cel false (.lst [.lst [.str "road", w.1, w.2], .lst [.str "cell", d], .lst [.str "cell", d]])]) (lst_ev (ds := [.non, .non, .non, .lst [.str "cell", .int 2], .lst [.str "cell", .int 0]]) (cons_ev (x := .dat .non) (fn_ev (x := .dat .non) (xs := [.dat (.int 1), .dat (.lst [.int 0, .int 1])]) rfl rfl e1 rfl rfl) (cons_ev (x := .dat .non) (fn_ev (x := .dat .non) (xs := [.dat (.int 2), .dat (.lst [.int 0])]) rfl rfl e2 rfl rfl) (cons_ev (x := .dat .non) (fn_ev (x := .dat .non) (xs := [.dat (.int 3), .dat (.lst [.int 2])]) rfl rfl e3 rfl rfl) (cons_ev (x := .new [.str "cell", .int 2]) (fn_ev (x := .new [.str "cell", .int 2]) (xs := [.dat (.int 2), .dat (.lst [.int 2])]) rfl rfl e4 rfl rfl) (cons_ev (x := .new [.str "cell", .int 0]) (fn_ev (x := .new [.str "cell", .int 0]) (xs := [.dat (.int 3), .dat (.lst [.int 0])]) rfl rfl e5 rfl rfl) rfl))))) rfl) rfl) ?_
  kernel_rfl
end LAW

set_option Elab.async false
set_option linter.all false
set_option maxRecDepth 100000
set_option maxHeartbeats 4000000
/-! k02: the first half of _law_right. -/
namespace LAW
open PySem Z
def q11 : S := (sSeq (sAsg (eLst (aCons (eLst (aCons (eVar 11) (aCons (eVar 6) (aCons (eVar 9) (aCons (eVar 9) aNil))))) (aCons (eLst (aCons (eVar 1) (aCons (eVar 10) (aCons (eVar 9) (aCons (eVar 9) aNil))))) (aCons (eLst (aCons (eVar 1) (aCons (eVar 6) (aCons (eVar 10) (aCons (eVar 9) aNil))))) (aCons (eLst (aCons (eVar 1) (aCons (eVar 2) (aCons (eVar 10) (aCons (eVar 9) aNil))))) aNil))))) (tgName 12)) (sSeq (sAsg (eOp2 fAdd (eVar 12) (eLst (aCons (eLst (aCons (eVar 1) (aCons (eCall fTuple (aCons (eVar 6) aNil)) (aCons (eVar 9) (aCons (eVar 9) aNil))))) (aCons (eLst (aCons (eVar 1) (aCons (eVar 2) (aCons (eVar 9) (aCons (eVar 10) aNil))))) (aCons (eLst (aCons (eVar 1) (aCons (eVar 2) (aCons (eCall fTuple (aCons (eVar 9) aNil)) (aCons (eVar 7) aNil))))) aNil))))) (tgName 12)) (sSeq (sAsg (eOp2 fAdd (eVar 12) (eLst (aCons (eLst (aCons (eVar 1) (aCons (eVar 2) (aCons (eVar 7) (aCons (eVar 10) aNil))))) (aCons (eLst (aCons (eVar 1) (aCons (eTup aNil) (aCons (eTup aNil) (aCons (eVar 9) aNil))))) (aCons (eLst (aCons (eVar 1) (aCons (eVar 2) (aCons (eCall fTuple (aCons (eVar 7) aNil)) (aCons (eVar 7) aNil))))) aNil))))) (tgName 12)) (sSeq (sAsg (eLst (aCons (eLst (aCons (eC (.str "number")) (aCons (eVar 11) aNil))) (aCons (eLst (aCons (eC (.str "roads")) (aCons (eC .non) aNil))) (aCons (eLst (aCons (eC (.str "roads")) (aCons (eVar 5) aNil))) (aCons (eLst (aCons (eC (.str "cells")) (aCons (eC .non) aNil))) (aCons (eLst (aCons (eC (.str "roads")) (aCons (eVar 5) aNil))) (aCons (eLst (aCons (eC (.str "cells")) (aCons (eVar 8) aNil))) aNil))))))) (tgName 13)) (sSeq (sAsg (eOp2 fAdd (eVar 13) (eLst (aCons (eLst (aCons (eC (.str "cells")) (aCons (eVar 8) aNil))) (aCons (eLst (aCons (eC (.str "cells")) (aCons (eC .non) aNil))) (aCons (eLst (aCons (eC (.str "cells")) (aCons (eVar 8) aNil))) (aCons (eC .non) aNil)))))) (tgName 13)) q16)))))
theorem mid_ev {n : Nat} {p : List D} (hp : Pu n p) (hn : n + 2 ≤ 10 ^ 9) {i : Int} {a c : Nat} {U W B C O : List D} {nn ww : D}
    (h0 : Ans (.lst [ww, .lst W, .lst B, .lst B]) (.lst [.str "number", ww]))
    (h1 : Ans (.lst [.int i, nn, .lst B, .lst B]) (.lst [.str "roads", .non]))
    (h2 : Ans (.lst [.int i, .lst W, nn, .lst B]) (.lst [.str "roads", .int (a : Int)]))
    (h3 : Ans (.lst [.int i, .lst U, nn, .lst B]) (.lst [.str "cells", .non]))
    (h4 : Ans (.lst [.int i, .tup W, .lst B, .lst B]) (.lst [.str "roads", .int (a : Int)]))
    (h5 : Ans (.lst [.int i, .lst U, .lst B, nn]) (.lst [.str "cells", .int (c : Int)]))
    (h6 : Ans (.lst [.int i, .lst U, .tup B, .lst C]) (.lst [.str "cells", .int (c : Int)]))
    (h7 : Ans (.lst [.int i, .lst U, .lst C, nn]) (.lst [.str "cells", .non]))
    (h8 : Ans (.lst [.int i, .tup [], .tup [], .lst B]) (.lst [.str "cells", .int (c : Int)]))
    (h9 : Ans (.lst [.int i, .lst U, .tup C, .lst C]) (.non))
    (hg : good (fStr [.lst (due ww a c)]) = true) : ∃ p' ρ, Pu (n + 2) p' ∧ (∀ p0 : List D, outs [Ar.cel (.lst p0)] ρ = some [.lst p']) ∧ q11 [.cel true (.lst p), .val (.int i), .cel false (.lst U), .no, .cel false (.lst O), .val (.int (a : Int)), .cel false (.lst W), .cel false (.lst C), .val (.int (c : Int)), .cel false (.lst B), .val nn, .val ww, .no, .no, .no, .no, .no, .no, .no] = some (.rt (.dat (.bl true)) ρ) := by
  obtain ⟨p', ρ, k1, k2, k3⟩ := tail_ev (asked := [.lst [ww, .lst W, .lst B, .lst B], .lst [.int i, nn, .lst B, .lst B], .lst [.int i, .lst W, nn, .lst B], .lst [.int i, .lst U, nn, .lst B], .lst [.int i, .tup W, .lst B, .lst B], .lst [.int i, .lst U, .lst B, nn], .lst [.int i, .lst U, .tup B, .lst C], .lst [.int i, .lst U, .lst C, nn], .lst [.int i, .tup [], .tup [], .lst B], .lst [.int i, .lst U, .tup C, .lst C]]) (dueL := due ww a c) (s1 := .val (.int i)) (s2 := .val (.lst U)) (s4 := .cel false (.lst O)) (s5 := .val (.int (a : Int))) (s6 := .val (.lst W)) (s7 := .val (.lst C)) (s8 := .val (.int (c : Int))) (s9 := .val (.lst B)) (s10 := .val nn) (s11 := .val ww) hp hn (by simp [due]) (fun d hd => by
      simp only [List.mem_cons, List.not_mem_nil, or_false] at hd
      rcases hd with rfl | rfl | rfl | rfl | rfl | rfl | rfl | rfl | rfl | rfl
      · rw [ans_told h0]
        exact h0
      · rw [ans_told h1]
        exact h1
      · rw [ans_told h2]
        exact h2
      · rw [ans_told h3]
        exact h3
      · rw [ans_told h4]
        exact h4
      · rw [ans_told h5]
        exact h5
      · rw [ans_told h6]
        exact h6
      · rw [ans_told h7]
        exact h7
      · rw [ans_told h8]
        exact h8
      · rw [ans_told h9]
        exact h9
      ) (by
      simp only [List.map_cons, List.map_nil, ans_told h0, ans_told h1, ans_told h2, ans_told h3, ans_told h4, ans_told h5, ans_told h6, ans_told h7, ans_told h8, ans_told h9]
      rfl) hg
  refine ⟨p', ρ, k1, k2, ?_⟩
  refine seq_ev (ρ1 := [.cel true (.lst p), .val (.int i), .val (.lst U), .no, .cel false (.lst O), .val (.int (a : Int)), .val (.lst W), .cel false (.lst C), .val (.int (c : Int)), .val (.lst B), .val nn, .val ww, .cel false (.lst [.lst [ww, .lst W, .lst B, .lst B], .lst [.int i, nn, .lst B, .lst B], .lst [.int i, .lst W, nn, .lst B], .lst [.int i, .lst U, nn, .lst B]]), .no, .no, .no, .no, .no, .no]) (by kernel_rfl) ?_
  refine seq_ev (ρ1 := [.cel true (.lst p), .val (.int i), .val (.lst U), .no, .cel false (.lst O), .val (.int (a : Int)), .val (.lst W), .val (.lst C), .val (.int (c : Int)), .val (.lst B), .val nn, .val ww, .cel false (.lst [.lst [ww, .lst W, .lst B, .lst B], .lst [.int i, nn, .lst B, .lst B], .lst [.int i, .lst W, nn, .lst B], .lst [.int i, .lst U, nn, .lst B], .lst [.int i, .tup W, .lst B, .lst B], .lst [.int i, .lst U, .lst B, nn], .lst [.int i, .lst U, .tup B, .lst C]]), .no, .no, .no, .no, .no, .no]) (by kernel_rfl) ?_
  refine seq_ev (ρ1 := [.cel true (.lst p), .val (.int i), .val (.lst U), .no, .cel false (.lst O), .val (.int (a : Int)), .val (.lst W), .val (.lst C), .val (.int (c : Int)), .val (.lst B), .val nn, .val ww, .cel false (.lst [.lst [ww, .lst W, .lst B, .lst B], .lst [.int i, nn, .lst B, .lst B], .lst [.int i, .lst W, nn, .lst B], .lst [.int i, .lst U, nn, .lst B], .lst [.int i, .tup W, .lst B, .lst B], .lst [.int i, .lst U, .lst B, nn], .lst [.int i, .lst U, .tup B, .lst C], .lst [.int i, .lst U, .lst C, nn], .lst [.int i, .tup [], .tup [], .lst B], .lst [.int i, .lst U, .tup C, .lst C]]), .no, .no, .no, .no, .no, .no]) (by kernel_rfl) ?_
  refine seq_ev (ρ1 := [.cel true (.lst p), .val (.int i), .val (.lst U), .no, .cel false (.lst O), .val (.int (a : Int)), .val (.lst W), .val (.lst C), .val (.int (c : Int)), .val (.lst B), .val nn, .val ww, .cel false (.lst [.lst [ww, .lst W, .lst B, .lst B], .lst [.int i, nn, .lst B, .lst B], .lst [.int i, .lst W, nn, .lst B], .lst [.int i, .lst U, nn, .lst B], .lst [.int i, .tup W, .lst B, .lst B], .lst [.int i, .lst U, .lst B, nn], .lst [.int i, .lst U, .tup B, .lst C], .lst [.int i, .lst U, .lst C, nn], .lst [.int i, .tup [], .tup [], .lst B], .lst [.int i, .lst U, .tup C, .lst C]]), .cel false (.lst [.lst [.str "number", ww], .lst [.str "roads", .non], .lst [.str "roads", .int (a : Int)], .lst [.str "cells", .non], .lst [.str "roads", .int (a : Int)], .lst [.str "cells", .int (c : Int)]]), .no, .no, .no, .no, .no]) (by kernel_rfl) ?_
  refine seq_ev (ρ1 := [.cel true (.lst p), .val (.int i), .val (.lst U), .no, .cel false (.lst O), .val (.int (a : Int)), .val (.lst W), .val (.lst C), .val (.int (c : Int)), .val (.lst B), .val nn, .val ww, .cel false (.lst [.lst [ww, .lst W, .lst B, .lst B], .lst [.int i, nn, .lst B, .lst B], .lst [.int i, .lst W, nn, .lst B], .lst [.int i, .lst U, nn, .lst B], .lst [.int i, .tup W, .lst B, .lst B], .lst [.int i, .lst U, .lst B, nn], .lst [.int i, .lst U, .tup B, .lst C], .lst [.int i, .lst U, .lst C, nn], .lst [.int i, .tup [], .tup [], .lst B], .lst [.int i, .lst U, .tup C, .lst C]]), .cel false (.lst (due ww a c)), .no, .no, .no, .no, .no]) (by kernel_rfl) ?_
  exact k3
theorem ways_len (s : Nat) : (ways (s + 1)).length = s := by
  unfold ways
  rw [List.length_map, List.length_range]
  omega
theorem cells_len (s : Nat) : (cellsL s).length = s := by
  unfold cellsL
  rw [List.length_map, List.length_range]
theorem ans_says {d r : D} {s : Str} (h : f__law_caught [.val (.int 0), .val d] = says s r) : Ans d (.lst [.str s, r]) := .inl ⟨_, rfl, h⟩
theorem right_ev {n : Nat} {p : List D} (hp : Pu n p) (hn : n + 60 ≤ 10 ^ 9) : ∃ p', Pu (n + 60) p' ∧ f__law_right [.cel (.lst p)] = some (.ret false (.bl true) [.lst p']) := by
  obtain ⟨v1, p1, hv1, hp1, e1⟩ := drawE (rest := [.no, .no, .no, .no, .no, .no, .no, .no, .no, .no, .no, .no, .no, .no, .no, .no, .no, .no]) (ρ1 := []) (a := eC (.int 4)) hp (by omega) (by decide) fun _ => rfl
  obtain ⟨s, rfl⟩ : ∃ s : Nat, v1 = (s : Int) := ⟨v1.toNat, by omega⟩
  have hs : s < 4 := by omega
  obtain ⟨v2, p2, hv2, hp2, e2⟩ := drawE (rest := [.val (.int ((s + 1 : Nat) : Int)), .cel false (.lst (ways (s + 1))), .no, .cel false (.lst (oddL (s + 1))), .no, .no, .no, .no, .no, .no, .no, .no, .no, .no, .no, .no, .no, .no]) (ρ1 := []) (m := ((s + 1 : Nat) : Int)) (a := eOp2 fAdd (eCall fLen (aCons (eVar 2) aNil)) (eC (.int 1))) hp1 (by omega) (by omega) fun p' => (by rcases sz4 hs with rfl | rfl | rfl | rfl <;> kernel_rfl)
  obtain ⟨a, rfl⟩ : ∃ s : Nat, v2 = (s : Int) := ⟨v2.toNat, by omega⟩
  have ha : a ≤ s := by omega
  obtain ⟨v3, p3, hv3, hp3, e3⟩ := drawE (rest := [.val (.int ((s + 1 : Nat) : Int)), .cel false (.lst (ways (s + 1))), .no, .cel false (.lst (oddL (s + 1))), .val (.int (a : Int)), .no, .no, .no, .no, .no, .no, .no, .no, .no, .no, .no, .no, .no]) (ρ1 := []) (a := eC (.int 12)) hp2 (by omega) (by decide) fun _ => rfl
  obtain ⟨o, rfl⟩ : ∃ s : Nat, v3 = (s : Int) := ⟨v3.toNat, by omega⟩
  have ho : o < 12 := by omega
  obtain ⟨v4, p4, hv4, hp4, e4⟩ := drawE (rest := [.val (.int ((s + 1 : Nat) : Int)), .cel false (.lst (ways (s + 1))), .no, .cel false (.lst (oddL (s + 1))), .val (.int (a : Int)), .cel false (.lst (badW (s + 1) a o)), .cel false (.lst (cellsL (s + 1))), .no, .no, .no, .no, .no, .no, .no, .no, .no, .no, .no]) (ρ1 := []) (m := ((s + 2 : Nat) : Int)) (a := eOp2 fAdd (eVar 1) (eC (.int 1))) hp3 (by omega) (by omega) fun p' => add_ev (i := ((s + 1 : Nat) : Int)) (j := 1) rfl rfl
  obtain ⟨c, rfl⟩ : ∃ s : Nat, v4 = (s : Int) := ⟨v4.toNat, by omega⟩
  have hc : c ≤ s + 1 := by omega
  obtain ⟨v5, p5, hv5, hp5, e5⟩ := drawE (rest := [.val (.int ((s + 1 : Nat) : Int)), .cel false (.lst (ways (s + 1))), .no, .cel false (.lst (oddL (s + 1))), .val (.int (a : Int)), .cel false (.lst (badW (s + 1) a o)), .cel false (.lst (cellsL (s + 1))), .val (.int (c : Int)), .no, .no, .no, .no, .no, .no, .no, .no, .no, .no]) (ρ1 := []) (a := eC (.int 7)) hp4 (by omega) (by decide) fun _ => rfl
  obtain ⟨b, rfl⟩ : ∃ s : Nat, v5 = (s : Int) := ⟨v5.toNat, by omega⟩
  have hb : b < 7 := by omega
  obtain ⟨v6, p6, hv6, hp6, e6⟩ := drawE (rest := [.val (.int ((s + 1 : Nat) : Int)), .cel false (.lst (ways (s + 1))), .no, .cel false (.lst (oddL (s + 1))), .val (.int (a : Int)), .cel false (.lst (badW (s + 1) a o)), .cel false (.lst (cellsL (s + 1))), .val (.int (c : Int)), .cel false (.lst (badC (s + 1) c b)), .no, .no, .no, .no, .no, .no, .no, .no, .no]) (ρ1 := []) (a := eC (.int 5)) hp5 (by omega) (by decide) fun _ => rfl
  obtain ⟨nn, hnn, a6⟩ := atI_mem (xs := nonL) (v := v6) hv6
  obtain ⟨v7, p7, hv7, hp7, e7⟩ := drawE (rest := [.val (.int ((s + 1 : Nat) : Int)), .cel false (.lst (ways (s + 1))), .no, .cel false (.lst (oddL (s + 1))), .val (.int (a : Int)), .cel false (.lst (badW (s + 1) a o)), .cel false (.lst (cellsL (s + 1))), .val (.int (c : Int)), .cel false (.lst (badC (s + 1) c b)), .val nn, .no, .no, .no, .no, .no, .no, .no, .no]) (ρ1 := []) (a := eC (.int 6)) hp6 (by omega) (by decide) fun _ => rfl
  obtain ⟨ww, hww, a7⟩ := atI_mem (xs := wrongL) (v := v7) hv7
  obtain ⟨p', ρ, k1, k2, k3⟩ := mid_ev (n := n + 7) (p := p7) (i := ((s + 1 : Nat) : Int)) (a := a) (c := c) (U := ways (s + 1)) (W := badW (s + 1) a o) (B := badC (s + 1) c b) (C := cellsL (s + 1)) (O := oddL (s + 1)) (nn := nn) (ww := ww) hp7 (by omega)
    (ans_says (c1 ww hww _ _ _)) (ans_says (c2 s hs nn hnn _ _)) (ans_says (c3 _ _ s hs a ha o ho)) (ans_says (c4 s hs nn hnn _)) (ans_says (c5 _ _ s hs a ha o ho)) (ans_says (c6 _ s hs c hc b hb)) (ans_says (c7 _ s hs c hc b hb)) (ans_says (c8 s hs nn hnn)) (ans_says (c9 s hs c hc b hb)) (.inr ⟨rfl, c10 s hs⟩) (s1 ww hww a (by omega) c (by omega))
  have lw := ways_len s
  have lc := cells_len (s + 1)
  refine ⟨p', k1.mono (by omega), body_rt (x := .dat (.bl true)) (ρ := ρ) ?_ rfl rfl (k2 p)⟩
  refine seq_ev (ρ1 := [.cel true (.lst p1), .val (.int ((s + 1 : Nat) : Int)), .no, .no, .no, .no, .no, .no, .no, .no, .no, .no, .no, .no, .no, .no, .no, .no, .no]) (asg_ev (x := .dat (.int ((s + 1 : Nat) : Int))) (ρ1 := [.cel true (.lst p1), .no, .no, .no, .no, .no, .no, .no, .no, .no, .no, .no, .no, .no, .no, .no, .no, .no, .no]) (op2_ev (d := .int ((s + 1 : Nat) : Int)) (x := .dat (.int 1)) rfl e1 rfl rfl ?_) rfl) ?_
  · show some (D.int (1 + (s : Int))) = _
    have z : 1 + (s : Int) = ((s + 1 : Nat) : Int) := by omega
    rw [z]
  refine seq_ev (ρ1 := [.cel true (.lst p1), .val (.int ((s + 1 : Nat) : Int)), .cel false (.lst (ways (s + 1))), .no, .no, .no, .no, .no, .no, .no, .no, .no, .no, .no, .no, .no, .no, .no, .no]) (asg_ev (x := .new (ways (s + 1))) (ρ1 := [.cel true (.lst p1), .val (.int ((s + 1 : Nat) : Int)), .no, .no, .no, .no, .no, .no, .no, .no, .no, .no, .no, .no, .no, .no, .no, .no, .no]) (by rcases sz4 hs with rfl | rfl | rfl | rfl <;> kernel_rfl) rfl) ?_
  refine seq_ev (ρ1 := [.cel true (.lst p1), .val (.int ((s + 1 : Nat) : Int)), .cel false (.lst (ways (s + 1))), .no, .cel false (.lst (oddL (s + 1))), .no, .no, .no, .no, .no, .no, .no, .no, .no, .no, .no, .no, .no, .no]) (asg_ev (x := .new (oddL (s + 1))) (ρ1 := [.cel true (.lst p1), .val (.int ((s + 1 : Nat) : Int)), .cel false (.lst (ways (s + 1))), .no, .no, .no, .no, .no, .no, .no, .no, .no, .no, .no, .no, .no, .no, .no, .no]) (by rcases sz4 hs with rfl | rfl | rfl | rfl <;> kernel_rfl) rfl) ?_
  refine seq_ev (ρ1 := [.cel true (.lst p2), .val (.int ((s + 1 : Nat) : Int)), .cel false (.lst (ways (s + 1))), .no, .cel false (.lst (oddL (s + 1))), .val (.int (a : Int)), .no, .no, .no, .no, .no, .no, .no, .no, .no, .no, .no, .no, .no]) (asg_ev (x := .dat (.int (a : Int))) (ρ1 := [.cel true (.lst p2), .val (.int ((s + 1 : Nat) : Int)), .cel false (.lst (ways (s + 1))), .no, .cel false (.lst (oddL (s + 1))), .no, .no, .no, .no, .no, .no, .no, .no, .no, .no, .no, .no, .no, .no]) e2 rfl) ?_
  refine seq_ev (ρ1 := [.cel true (.lst p3), .val (.int ((s + 1 : Nat) : Int)), .cel false (.lst (ways (s + 1))), .no, .cel false (.lst (oddL (s + 1))), .val (.int (a : Int)), .cel false (.lst (badW (s + 1) a o)), .no, .no, .no, .no, .no, .no, .no, .no, .no, .no, .no, .no]) (asg_ev (x := .new ((ways (s + 1)).take a ++ [(oddL (s + 1)).getD o .non] ++ (ways (s + 1)).drop a ++ [.non])) (ρ1 := [.cel true (.lst p3), .val (.int ((s + 1 : Nat) : Int)), .cel false (.lst (ways (s + 1))), .no, .cel false (.lst (oddL (s + 1))), .val (.int (a : Int)), .no, .no, .no, .no, .no, .no, .no, .no, .no, .no, .no, .no, .no]) (cat_ev (ρ1 := [.cel true (.lst p3), .val (.int ((s + 1 : Nat) : Int)), .cel false (.lst (ways (s + 1))), .no, .cel false (.lst (oddL (s + 1))), .val (.int (a : Int)), .no, .no, .no, .no, .no, .no, .no, .no, .no, .no, .no, .no, .no]) (cat_ev (ρ1 := [.cel true (.lst p3), .val (.int ((s + 1 : Nat) : Int)), .cel false (.lst (ways (s + 1))), .no, .cel false (.lst (oddL (s + 1))), .val (.int (a : Int)), .no, .no, .no, .no, .no, .no, .no, .no, .no, .no, .no, .no, .no]) (cat_ev (ρ1 := [.cel true (.lst p2), .val (.int ((s + 1 : Nat) : Int)), .cel false (.lst (ways (s + 1))), .no, .cel false (.lst (oddL (s + 1))), .val (.int (a : Int)), .no, .no, .no, .no, .no, .no, .no, .no, .no, .no, .no, .no, .no]) (x := .new ((ways (s + 1)).take a)) (y := .new [(oddL (s + 1)).getD o .non]) (cutTo_ev (p := false) rfl rfl (by omega)) (lst_ev (ds := [(oddL (s + 1)).getD o .non]) (cons_ev (x := .dat ((oddL (s + 1)).getD o .non)) (ixL_ev (x := .cel 4) (xs := oddL (s + 1)) rfl e3 rfl (atI_getD (xs := oddL (s + 1)) hv3)) rfl) rfl) rfl rfl ?_) (cutFrom_ev (p := false) (xs := ways (s + 1)) (k := a) rfl rfl (by omega)) rfl rfl ?_) (y := .new [.non]) rfl rfl rfl ?_) rfl) ?_
  · simp only [List.length_take, List.length_singleton]
    omega
  · simp only [List.length_append, List.length_take, List.length_drop, List.length_singleton]
    omega
  · simp only [List.length_append, List.length_take, List.length_drop, List.length_singleton]
    omega
  refine seq_ev (ρ1 := [.cel true (.lst p3), .val (.int ((s + 1 : Nat) : Int)), .cel false (.lst (ways (s + 1))), .no, .cel false (.lst (oddL (s + 1))), .val (.int (a : Int)), .cel false (.lst (badW (s + 1) a o)), .cel false (.lst (cellsL (s + 1))), .no, .no, .no, .no, .no, .no, .no, .no, .no, .no, .no]) (asg_ev (x := .new (cellsL (s + 1))) (ρ1 := [.cel true (.lst p3), .val (.int ((s + 1 : Nat) : Int)), .cel false (.lst (ways (s + 1))), .no, .cel false (.lst (oddL (s + 1))), .val (.int (a : Int)), .cel false (.lst (badW (s + 1) a o)), .no, .no, .no, .no, .no, .no, .no, .no, .no, .no, .no, .no]) (by rcases sz4 hs with rfl | rfl | rfl | rfl <;> kernel_rfl) rfl) ?_
  refine seq_ev (ρ1 := [.cel true (.lst p4), .val (.int ((s + 1 : Nat) : Int)), .cel false (.lst (ways (s + 1))), .no, .cel false (.lst (oddL (s + 1))), .val (.int (a : Int)), .cel false (.lst (badW (s + 1) a o)), .cel false (.lst (cellsL (s + 1))), .val (.int (c : Int)), .no, .no, .no, .no, .no, .no, .no, .no, .no, .no]) (asg_ev (x := .dat (.int (c : Int))) (ρ1 := [.cel true (.lst p4), .val (.int ((s + 1 : Nat) : Int)), .cel false (.lst (ways (s + 1))), .no, .cel false (.lst (oddL (s + 1))), .val (.int (a : Int)), .cel false (.lst (badW (s + 1) a o)), .cel false (.lst (cellsL (s + 1))), .no, .no, .no, .no, .no, .no, .no, .no, .no, .no, .no]) e4 rfl) ?_
  refine seq_ev (ρ1 := [.cel true (.lst p5), .val (.int ((s + 1 : Nat) : Int)), .cel false (.lst (ways (s + 1))), .no, .cel false (.lst (oddL (s + 1))), .val (.int (a : Int)), .cel false (.lst (badW (s + 1) a o)), .cel false (.lst (cellsL (s + 1))), .val (.int (c : Int)), .cel false (.lst (badC (s + 1) c b)), .no, .no, .no, .no, .no, .no, .no, .no, .no]) (asg_ev (x := .new ((cellsL (s + 1)).take c ++ [(badL (s + 1)).getD b .non] ++ (cellsL (s + 1)).drop c ++ [.non])) (ρ1 := [.cel true (.lst p5), .val (.int ((s + 1 : Nat) : Int)), .cel false (.lst (ways (s + 1))), .no, .cel false (.lst (oddL (s + 1))), .val (.int (a : Int)), .cel false (.lst (badW (s + 1) a o)), .cel false (.lst (cellsL (s + 1))), .val (.int (c : Int)), .no, .no, .no, .no, .no, .no, .no, .no, .no, .no]) (cat_ev (ρ1 := [.cel true (.lst p5), .val (.int ((s + 1 : Nat) : Int)), .cel false (.lst (ways (s + 1))), .no, .cel false (.lst (oddL (s + 1))), .val (.int (a : Int)), .cel false (.lst (badW (s + 1) a o)), .cel false (.lst (cellsL (s + 1))), .val (.int (c : Int)), .no, .no, .no, .no, .no, .no, .no, .no, .no, .no]) (cat_ev (ρ1 := [.cel true (.lst p5), .val (.int ((s + 1 : Nat) : Int)), .cel false (.lst (ways (s + 1))), .no, .cel false (.lst (oddL (s + 1))), .val (.int (a : Int)), .cel false (.lst (badW (s + 1) a o)), .cel false (.lst (cellsL (s + 1))), .val (.int (c : Int)), .no, .no, .no, .no, .no, .no, .no, .no, .no, .no]) (cat_ev (ρ1 := [.cel true (.lst p4), .val (.int ((s + 1 : Nat) : Int)), .cel false (.lst (ways (s + 1))), .no, .cel false (.lst (oddL (s + 1))), .val (.int (a : Int)), .cel false (.lst (badW (s + 1) a o)), .cel false (.lst (cellsL (s + 1))), .val (.int (c : Int)), .no, .no, .no, .no, .no, .no, .no, .no, .no, .no]) (x := .new ((cellsL (s + 1)).take c)) (y := .new [(badL (s + 1)).getD b .non]) (cutTo_ev (p := false) rfl rfl (by omega)) (lst_ev (ds := [(badL (s + 1)).getD b .non]) (cons_ev (x := .dat ((badL (s + 1)).getD b .non)) (ixL_ev (x := .new (badL (s + 1))) (ρ1 := [.cel true (.lst p4), .val (.int ((s + 1 : Nat) : Int)), .cel false (.lst (ways (s + 1))), .no, .cel false (.lst (oddL (s + 1))), .val (.int (a : Int)), .cel false (.lst (badW (s + 1) a o)), .cel false (.lst (cellsL (s + 1))), .val (.int (c : Int)), .no, .no, .no, .no, .no, .no, .no, .no, .no, .no]) (xs := badL (s + 1)) (by rcases sz4 hs with rfl | rfl | rfl | rfl <;> kernel_rfl) e5 rfl (atI_getD (xs := badL (s + 1)) hv5)) rfl) rfl) rfl rfl ?_) (cutFrom_ev (p := false) (xs := cellsL (s + 1)) (k := c) rfl rfl (by omega)) rfl rfl ?_) (y := .new [.non]) rfl rfl rfl ?_) rfl) ?_
  · simp only [List.length_take, List.length_singleton]
    omega
  · simp only [List.length_append, List.length_take, List.length_drop, List.length_singleton]
    omega
  · simp only [List.length_append, List.length_take, List.length_drop, List.length_singleton]
    omega
  refine seq_ev (ρ1 := [.cel true (.lst p6), .val (.int ((s + 1 : Nat) : Int)), .cel false (.lst (ways (s + 1))), .no, .cel false (.lst (oddL (s + 1))), .val (.int (a : Int)), .cel false (.lst (badW (s + 1) a o)), .cel false (.lst (cellsL (s + 1))), .val (.int (c : Int)), .cel false (.lst (badC (s + 1) c b)), .val nn, .no, .no, .no, .no, .no, .no, .no, .no]) (asg_ev (x := .dat nn) (ixL_ev (x := .new nonL) (ρ1 := [.cel true (.lst p5), .val (.int ((s + 1 : Nat) : Int)), .cel false (.lst (ways (s + 1))), .no, .cel false (.lst (oddL (s + 1))), .val (.int (a : Int)), .cel false (.lst (badW (s + 1) a o)), .cel false (.lst (cellsL (s + 1))), .val (.int (c : Int)), .cel false (.lst (badC (s + 1) c b)), .no, .no, .no, .no, .no, .no, .no, .no, .no]) (by kernel_rfl) e6 rfl a6) rfl) ?_
  refine seq_ev (ρ1 := [.cel true (.lst p7), .val (.int ((s + 1 : Nat) : Int)), .cel false (.lst (ways (s + 1))), .no, .cel false (.lst (oddL (s + 1))), .val (.int (a : Int)), .cel false (.lst (badW (s + 1) a o)), .cel false (.lst (cellsL (s + 1))), .val (.int (c : Int)), .cel false (.lst (badC (s + 1) c b)), .val nn, .val ww, .no, .no, .no, .no, .no, .no, .no]) (asg_ev (x := .dat ww) (ixL_ev (x := .new wrongL) (ρ1 := [.cel true (.lst p6), .val (.int ((s + 1 : Nat) : Int)), .cel false (.lst (ways (s + 1))), .no, .cel false (.lst (oddL (s + 1))), .val (.int (a : Int)), .cel false (.lst (badW (s + 1) a o)), .cel false (.lst (cellsL (s + 1))), .val (.int (c : Int)), .cel false (.lst (badC (s + 1) c b)), .val nn, .no, .no, .no, .no, .no, .no, .no, .no]) (by kernel_rfl) e7 rfl a7) rfl) ?_
  exact k3
end LAW

set_option Elab.async false
set_option linter.all false
set_option maxRecDepth 100000
set_option maxHeartbeats 4000000
/-! k02: the law. -/
namespace LAW
open PySem Z
theorem law_true : ∀ ns : List Int, ns.length ≤ 63 → f_law [.val (.lst (ns.map .int))] = some (.ret false (.bl true) []) := by
  intro ns hl
  let k := min 8 ns.length
  obtain ⟨ρ', f1, s1, s2, s3, q⟩ := forL_inv (tg := tgName 1) (m := sSeq (sAsg (eFn f__law_purse [false, false] (aCons (eVar 0) (aCons (eVar 1) aNil))) (tgName 2)) (sFor (iRg1 (aCons (eC (.int 3)) aNil)) (tgName 3) (sIf (bNot (tst (eFn f__law_right [true] (aCons (eVar 2) aNil)))) (sRet (eC (.bl false))) sNx))) (ρe := [])
    (fun i ρ => ∃ s1 s2 s3 : Sl, (s1 = .no ∨ ∃ d, s1 = .val d) ∧ (s2 = .no ∨ ∃ c, s2 = .cel false c) ∧ (s3 = .no ∨ ∃ d, s3 = .val d) ∧ ρ = [.val (LI ns), s1, s2, s3]) (rangeD 0 (1 + k)) 0 [.val (LI ns), .no, .no, .no] ⟨.no, .no, .no, .inl rfl, .inl rfl, .inl rfl, rfl⟩ (by
      rintro j d ρ hj ⟨s1, s2, s3, h1, h2, h3, rfl⟩
      have hjl : j < 1 + k := by
        have := (List.getElem?_eq_some_iff.mp hj).1
        unfold rangeD at this
        rw [List.length_map, List.length_range] at this
        exact this
      have hd : d = .int (j : Int) := by
        unfold rangeD at hj
        rw [List.getElem?_map, List.getElem?_range hjl] at hj
        cases hj
        show D.int (0 + (j : Int)) = _
        rw [Int.zero_add]
      subst hd
      obtain ⟨p, hp, e⟩ := purse_ev (ns := ns) (j := j) (by omega) (by omega)
      obtain ⟨ρ', f2, p', t3, g3, g4, g5⟩ := forL_inv (tg := tgName 3) (m := sIf (bNot (tst (eFn f__law_right [true] (aCons (eVar 2) aNil)))) (sRet (eC (.bl false))) sNx) (ρe := [])
        (fun i ρ => ∃ (p : List D) (s3 : Sl), (s3 = .no ∨ ∃ d, s3 = .val d) ∧ Pu (10000 + 60 * i) p ∧ ρ = [.val (LI ns), .val (.int (j : Int)), .cel false (.lst p), s3]) (rangeD 0 3) 0 [.val (LI ns), .val (.int (j : Int)), .cel false (.lst p), s3] ⟨p, s3, h3, hp.mono (by omega), rfl⟩ (by
          rintro i d ρ hi ⟨p, s3, h3, hp, rfl⟩
          have hil : i < 3 := (List.getElem?_eq_some_iff.mp hi).1
          rw [Nat.zero_add] at hp ⊢
          obtain ⟨p', hp', e'⟩ := right_ev hp (by omega)
          refine ⟨[.val (LI ns), .val (.int (j : Int)), .cel false (.lst p), .val d], [.val (LI ns), .val (.int (j : Int)), .cel false (.lst p'), .val d], ?_, .inl ?_, p', _, .inr ⟨_, rfl⟩, hp'.mono (by omega), rfl⟩
          · rcases h3 with rfl | ⟨d, rfl⟩ <;> rfl
          · exact ifF_ev (not_ev (c := true) (tst_ev (fn_ev (x := .dat (.bl true)) (xs := [.cel 2]) (is := [some 2]) (as := [.cel (.lst p)]) (ρ2 := [.val (LI ns), .val (.int (j : Int)), .cel false (.lst p), .val d]) rfl rfl e' rfl rfl))) rfl)
      subst g5
      refine ⟨[.val (LI ns), .val (.int (j : Int)), s2, s3], [.val (LI ns), .val (.int (j : Int)), .cel false (.lst p'), t3], ?_, .inl ?_, _, _, _, .inr ⟨_, rfl⟩, .inr ⟨_, rfl⟩, g3, rfl⟩
      · rcases h1 with rfl | ⟨d, rfl⟩ <;> rfl
      · refine seq_ev (ρ1 := [.val (LI ns), .val (.int (j : Int)), .cel false (.lst p), s3]) (asg_ev (x := .new p) (ρ1 := [.val (LI ns), .val (.int (j : Int)), s2, s3]) (fn_ev (x := .new p) (xs := [.dat (LI ns), .dat (.int (j : Int))]) (is := [none, none]) (as := [.val (LI ns), .val (.int (j : Int))]) (ρ2 := [.val (LI ns), .val (.int (j : Int)), s2, s3]) rfl rfl e rfl rfl) ?_) (for_ev (rg1_ev (n := 3) rfl (by decide)) f2)
        rcases h2 with rfl | ⟨c, rfl⟩ <;> rfl)
  obtain ⟨_, _, _, q⟩ := q
  subst q
  have mn : eCall fMin (aCons (eC (.int 8)) (aCons (eCall fLen (aCons (eVar 0) aNil)) aNil)) [.val (LI ns), .no, .no, .no] = some (.ok (.dat (.int (k : Int))) [.val (LI ns), .no, .no, .no]) := by
    refine call_ev (xs := [.dat (.int 8), .dat (.int ns.length)]) (ds := [.int 8, .int ns.length]) (d := .int (k : Int)) (cons_ev (x := .dat (.int 8)) rfl (cons_ev (x := .dat (.int ns.length)) (call_ev (xs := [.dat (LI ns)]) (ds := [LI ns]) (d := .int ns.length) rfl rfl ?_) rfl)) rfl ?_
    · show some (D.int ((ns.map D.int).length : Nat)) = _
      rw [List.length_map]
    · show some (D.int (if (ns.length : Int) < 8 then (ns.length : Int) else 8)) = _
      congr 2
      split <;> omega
  refine body_rt (x := .dat (.bl true)) (ρ := [.val (LI ns), s1, s2, s3]) (seq_ev (for_ev (rg1_ev (n := 1 + k) (cons_ev (x := .dat (.int ((1 + k : Nat) : Int))) ?_ rfl) (by omega)) f1) ?_)
  · have z : ((1 + k : Nat) : Int) = 1 + (k : Int) := by omega
    rw [z]
    exact add_ev rfl mn
  · exact ret_ev (op2_ev (d := .bl true) (x := .dat .non) (y := .dat .non) (fn_ev (x := .dat .non) (xs := [.dat (.int 0), .dat (.lst [.int 1, .lst [], .lst [], .lst []])]) rfl rfl e0 rfl rfl) rfl rfl rfl rfl)
end LAW

set_option Elab.async false
set_option linter.all false
open PySem PySem.W PyProof.Rows in
set_option maxRecDepth 100000 in
set_option maxHeartbeats 0 in
theorem PySem.Challenge.cw_cellyards_k02_yards_refused_holds : PySem.Challenge.rw_cellyards_k02_yards_refused.Holds := by
  w_on; o_law; k_head; (case hw => w_witness2)
  k_fill
  refine Z.walkZ (l := PySem.Challenge.rw_cellyards_k02_yards_refused) (n := 63) (k := 11) (x := "script") (fn := LAW.f_law) rfl (by decide) rfl ⟨rfl, by decide, by decide⟩ (fun w h Y => PySem.W.kIn_of Y) ?F LAW.law_true
  case F =>
    intro w mg fa h KX G hmg
    refine' LAW.all_mk KX G hmg ?z_set ?z_len ?z_int ?z_max ?z_min ?z_all ?z_sum ?z_sorted ?z_list ?z_tuple ?z_str ?z_isinstance ?z_range ?z_enumerate ?z_bool ?z_dict ?n__law_purse ?l__law_purse ?c__law_purse ?k__law_purse ?n_is_number ?l_is_number ?c_is_number ?k_is_number ?n_is_cell ?l_is_cell ?c_is_cell ?k_is_cell ?n_is_road ?l_is_road ?c_is_road ?k_is_road ?n_checked_roads ?l_checked_roads ?c_checked_roads ?k_checked_roads ?n_checked_cells ?l_checked_cells ?c_checked_cells ?k_checked_cells ?l_Yard_init ?c_Yard_init ?k_Yard_init ?l_Yard_without_road ?c_Yard_without_road ?k_Yard_without_road ?l_Yard_without_entry ?c_Yard_without_entry ?k_Yard_without_entry ?l_Yard_without_exit ?c_Yard_without_exit ?k_Yard_without_exit ?n__law_asked ?l__law_asked ?c__law_asked ?k__law_asked ?n__law_caught ?l__law_caught ?c__law_caught ?k__law_caught ?n__law_mixed ?l__law_mixed ?c__law_mixed ?k__law_mixed ?n__law_draw ?l__law_draw ?c__law_draw ?k__law_draw ?n__law_right ?l__law_right ?c__law_right ?k__law_right ?n_law ?l_law ?c_law ?k_law ?nC_Yard ?pg_Yard ?hd_Yard ?po_Yard ?sa_Yard ?ms_Yard ?mi_Yard ?mf_Yard ?mp_Yard ?mt_Yard_without_entry ?mn_Yard_without_entry ?mt_Yard_without_exit ?mn_Yard_without_exit ?mt_Yard_without_road ?mn_Yard_without_road ?no_Yard_cells ?no_Yard_entries ?no_Yard_exits ?no_Yard_roads ?nC_YardError ?nC_InvalidNumber ?nf_InvalidNumber_thing ?ex_InvalidNumber ?xl_InvalidNumber ?rv_InvalidNumber ?sa_InvalidNumber ?ty_InvalidNumber ?kC_InvalidNumber ?ga_InvalidNumber ?gg_InvalidNumber ?hd_InvalidNumber ?nC_InvalidRoads ?nf_InvalidRoads_place ?ex_InvalidRoads ?xl_InvalidRoads ?rv_InvalidRoads ?sa_InvalidRoads ?ty_InvalidRoads ?kC_InvalidRoads ?ga_InvalidRoads ?gg_InvalidRoads ?hd_InvalidRoads ?nC_InvalidCells ?nf_InvalidCells_place ?ex_InvalidCells ?xl_InvalidCells ?rv_InvalidCells ?sa_InvalidCells ?ty_InvalidCells ?kC_InvalidCells ?ga_InvalidCells ?gg_InvalidCells ?hd_InvalidCells ?nC_NoRoad ?nf_NoRoad_x ?nf_NoRoad_y ?ex_NoRoad ?xl_NoRoad ?rv_NoRoad ?sa_NoRoad ?ty_NoRoad ?kC_NoRoad ?ga_NoRoad ?gg_NoRoad ?hd_NoRoad ?nC_NoCell ?nf_NoCell_x ?ex_NoCell ?xl_NoCell ?rv_NoCell ?sa_NoCell ?ty_NoCell ?kC_NoCell ?ga_NoCell ?gg_NoCell ?hd_NoCell ?in_InvalidNumber ?ti_InvalidNumber ?li_InvalidNumber ?ci_InvalidNumber ?ki_InvalidNumber ?in_InvalidRoads ?ti_InvalidRoads ?li_InvalidRoads ?ci_InvalidRoads ?ki_InvalidRoads ?in_InvalidCells ?ti_InvalidCells ?li_InvalidCells ?ci_InvalidCells ?ki_InvalidCells ?in_NoRoad ?ti_NoRoad ?li_NoRoad ?ci_NoRoad ?ki_NoRoad ?in_NoCell ?ti_NoCell ?li_NoCell ?ci_NoCell ?ki_NoCell ?em_InvalidCells_InvalidCells ?em_InvalidCells_InvalidNumber ?em_InvalidCells_InvalidRoads ?em_InvalidCells_NoCell ?em_InvalidCells_NoRoad ?em_InvalidCells_YardError ?em_InvalidNumber_InvalidCells ?em_InvalidNumber_InvalidNumber ?em_InvalidNumber_InvalidRoads ?em_InvalidNumber_NoCell ?em_InvalidNumber_NoRoad ?em_InvalidNumber_YardError ?em_InvalidRoads_InvalidCells ?em_InvalidRoads_InvalidNumber ?em_InvalidRoads_InvalidRoads ?em_InvalidRoads_NoCell ?em_InvalidRoads_NoRoad ?em_InvalidRoads_YardError ?em_NoCell_InvalidCells ?em_NoCell_InvalidNumber ?em_NoCell_InvalidRoads ?em_NoCell_NoCell ?em_NoCell_NoRoad ?em_NoCell_YardError ?em_NoRoad_InvalidCells ?em_NoRoad_InvalidNumber ?em_NoRoad_InvalidRoads ?em_NoRoad_NoCell ?em_NoRoad_NoRoad ?em_NoRoad_YardError
    (case nC_Yard => k_is)
    (case nC_YardError => k_is)
    (case nC_InvalidNumber => k_is)
    (case nC_InvalidRoads => k_is)
    (case nC_InvalidCells => k_is)
    (case nC_NoRoad => k_is)
    (case nC_NoCell => k_is)
    (case mi_Yard => k_is)
    (case mt_Yard_without_entry => k_is)
    (case mt_Yard_without_exit => k_is)
    (case mt_Yard_without_road => k_is)
    (case in_InvalidNumber => k_is)
    (case in_InvalidRoads => k_is)
    (case in_InvalidCells => k_is)
    (case in_NoRoad => k_is)
    (case in_NoCell => k_is)
    (case z_set => k_is)
    (case z_len => k_is)
    (case z_int => k_is)
    (case z_max => k_is)
    (case z_min => k_is)
    (case z_all => k_is)
    (case z_sum => k_is)
    (case z_sorted => k_is)
    (case z_list => k_is)
    (case z_tuple => k_is)
    (case z_str => k_is)
    (case z_isinstance => k_is)
    (case z_range => k_is)
    (case z_enumerate => k_is)
    (case z_bool => k_is)
    (case z_dict => k_is)
    (case n__law_purse => k_is)
    (case l__law_purse => k_is)
    (case c__law_purse => k_is)
    (case k__law_purse => k_is)
    (case n_is_number => k_is)
    (case l_is_number => k_is)
    (case c_is_number => k_is)
    (case k_is_number => k_is)
    (case n_is_cell => k_is)
    (case l_is_cell => k_is)
    (case c_is_cell => k_is)
    (case k_is_cell => k_is)
    (case n_is_road => k_is)
    (case l_is_road => k_is)
    (case c_is_road => k_is)
    (case k_is_road => k_is)
    (case n_checked_roads => k_is)
    (case l_checked_roads => k_is)
    (case c_checked_roads => k_is)
    (case k_checked_roads => k_is)
    (case n_checked_cells => k_is)
    (case l_checked_cells => k_is)
    (case c_checked_cells => k_is)
    (case k_checked_cells => k_is)
    (case l_Yard_init => k_is)
    (case c_Yard_init => k_is)
    (case k_Yard_init => k_is)
    (case l_Yard_without_road => k_is)
    (case c_Yard_without_road => k_is)
    (case k_Yard_without_road => k_is)
    (case l_Yard_without_entry => k_is)
    (case c_Yard_without_entry => k_is)
    (case k_Yard_without_entry => k_is)
    (case l_Yard_without_exit => k_is)
    (case c_Yard_without_exit => k_is)
    (case k_Yard_without_exit => k_is)
    (case n__law_asked => k_is)
    (case l__law_asked => k_is)
    (case c__law_asked => k_is)
    (case k__law_asked => k_is)
    (case n__law_caught => k_is)
    (case l__law_caught => k_is)
    (case c__law_caught => k_is)
    (case k__law_caught => k_is)
    (case n__law_mixed => k_is)
    (case l__law_mixed => k_is)
    (case c__law_mixed => k_is)
    (case k__law_mixed => k_is)
    (case n__law_draw => k_is)
    (case l__law_draw => k_is)
    (case c__law_draw => k_is)
    (case k__law_draw => k_is)
    (case n__law_right => k_is)
    (case l__law_right => k_is)
    (case c__law_right => k_is)
    (case k__law_right => k_is)
    (case n_law => k_is)
    (case l_law => k_is)
    (case c_law => k_is)
    (case k_law => k_is)
    (case pg_Yard => k_is)
    (case hd_Yard => k_is)
    (case po_Yard => k_is)
    (case sa_Yard => k_is)
    (case ms_Yard => k_is)
    (case mf_Yard => k_is)
    (case mp_Yard => k_is)
    (case mn_Yard_without_entry => k_is)
    (case mn_Yard_without_exit => k_is)
    (case mn_Yard_without_road => k_is)
    (case no_Yard_cells => k_is)
    (case no_Yard_entries => k_is)
    (case no_Yard_exits => k_is)
    (case no_Yard_roads => k_is)
    (case nf_InvalidNumber_thing => k_is)
    (case ex_InvalidNumber => k_is)
    (case xl_InvalidNumber => k_is)
    (case rv_InvalidNumber => first | rfl | k_is | decide)
    (case sa_InvalidNumber => k_is)
    (case ty_InvalidNumber => k_is)
    (case kC_InvalidNumber => k_is)
    (case ga_InvalidNumber => k_is)
    (case gg_InvalidNumber => k_is)
    (case hd_InvalidNumber => k_is)
    (case nf_InvalidRoads_place => k_is)
    (case ex_InvalidRoads => k_is)
    (case xl_InvalidRoads => k_is)
    (case rv_InvalidRoads => first | rfl | k_is | decide)
    (case sa_InvalidRoads => k_is)
    (case ty_InvalidRoads => k_is)
    (case kC_InvalidRoads => k_is)
    (case ga_InvalidRoads => k_is)
    (case gg_InvalidRoads => k_is)
    (case hd_InvalidRoads => k_is)
    (case nf_InvalidCells_place => k_is)
    (case ex_InvalidCells => k_is)
    (case xl_InvalidCells => k_is)
    (case rv_InvalidCells => first | rfl | k_is | decide)
    (case sa_InvalidCells => k_is)
    (case ty_InvalidCells => k_is)
    (case kC_InvalidCells => k_is)
    (case ga_InvalidCells => k_is)
    (case gg_InvalidCells => k_is)
    (case hd_InvalidCells => k_is)
    (case nf_NoRoad_x => k_is)
    (case nf_NoRoad_y => k_is)
    (case ex_NoRoad => k_is)
    (case xl_NoRoad => k_is)
    (case rv_NoRoad => first | rfl | k_is | decide)
    (case sa_NoRoad => k_is)
    (case ty_NoRoad => k_is)
    (case kC_NoRoad => k_is)
    (case ga_NoRoad => k_is)
    (case gg_NoRoad => k_is)
    (case hd_NoRoad => k_is)
    (case nf_NoCell_x => k_is)
    (case ex_NoCell => k_is)
    (case xl_NoCell => k_is)
    (case rv_NoCell => first | rfl | k_is | decide)
    (case sa_NoCell => k_is)
    (case ty_NoCell => k_is)
    (case kC_NoCell => k_is)
    (case ga_NoCell => k_is)
    (case gg_NoCell => k_is)
    (case hd_NoCell => k_is)
    (case ti_InvalidNumber => k_is)
    (case li_InvalidNumber => k_is)
    (case ci_InvalidNumber => k_is)
    (case ki_InvalidNumber => k_is)
    (case ti_InvalidRoads => k_is)
    (case li_InvalidRoads => k_is)
    (case ci_InvalidRoads => k_is)
    (case ki_InvalidRoads => k_is)
    (case ti_InvalidCells => k_is)
    (case li_InvalidCells => k_is)
    (case ci_InvalidCells => k_is)
    (case ki_InvalidCells => k_is)
    (case ti_NoRoad => k_is)
    (case li_NoRoad => k_is)
    (case ci_NoRoad => k_is)
    (case ki_NoRoad => k_is)
    (case ti_NoCell => k_is)
    (case li_NoCell => k_is)
    (case ci_NoCell => k_is)
    (case ki_NoCell => k_is)
    (case em_InvalidCells_InvalidCells => first | k_is | rfl | decide)
    (case em_InvalidCells_InvalidNumber => first | k_is | rfl | decide)
    (case em_InvalidCells_InvalidRoads => first | k_is | rfl | decide)
    (case em_InvalidCells_NoCell => first | k_is | rfl | decide)
    (case em_InvalidCells_NoRoad => first | k_is | rfl | decide)
    (case em_InvalidCells_YardError => first | k_is | rfl | decide)
    (case em_InvalidNumber_InvalidCells => first | k_is | rfl | decide)
    (case em_InvalidNumber_InvalidNumber => first | k_is | rfl | decide)
    (case em_InvalidNumber_InvalidRoads => first | k_is | rfl | decide)
    (case em_InvalidNumber_NoCell => first | k_is | rfl | decide)
    (case em_InvalidNumber_NoRoad => first | k_is | rfl | decide)
    (case em_InvalidNumber_YardError => first | k_is | rfl | decide)
    (case em_InvalidRoads_InvalidCells => first | k_is | rfl | decide)
    (case em_InvalidRoads_InvalidNumber => first | k_is | rfl | decide)
    (case em_InvalidRoads_InvalidRoads => first | k_is | rfl | decide)
    (case em_InvalidRoads_NoCell => first | k_is | rfl | decide)
    (case em_InvalidRoads_NoRoad => first | k_is | rfl | decide)
    (case em_InvalidRoads_YardError => first | k_is | rfl | decide)
    (case em_NoCell_InvalidCells => first | k_is | rfl | decide)
    (case em_NoCell_InvalidNumber => first | k_is | rfl | decide)
    (case em_NoCell_InvalidRoads => first | k_is | rfl | decide)
    (case em_NoCell_NoCell => first | k_is | rfl | decide)
    (case em_NoCell_NoRoad => first | k_is | rfl | decide)
    (case em_NoCell_YardError => first | k_is | rfl | decide)
    (case em_NoRoad_InvalidCells => first | k_is | rfl | decide)
    (case em_NoRoad_InvalidNumber => first | k_is | rfl | decide)
    (case em_NoRoad_InvalidRoads => first | k_is | rfl | decide)
    (case em_NoRoad_NoCell => first | k_is | rfl | decide)
    (case em_NoRoad_NoRoad => first | k_is | rfl | decide)
    (case em_NoRoad_YardError => first | k_is | rfl | decide)

