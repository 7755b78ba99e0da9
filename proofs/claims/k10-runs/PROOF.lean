import PyProof.Rows.All
import Wide.All
import OpenK.AllK
import Wide.FinOn
import HandS.ForMost
import HandS.ForExc
import HandS.ExcInit
import HandS.ExcField
import HandS.CallSlots
import HandS.Wide
import HandS.Style
import HandS.TryMany
import HandS.Deep
import HandS.Defaults
import HandS.TupAny
import HandS.MakeKwOnly
import KE.GoesEnum
import HandS.SortInts
import HandS.IsInst
import HandS.Conv
import HandS.IterVal
import HandS.ReCall
import KE.KIndexOf
import PyProof.ReprRoads
import HandS.Ends
import HandS.SetFor
import HandS.TupSets
import HandS.Strs
import HandS.Codes
import HandS.NoneIn
import HandS.TupMul
import PyProof.EqKinds
import PyProof.ReprLen
import PySem.Challenge.RW_cellyards_k10_runs
set_option Elab.async false
set_option linter.all false
set_option maxRecDepth 100000
set_option maxHeartbeats 4000000
/-! ZA: data as trees, slots, the monad of mirrors, the bridge to the hand layer. -/
namespace Z
open PySem PySem.Spec PyProof.Rows L2

/-- data, without a heap -/
inductive D where
  | non | bl (b : Bool) | int (i : Int) | str (x : Str)
  | lst (xs : List D) | tup (xs : List D) | pr (xs : List D)
  | dic (ks : List Key) (xs : List D)
  | ins (c : Str) (ns : List Str) (xs : List D)

/-- the module: its written part, its names -/
structure Amb where
  K : PySem.W.Frag
  mg : Str → Option Value

/-- a tuple of which it is known that it has no dict: laid so, or the module's -/
def PlT (K : PySem.W.Frag) (H : Hp) (a : Addr) (xs : List V) : Prop :=
  (∃ o, H a = some (.frz o (.tup xs)) ∧ o.dict = none) ∨ ∃ (o : Obj) (its : Array Value) (n : Nat), K.lookup a = some o ∧ o.dict = none ∧ o.cls = .type "tuple" ∧ o.data = .seq its n ∧ its.size ≤ sizeLine ∧ Vals xs its.toList
theorem PlT.sq {K : PySem.W.Frag} {H : Hp} {a : Addr} {xs : List V} (h : PlT K H a xs) : SqT K H a xs := by
  rcases h with ⟨o, h, _⟩ | ⟨o, its, n, h1, _, h2, h3, h4, h5⟩
  · exact .inl (.inr ⟨o, h⟩)
  · exact .inr ⟨o, its, n, h1, h2, h3, h4, h5⟩
theorem same_plT {K : PySem.W.Frag} {H H' : Hp} {a : Addr} {xs : List V} (e : Same H H') (h : PlT K H a xs) : PlT K H' a xs := by
  rcases h with ⟨o, h, d⟩ | h
  · exact .inl ⟨o, e _ _ h, d⟩
  · exact .inr h
mutual
/-- v shows d, in the part G of the heap that stays -/
inductive Im (A : Amb) (G : Hp) : V → D → Prop
  | non : Im A G .non .non
  | bl (b : Bool) : Im A G (.bl b) (.bl b)
  | int (i : Int) : Im A G (.int i) (.int i)
  | str (x : Str) : Im A G (.str x) (.str x)
  | lst {a : Addr} {vs : List V} {ds : List D} : SqL A.K G a vs → Ims A G vs ds → Im A G (.ref a) (.lst ds)
  | tup {a : Addr} {vs : List V} {ds : List D} : PlT A.K G a vs → Ims A G vs ds → Im A G (.ref a) (.tup ds)
  | pr {a : Addr} {vs : List V} {ds : List D} : SqT A.K G a vs → Ims A G vs ds → Im A G (.ref a) (.pr ds)
  | dic {a : Addr} {kvs : List (Key × V)} {ks : List Key} {ds : List D} : G a = some (.dK kvs) → kvs.map (·.1) = ks → Ims A G (kvs.map (·.2)) ds → Im A G (.ref a) (.dic ks ds)
  | ins {a C dx : Addr} {fs : List (Str × V)} {c : Str} {ns : List Str} {ds : List D} : A.mg c = some (.ref C) → G a = some (.ins C dx fs) → fs.map (·.1) = ns → Ims A G (fs.map (·.2)) ds → Im A G (.ref a) (.ins c ns ds)
inductive Ims (A : Amb) (G : Hp) : List V → List D → Prop
  | nil : Ims A G [] []
  | cons {v : V} {d : D} {vs : List V} {ds : List D} : Im A G v d → Ims A G vs ds → Ims A G (v :: vs) (d :: ds)
end

section
variable {A : Amb} {G G' H : Hp}
theorem same_sqT {K : PySem.W.Frag} {H H' : Hp} {a : Addr} {xs : List V} (e : Same H H') (h : SqT K H a xs) : SqT K H' a xs := by
  rcases h with (h | ⟨o, h⟩) | h
  · exact .inl (.inl (e _ _ h))
  · exact .inl (.inr ⟨o, e _ _ h⟩)
  · exact .inr h
mutual
theorem Im.mono (e : Same G G') : ∀ {v : V} {d : D}, Im A G v d → Im A G' v d
  | _, _, .non => .non
  | _, _, .bl b => .bl b
  | _, _, .int i => .int i
  | _, _, .str x => .str x
  | _, _, .lst h r => .lst (e.seq h) (Ims.mono e r)
  | _, _, .tup h r => .tup (same_plT e h) (Ims.mono e r)
  | _, _, .pr h r => .pr (same_sqT e h) (Ims.mono e r)
  | _, _, .dic h n r => .dic (e _ _ h) n (Ims.mono e r)
  | _, _, .ins m h n r => .ins m (e _ _ h) n (Ims.mono e r)
theorem Ims.mono (e : Same G G') : ∀ {vs : List V} {ds : List D}, Ims A G vs ds → Ims A G' vs ds
  | _, _, .nil => .nil
  | _, _, .cons h r => .cons (Im.mono e h) (Ims.mono e r)
end
theorem Ims.length : ∀ {vs : List V} {ds : List D}, Ims A G vs ds → vs.length = ds.length
  | _, _, .nil => rfl
  | _, _, .cons _ r => congrArg Nat.succ (Ims.length r)
theorem Ims.get : ∀ {vs : List V} {ds : List D} {i : Nat} {d : D}, Ims A G vs ds → ds[i]? = some d → ∃ v, vs[i]? = some v ∧ Im A G v d
  | _, _, _, _, .nil, e => by simp at e
  | _, _, 0, _, .cons h _, e => by
    simp at e
    subst e
    exact ⟨_, rfl, h⟩
  | _, _, i + 1, _, .cons _ r, e => by
    obtain ⟨v, h1, h2⟩ := Ims.get (i := i) r (by simpa using e)
    exact ⟨v, by simpa using h1, h2⟩
theorem Ims.getV : ∀ {vs : List V} {ds : List D} {i : Nat} {v : V}, Ims A G vs ds → vs[i]? = some v → ∃ d, ds[i]? = some d ∧ Im A G v d
  | _, _, _, _, .nil, e => by simp at e
  | _, _, 0, _, .cons h _, e => by
    simp at e
    subst e
    exact ⟨_, rfl, h⟩
  | _, _, i + 1, _, .cons _ r, e => by
    obtain ⟨v, h1, h2⟩ := Ims.getV (i := i) r (by simpa using e)
    exact ⟨v, by simpa using h1, h2⟩
theorem Ims.append : ∀ {vs ws : List V} {ds es : List D}, Ims A G vs ds → Ims A G ws es → Ims A G (vs ++ ws) (ds ++ es)
  | _, _, _, _, .nil, s => s
  | _, _, _, _, .cons h r, s => .cons h (Ims.append r s)
theorem Ims.take : ∀ {vs : List V} {ds : List D} (n : Nat), Ims A G vs ds → Ims A G (vs.take n) (ds.take n)
  | _, _, 0, _ => .nil
  | _, _, _ + 1, .nil => .nil
  | _, _, n + 1, .cons h r => .cons h (Ims.take n r)
theorem Ims.drop : ∀ {vs : List V} {ds : List D} (n : Nat), Ims A G vs ds → Ims A G (vs.drop n) (ds.drop n)
  | _, _, 0, r => r
  | _, _, _ + 1, .nil => .nil
  | _, _, n + 1, .cons _ r => Ims.drop n r
theorem Ims.reverse {vs : List V} {ds : List D} (h : Ims A G vs ds) : Ims A G vs.reverse ds.reverse := by
  induction vs generalizing ds with
  | nil => cases h; exact .nil
  | cons v vs ih =>
    cases h with
    | cons h r =>
      rw [List.reverse_cons, List.reverse_cons]
      exact (ih r).append (.cons h .nil)
theorem Ims.set {v : V} {d : D} (h : Im A G v d) : ∀ {vs : List V} {ds : List D} (i : Nat), Ims A G vs ds → Ims A G (vs.set i v) (ds.set i d)
  | _, _, _, .nil => .nil
  | _, _, 0, .cons _ r => .cons h r
  | _, _, i + 1, .cons q r => .cons q (Ims.set h i r)
theorem Ims.erase : ∀ {vs : List V} {ds : List D} (i : Nat), Ims A G vs ds → Ims A G (vs.eraseIdx i) (ds.eraseIdx i)
  | _, _, _, .nil => .nil
  | _, _, 0, .cons _ r => r
  | _, _, i + 1, .cons q r => .cons q (Ims.erase i r)
theorem Ims.dropLast {vs : List V} {ds : List D} (h : Ims A G vs ds) : Ims A G vs.dropLast ds.dropLast := by
  rw [List.dropLast_eq_take, List.dropLast_eq_take, h.length]
  exact h.take _
theorem Ims.one {v : V} {d : D} (h : Im A G v d) : Ims A G [v] [d] := .cons h .nil
end

/-- what a slot that changes holds -/
inductive Cell where
  | lst (ds : List D)
  | ins (c : Str) (ns : List Str) (ds : List D)
  | dct (kvs : List (D × D))

/-- at l, in H, stands c; what is within stays (G) -/
def CellAt (A : Amb) (G H : Hp) (l : Addr) : Cell → Prop
  | .lst ds => ∃ vs, H l = some (.lst vs) ∧ Ims A G vs ds
  | .ins c ns ds => ∃ (C dx : Addr) (fs : List (Str × V)), A.mg c = some (.ref C) ∧ H l = some (.ins C dx fs) ∧ fs.map (·.1) = ns ∧ Ims A G (fs.map (·.2)) ds
  | .dct _ => False
theorem CellAt.mono {A : Amb} {G G' H H' : Hp} {l : Addr} (e : Same G G') (eh : H' l = H l) : ∀ {c : Cell}, CellAt A G H l c → CellAt A G' H' l c
  | .lst ds, ⟨vs, h, r⟩ => ⟨vs, eh.trans h, r.mono e⟩
  | .ins c ns ds, ⟨C, dx, fs, m, h, n, r⟩ => ⟨C, dx, fs, m, eh.trans h, n, r.mono e⟩
theorem CellAt.some {A : Amb} {G H : Hp} {l : Addr} : ∀ {c : Cell}, CellAt A G H l c → ∃ o, H l = some o
  | .lst ds, ⟨vs, h, r⟩ => ⟨_, h⟩
  | .ins c ns ds, ⟨C, dx, fs, m, h, n, r⟩ => ⟨_, h⟩
theorem CellAt.mut {A : Amb} {G H : Hp} {l : Addr} : ∀ {c : Cell}, CellAt A G H l c → Mut (H l)
  | .lst ds, ⟨vs, h, r⟩ => by rw [h]; exact True.intro
  | .ins c ns ds, ⟨C, dx, fs, m, h, n, r⟩ => by rw [h]; exact True.intro

/-- an exception: its class, its fields -/
structure Ex where
  c : Str
  ns : List Str
  ds : List D
/-- a slot: nothing known; a datum; an object of ours alone (p: a parameter's) -/
inductive Sl where
  | no
  | val (d : D)
  | cel (p : Bool) (c : Cell)
  | err (x : Ex)

abbrev E := List Sl
/-- the entry of a def: the heap, what of it stays, the parameters' objects, the exception at hand -/
structure Fx where
  H : Hp
  G : Hp
  C : List Addr
  er : Option (Addr × Value × Option Addr)
/-- an exception of x, its own dict d -/
def ExAt (A : Amb) (G : Hp) (cls : Value) (d : Option Addr) (x : Ex) : Prop :=
  ∃ C, A.mg x.c = some (.ref C) ∧ cls = .ref C ∧ ((x.ns = [] ∧ x.ds = []) ∨ ∃ dd fs, d = some dd ∧ G dd = some (.xd fs) ∧ fs.map (·.1) = x.ns ∧ Ims A G (fs.map (·.2)) x.ds)
theorem ExAt.mono {A : Amb} {G G' : Hp} {cls : Value} {d : Option Addr} {x : Ex} (e : Same G G') (h : ExAt A G cls d x) : ExAt A G' cls d x := by
  obtain ⟨C, h1, h2, h⟩ := h
  refine ⟨C, h1, h2, ?_⟩
  rcases h with h | ⟨dd, fs, a, b, c, f⟩
  · exact .inl h
  · exact .inr ⟨dd, fs, a, e _ _ b, c, f.mono e⟩

structure EnvG (A : Amb) (F : Fx) (P : List (Nat × Addr)) (σ : L2.St) (G H : Hp) (ρ : E) : Prop where
  fr : ∀ a o, a ∉ F.C → F.H a = some o → H a = some o
  gg : Same F.G G
  gh : Same G H
  gn : ∀ a o, G a = some o → F.G a = some o ∨ F.H a = none
  ca : ∀ a ∈ F.C, H a ≠ none
  len : ρ.length = σ.length
  val : ∀ (i : Nat) d, ρ[i]? = some (.val d) → ∃ v, σ[i]? = some (some v) ∧ Im A G v d
  cel : ∀ (i : Nat) p c, ρ[i]? = some (.cel p c) → ∃ l, σ[i]? = some (some (.ref l)) ∧ CellAt A G H l c ∧ G l = none ∧ (if p = true then l ∈ F.C else F.H l = none)
  ap : ∀ (i j : Nat) p q c c' l, ρ[i]? = some (.cel p c) → ρ[j]? = some (.cel q c') → σ[i]? = some (some (.ref l)) → σ[j]? = some (some (.ref l)) → i = j
  pin : ∀ i l, (i, l) ∈ P → σ[i]? = some (some (.ref l)) ∧ ∃ c, ρ[i]? = some (.cel true c)
  err : ∀ (i : Nat) x, ρ[i]? = some (.err x) → ∃ a cls d, F.er = some (a, cls, d) ∧ σ[i]? = some (some (.ref a)) ∧ ExAt A G cls d x

section
variable {A : Amb} {F : Fx} {P : List (Nat × Addr)} {σ σ' : L2.St} {G G' H H' : Hp} {ρ ρ' : E}
/-- the heap grows; of what is new, some stays for ever -/
theorem EnvG.grow (e : EnvG A F P σ G H ρ) (hH : Same H H') (hG : Same G G') (gh : Same G' H') (gn : ∀ a o, G' a = some o → G a = some o ∨ H a = none) : EnvG A F P σ G' H' ρ where
  fr := fun a o n h => hH a o (e.fr a o n h)
  gg := e.gg.trans hG
  gh := gh
  gn := fun a o h => by
    rcases gn a o h with h | h
    · exact e.gn a o h
    · refine .inr ?_
      cases q : F.H a with
      | none => rfl
      | some u =>
        by_cases hc : a ∈ F.C
        · exact absurd h (e.ca a hc)
        · rw [e.fr a u hc q] at h
          cases h
  ca := fun a hc => by
    cases q : H a with
    | none => exact absurd q (e.ca a hc)
    | some o =>
      rw [hH a o q]
      simp
  len := e.len
  val := fun i d h => let ⟨v, h1, h2⟩ := e.val i d h; ⟨v, h1, h2.mono hG⟩
  cel := fun i p c h => by
    obtain ⟨l, h1, h2, h3, h4⟩ := e.cel i p c h
    obtain ⟨o, ho⟩ := h2.some
    refine ⟨l, h1, h2.mono hG ((hH l o ho).trans ho.symm), ?_, h4⟩
    cases q : G' l with
    | none => rfl
    | some u =>
      rcases gn l u q with z | z
      · rw [h3] at z
        cases z
      · rw [ho] at z
        cases z
  ap := e.ap
  pin := e.pin
  err := fun i x h => let ⟨a, cls, d, h1, h2, h3⟩ := e.err i x h; ⟨a, cls, d, h1, h2, h3.mono hG⟩
theorem EnvG.more (e : EnvG A F P σ G H ρ) (hH : Same H H') : EnvG A F P σ G H' ρ :=
  e.grow hH (Same.refl G) (fun a o h => hH a o (e.gh a o h)) fun _ _ h => .inl h
/-- a new thing that stays -/
theorem EnvG.new {a : Addr} {o : HO} (e : EnvG A F P σ G H ρ) (n : H a = none) : EnvG A F P σ (upd G a o) (upd H a o) ρ ∧ Same G (upd G a o) := by
  have ng : G a = none := by
    cases q : G a with
    | none => rfl
    | some u =>
      rw [e.gh a u q] at n
      cases n
  have sG : Same G (upd G a o) := fun b u q => by
    rw [upd_ne (ne_of_none q ng)]
    exact q
  refine ⟨e.grow (fun b u q => by rw [upd_ne (ne_of_none q n)]; exact q) sG (fun b u q => ?_) (fun b u q => ?_), sG⟩
  · by_cases h : b = a
    · subst h
      rw [upd_same] at q ⊢
      exact q
    · rw [upd_ne h] at q ⊢
      exact e.gh b u q
  · by_cases h : b = a
    · subst h
      exact .inr n
    · rw [upd_ne h] at q
      exact .inl q
/-- a slot is given a datum -/
theorem EnvG.setVal {i : Nat} {v : V} {d : D} (e : EnvG A F P σ G H ρ) (hP : ∀ l, (i, l) ∉ P) (h : Im A G v d) : EnvG A F P (σ.set i (some v)) G H (ρ.set i (.val d)) where
  fr := e.fr
  gg := e.gg
  gh := e.gh
  gn := e.gn
  ca := e.ca
  len := by rw [List.length_set, List.length_set]; exact e.len
  val := fun j u q => by
    by_cases hj : i = j
    · subst hj
      rw [List.getElem?_set] at q
      rw [List.getElem?_set]
      by_cases hl : i < ρ.length
      · rw [if_pos rfl, if_pos hl] at q
        rw [if_pos rfl, if_pos (e.len ▸ hl)]
        cases q
        exact ⟨v, rfl, h⟩
      · rw [if_pos rfl, if_neg hl] at q
        cases q
    · rw [List.getElem?_set_ne hj] at q ⊢
      exact e.val j u q
  cel := fun j p c q => by
    by_cases hj : i = j
    · subst hj
      rw [List.getElem?_set] at q
      by_cases hl : i < ρ.length
      · rw [if_pos rfl, if_pos hl] at q
        cases q
      · rw [if_pos rfl, if_neg hl] at q
        cases q
    · rw [List.getElem?_set_ne hj] at q ⊢
      exact e.cel j p c q
  ap := fun j k p q c c' l h1 h2 h3 h4 => by
    have go : ∀ {m : Nat} {r : Bool} {b : Cell}, (ρ.set i (.val d))[m]? = some (.cel r b) → i ≠ m ∧ ρ[m]? = some (.cel r b) := fun {m r b} z => by
      by_cases hm : i = m
      · subst hm
        rw [List.getElem?_set] at z
        by_cases hl : i < ρ.length
        · rw [if_pos rfl, if_pos hl] at z
          cases z
        · rw [if_pos rfl, if_neg hl] at z
          cases z
      · rw [List.getElem?_set_ne hm] at z
        exact ⟨hm, z⟩
    obtain ⟨n1, g1⟩ := go h1
    obtain ⟨n2, g2⟩ := go h2
    rw [List.getElem?_set_ne n1] at h3
    rw [List.getElem?_set_ne n2] at h4
    exact e.ap j k p q c c' l g1 g2 h3 h4
  pin := fun j l m => by
    have hj : i ≠ j := fun z => hP l (z ▸ m)
    rw [List.getElem?_set_ne hj, List.getElem?_set_ne hj]
    exact e.pin j l m
  err := fun j x q => by
    by_cases hj : i = j
    · subst hj
      rw [List.getElem?_set] at q
      by_cases hl : i < ρ.length
      · rw [if_pos rfl, if_pos hl] at q
        cases q
      · rw [if_pos rfl, if_neg hl] at q
        cases q
    · rw [List.getElem?_set_ne hj] at q ⊢
      exact e.err j x q
/-- a slot's object, which is ours alone, is changed -/
theorem EnvG.write {i : Nat} {p : Bool} {c c' : Cell} {l : Addr} {o : HO} (e : EnvG A F P σ G H ρ) (hi : ρ[i]? = some (.cel p c)) (hl : σ[i]? = some (some (.ref l))) (h : CellAt A G (upd H l o) l c') :
    EnvG A F P σ G (upd H l o) (ρ.set i (.cel p c')) := by
  obtain ⟨l', h1, h2, h3, h4⟩ := e.cel i p c hi
  have el : l' = l := by
    rw [hl] at h1
    cases h1
    rfl
  subst el
  have hlt : i < ρ.length := (List.getElem?_eq_some_iff.mp hi).1
  have at_ : ∀ {m : Nat} {s : Sl}, (ρ.set i (.cel p c'))[m]? = some s → (i = m ∧ s = .cel p c') ∨ (i ≠ m ∧ ρ[m]? = some s) := fun {m s} z => by
    by_cases hm : i = m
    · subst hm
      rw [List.getElem?_set_self hlt] at z
      cases z
      exact .inl ⟨rfl, rfl⟩
    · rw [List.getElem?_set_ne hm] at z
      exact .inr ⟨hm, z⟩
  refine ⟨fun a u n q => ?_, e.gg, fun a u q => ?_, e.gn, fun a hc => ?_, by rw [List.length_set]; exact e.len, fun j d q => ?_, fun j q c2 z => ?_, fun j k p1 q1 c1 c2 m z1 z2 z3 z4 => ?_, fun j m z => ?_, fun j x z => ?_⟩
  · have ne : a ≠ l' := fun z => by
      subst z
      cases p with
      | true => exact n h4
      | false =>
        rw [show F.H a = none from h4] at q
        cases q
    rw [upd_ne ne]
    exact e.fr a u n q
  · have ne : a ≠ l' := fun z => by
      subst z
      rw [h3] at q
      cases q
    rw [upd_ne ne]
    exact e.gh a u q
  · by_cases z : a = l'
    · subst z
      rw [upd_same]
      simp
    · rw [upd_ne z]
      exact e.ca a hc
  · rcases at_ q with ⟨_, z⟩ | ⟨_, z⟩
    · cases z
    · exact e.val j d z
  · rcases at_ z with ⟨y, z5⟩ | ⟨y, z⟩
    · subst y
      cases z5
      exact ⟨l', h1, h, h3, h4⟩
    · obtain ⟨m, k1, k2, k3, k4⟩ := e.cel j q c2 z
      refine ⟨m, k1, k2.mono (Same.refl G) (upd_ne fun w => ?_), k3, k4⟩
      subst w
      exact y (e.ap i j p q c c2 m hi z h1 k1)
  · have old : ∀ {m : Nat} {r : Bool} {b : Cell}, (ρ.set i (.cel p c'))[m]? = some (.cel r b) → ∃ r' b', ρ[m]? = some (.cel r' b') := fun {m r b} z => by
      rcases at_ z with ⟨y, _⟩ | ⟨_, z⟩
      · subst y
        exact ⟨p, c, hi⟩
      · exact ⟨r, b, z⟩
    obtain ⟨r1, b1, g1⟩ := old z1
    obtain ⟨r2, b2, g2⟩ := old z2
    exact e.ap j k r1 r2 b1 b2 m g1 g2 z3 z4
  · obtain ⟨y1, c2, y2⟩ := e.pin j m z
    refine ⟨y1, ?_⟩
    by_cases hj : i = j
    · subst hj
      rw [hi] at y2
      cases y2
      exact ⟨c', List.getElem?_set_self hlt⟩
    · exact ⟨c2, (List.getElem?_set_ne hj).trans y2⟩
  · rcases at_ z with ⟨_, y⟩ | ⟨_, y⟩
    · cases y
    · exact e.err j x y
/-- a new object of ours comes to a slot -/
theorem EnvG.setCel {i : Nat} {l : Addr} {c : Cell} (e : EnvG A F P σ G H ρ) (hP : ∀ l, (i, l) ∉ P) (h : CellAt A G H l c) (hg : G l = none) (hF : F.H l = none)
    (hn : ∀ (j : Nat) p c', ρ[j]? = some (.cel p c') → σ[j]? ≠ some (some (.ref l))) : EnvG A F P (σ.set i (some (.ref l))) G H (ρ.set i (.cel false c)) where
  fr := e.fr
  gg := e.gg
  gh := e.gh
  gn := e.gn
  ca := e.ca
  len := by rw [List.length_set, List.length_set]; exact e.len
  val := fun j u q => by
    by_cases hj : i = j
    · subst hj
      rw [List.getElem?_set] at q
      by_cases hl : i < ρ.length
      · rw [if_pos rfl, if_pos hl] at q
        cases q
      · rw [if_pos rfl, if_neg hl] at q
        cases q
    · rw [List.getElem?_set_ne hj] at q ⊢
      exact e.val j u q
  cel := fun j p c2 q => by
    by_cases hj : i = j
    · subst hj
      rw [List.getElem?_set] at q
      rw [List.getElem?_set]
      by_cases hl : i < ρ.length
      · rw [if_pos rfl, if_pos hl] at q
        rw [if_pos rfl, if_pos (e.len ▸ hl)]
        cases q
        exact ⟨l, rfl, h, hg, hF⟩
      · rw [if_pos rfl, if_neg hl] at q
        cases q
    · rw [List.getElem?_set_ne hj] at q ⊢
      exact e.cel j p c2 q
  ap := fun j k p q c1 c2 m h1 h2 h3 h4 => by
    have go : ∀ {n : Nat} {r : Bool} {b : Cell}, (ρ.set i (.cel false c))[n]? = some (.cel r b) → (σ.set i (some (.ref l)))[n]? = some (some (.ref m)) → (i = n ∧ l = m) ∨ (i ≠ n ∧ ρ[n]? = some (.cel r b) ∧ σ[n]? = some (some (.ref m))) := fun {n r b} z y => by
      by_cases hm : i = n
      · subst hm
        rw [List.getElem?_set] at z y
        by_cases hl : i < σ.length
        · rw [if_pos rfl, if_pos hl] at y
          cases y
          exact .inl ⟨rfl, rfl⟩
        · rw [if_pos rfl, if_neg hl] at y
          cases y
      · rw [List.getElem?_set_ne hm] at z y
        exact .inr ⟨hm, z, y⟩
    rcases go h1 h3 with ⟨a1, b1⟩ | ⟨a1, b1, d1⟩
    · rcases go h2 h4 with ⟨a2, b2⟩ | ⟨a2, b2, d2⟩
      · exact a1.symm.trans a2
      · subst b1
        exact absurd d2 (hn k q c2 b2)
    · rcases go h2 h4 with ⟨a2, b2⟩ | ⟨a2, b2, d2⟩
      · subst b2
        exact absurd d1 (hn j p c1 b1)
      · exact e.ap j k p q c1 c2 m b1 b2 d1 d2
  pin := fun j m z => by
    have hj : i ≠ j := fun y => hP m (y ▸ z)
    rw [List.getElem?_set_ne hj, List.getElem?_set_ne hj]
    exact e.pin j m z
  err := fun j x q => by
    by_cases hj : i = j
    · subst hj
      rw [List.getElem?_set] at q
      by_cases hl : i < ρ.length
      · rw [if_pos rfl, if_pos hl] at q
        cases q
      · rw [if_pos rfl, if_neg hl] at q
        cases q
    · rw [List.getElem?_set_ne hj] at q ⊢
      exact e.err j x q
/-- a list of ours is ours no longer: it stays as it is -/
theorem EnvG.freeze {i : Nat} {ds : List D} (e : EnvG A F P σ G H ρ) (hi : ρ[i]? = some (.cel false (.lst ds))) :
    ∃ l G', σ[i]? = some (some (.ref l)) ∧ Same G G' ∧ EnvG A F P σ G' H (ρ.set i (.val (.lst ds))) ∧ Im A G' (.ref l) (.lst ds) := by
  obtain ⟨l, h1, ⟨vs, h2, hv⟩, h3, h4⟩ := e.cel i false (.lst ds) hi
  have h4 : F.H l = none := h4
  have sG : Same G (upd G l (.lst vs)) := fun b u q => by
    rw [upd_ne (ne_of_none q h3)]
    exact q
  have im : Im A (upd G l (.lst vs)) (.ref l) (.lst ds) := .lst (SqL.of upd_same) (hv.mono sG)
  have hlt : i < ρ.length := (List.getElem?_eq_some_iff.mp hi).1
  have at_ : ∀ {m : Nat} {s : Sl}, (ρ.set i (.val (.lst ds)))[m]? = some s → (i = m ∧ s = .val (.lst ds)) ∨ (i ≠ m ∧ ρ[m]? = some s) := fun {m s} z => by
    by_cases hm : i = m
    · subst hm
      rw [List.getElem?_set_self hlt] at z
      cases z
      exact .inl ⟨rfl, rfl⟩
    · rw [List.getElem?_set_ne hm] at z
      exact .inr ⟨hm, z⟩
  refine ⟨l, _, h1, sG, ⟨e.fr, e.gg.trans sG, fun b u q => ?_, fun b u q => ?_, e.ca, by rw [List.length_set]; exact e.len, fun j d q => ?_, fun j p c q => ?_, fun j k p q c c' m z1 z2 z3 z4 => ?_, fun j m z => ?_, fun j x z => ?_⟩, im⟩
  · by_cases hb : b = l
    · subst hb
      rw [upd_same] at q
      rw [h2]
      exact q
    · rw [upd_ne hb] at q
      exact e.gh b u q
  · by_cases hb : b = l
    · subst hb
      exact .inr h4
    · rw [upd_ne hb] at q
      exact e.gn b u q
  · rcases at_ q with ⟨y, z⟩ | ⟨y, z⟩
    · subst y
      cases z
      exact ⟨_, h1, im⟩
    · obtain ⟨v, k1, k2⟩ := e.val j d z
      exact ⟨v, k1, k2.mono sG⟩
  · rcases at_ q with ⟨y, z⟩ | ⟨y, z⟩
    · cases z
    · obtain ⟨m, k1, k2, k3, k4⟩ := e.cel j p c z
      refine ⟨m, k1, k2.mono sG rfl, ?_, k4⟩
      have ne : m ≠ l := fun w => by
        subst w
        exact y (e.ap i j false p _ c m hi z h1 k1)
      rw [upd_ne ne]
      exact k3
  · rcases at_ z1 with ⟨_, y⟩ | ⟨_, y1⟩
    · cases y
    · rcases at_ z2 with ⟨_, y⟩ | ⟨_, y2⟩
      · cases y
      · exact e.ap j k p q c c' m y1 y2 z3 z4
  · obtain ⟨y1, c2, y2⟩ := e.pin j m z
    refine ⟨y1, c2, ?_⟩
    have hj : i ≠ j := fun w => by
      subst w
      rw [hi] at y2
      cases y2
    exact (List.getElem?_set_ne hj).trans y2
  · rcases at_ z with ⟨_, y⟩ | ⟨_, y⟩
    · cases y
    · obtain ⟨a, cls, d, k1, k2, k3⟩ := e.err j x y
      exact ⟨a, cls, d, k1, k2, k3.mono sG⟩
/-- a slot is forgotten -/
theorem EnvG.forget {i : Nat} (e : EnvG A F P σ G H ρ) (hP : ∀ l, (i, l) ∉ P) (o : Option V) : EnvG A F P (σ.set i o) G H (ρ.set i .no) where
  fr := e.fr
  gg := e.gg
  gh := e.gh
  gn := e.gn
  ca := e.ca
  len := by rw [List.length_set, List.length_set]; exact e.len
  val := fun j u q => by
    by_cases hj : i = j
    · subst hj
      rw [List.getElem?_set] at q
      by_cases hl : i < ρ.length
      · rw [if_pos rfl, if_pos hl] at q
        cases q
      · rw [if_pos rfl, if_neg hl] at q
        cases q
    · rw [List.getElem?_set_ne hj] at q ⊢
      exact e.val j u q
  cel := fun j p c q => by
    by_cases hj : i = j
    · subst hj
      rw [List.getElem?_set] at q
      by_cases hl : i < ρ.length
      · rw [if_pos rfl, if_pos hl] at q
        cases q
      · rw [if_pos rfl, if_neg hl] at q
        cases q
    · rw [List.getElem?_set_ne hj] at q ⊢
      exact e.cel j p c q
  ap := fun j k p q c c' l h1 h2 h3 h4 => by
    have go : ∀ {m : Nat} {r : Bool} {b : Cell}, (ρ.set i .no)[m]? = some (.cel r b) → i ≠ m ∧ ρ[m]? = some (.cel r b) := fun {m r b} z => by
      by_cases hm : i = m
      · subst hm
        rw [List.getElem?_set] at z
        by_cases hl : i < ρ.length
        · rw [if_pos rfl, if_pos hl] at z
          cases z
        · rw [if_pos rfl, if_neg hl] at z
          cases z
      · rw [List.getElem?_set_ne hm] at z
        exact ⟨hm, z⟩
    obtain ⟨n1, g1⟩ := go h1
    obtain ⟨n2, g2⟩ := go h2
    rw [List.getElem?_set_ne n1] at h3
    rw [List.getElem?_set_ne n2] at h4
    exact e.ap j k p q c c' l g1 g2 h3 h4
  pin := fun j l m => by
    have hj : i ≠ j := fun z => hP l (z ▸ m)
    rw [List.getElem?_set_ne hj, List.getElem?_set_ne hj]
    exact e.pin j l m
  err := fun j x q => by
    by_cases hj : i = j
    · subst hj
      rw [List.getElem?_set] at q
      by_cases hl : i < ρ.length
      · rw [if_pos rfl, if_pos hl] at q
        cases q
      · rw [if_pos rfl, if_neg hl] at q
        cases q
    · rw [List.getElem?_set_ne hj] at q ⊢
      exact e.err j x q
end
end Z

set_option Elab.async false
set_option linter.all false
set_option maxRecDepth 100000
set_option maxHeartbeats 4000000
/-! ZB: the monad of mirrors, judgements over the hand layer's. -/
namespace Z
open PySem PySem.Spec PyProof.Rows L2

inductive R (α : Type) where
  | ok (a : α) (ρ : E)
  | ex (x : Ex) (ρ : E)
abbrev M (α : Type) := E → Option (R α)
def pureM {α : Type} (a : α) : M α := fun ρ => some (.ok a ρ)
def failM {α : Type} : M α := fun _ => none
def bindM {α β : Type} (m : M α) (k : α → M β) : M β := fun ρ => match m ρ with
  | none => none
  | some (.ex x ρ') => some (.ex x ρ')
  | some (.ok a ρ') => k a ρ'
def optM {α : Type} : Option α → M α
  | none => failM
  | some a => pureM a
theorem bindM_ok {α β : Type} {m : M α} {k : α → M β} {ρ ρ' : E} {a : α} (h : m ρ = some (.ok a ρ')) : bindM m k ρ = k a ρ' := by
  unfold bindM
  rw [h]
theorem bindM_ex {α β : Type} {m : M α} {k : α → M β} {ρ ρ' : E} {x : Ex} (h : m ρ = some (.ex x ρ')) : bindM m k ρ = some (.ex x ρ') := by
  unfold bindM
  rw [h]
theorem bindM_none {α β : Type} {m : M α} {k : α → M β} {ρ : E} (h : m ρ = none) : bindM m k ρ = none := by
  unfold bindM
  rw [h]

/-- what an expression hands on: a datum that stays; the object of a slot; a new list -/
inductive Rf where
  | dat (d : D)
  | cel (i : Nat)
  | new (ds : List D)
def stl : Rf → Rf
  | .new ds => .dat (.lst ds)
  | r => r
def mk : D → Rf
  | .lst ds => .new ds
  | d => .dat d
/-- what is wished of exceptions, the exception at hand -/
structure Yc where
  W : WX
  er : Option (Addr × Value × Option Addr)

def RfOk (A : Amb) (F : Fx) (σ : L2.St) (G H : Hp) (ρ : E) (v : V) : Rf → Prop
  | .dat d => Im A G v d
  | .cel i => σ[i]? = some (some v)
  | .new ds => ∃ l vs, v = .ref l ∧ H l = some (.lst vs) ∧ G l = none ∧ F.H l = none ∧ Ims A G vs ds ∧ ∀ (j : Nat) p c, ρ[j]? = some (.cel p c) → σ[j]? ≠ some (some (.ref l))
/-- settled -/
def SOk (A : Amb) (σ : L2.St) (G : Hp) (v : V) : Rf → Prop
  | .dat d => Im A G v d
  | .cel i => σ[i]? = some (some v)
  | .new _ => False
theorem SOk.mono {A : Amb} {σ : L2.St} {G G' : Hp} {v : V} (e : Same G G') : ∀ {x : Rf}, SOk A σ G v x → SOk A σ G' v x
  | .dat _, h => Im.mono e h
  | .cel _, h => h
inductive SOks (A : Amb) (σ : L2.St) (G : Hp) : List V → List Rf → Prop
  | nil : SOks A σ G [] []
  | cons {v : V} {x : Rf} {vs : List V} {xs : List Rf} : SOk A σ G v x → SOks A σ G vs xs → SOks A σ G (v :: vs) (x :: xs)
theorem SOks.mono {A : Amb} {σ : L2.St} {G G' : Hp} (e : Same G G') : ∀ {vs : List V} {xs : List Rf}, SOks A σ G vs xs → SOks A σ G' vs xs
  | _, _, .nil => .nil
  | _, _, .cons h r => .cons (h.mono e) (SOks.mono e r)

abbrev Rel (α β : Type) := Fx → L2.St → Hp → Hp → E → β → α → Prop
abbrev relE (A : Amb) : Rel Rf V := fun F σ G H ρ v x => RfOk A F σ G H ρ v x
abbrev relA (A : Amb) : Rel (List Rf) (List V) := fun _ σ G _ _ vs xs => SOks A σ G vs xs
abbrev relB : Rel Bool Bool := fun _ _ _ _ _ b c => b = c
abbrev relO : Rel (Option Int) (Option Int) := fun _ _ _ _ _ b c => b = c
def Post (A : Amb) (Y : Yc) {α β : Type} (Re : Rel α β) (F : Fx) (P : List (Nat × Addr)) (σ : L2.St) (Q : β → Hp → Prop) (G : Hp) : R α → Prop
  | .ok a ρ => ∀ b G' H', Same G G' → EnvG A F P σ G' H' ρ → Re F σ G' H' ρ b a → Q b H'
  | .ex x ρ => ∀ cls d G' H', Same G G' → EnvG A F P σ G' H' ρ → ExAt A G' cls d x → Y.W cls d σ H'
def tG (A : Amb) (Y : Yc) {α β : Type} (Re : Rel α β) (m : M α) : L2.St → Hp → (β → Hp → Prop) → Prop := fun σ H Q =>
  ∃ F P G ρ r, F.er = Y.er ∧ EnvG A F P σ G H ρ ∧ m ρ = some r ∧ Post A Y Re F P σ Q G r
theorem Post.mono {A : Amb} {Y : Yc} {α β : Type} {Re : Rel α β} {F : Fx} {P : List (Nat × Addr)} {σ : L2.St} {Q : β → Hp → Prop} {G G' : Hp} (e : Same G G') : ∀ {r : R α}, Post A Y Re F P σ Q G r → Post A Y Re F P σ Q G' r
  | .ok a ρ, h => fun b G2 H2 s => h b G2 H2 (e.trans s)
  | .ex x ρ, h => fun c d G2 H2 s => h c d G2 H2 (e.trans s)
section
variable {A : Amb} {Y : Yc} {F : Fx} {P : List (Nat × Addr)} {σ : L2.St} {G H : Hp} {ρ : E}
theorem tG_bind {α β γ δ : Type} {Re : Rel α β} {Re' : Rel γ δ} {ma : M α} {k : α → M γ} {r : R γ} {Q : δ → Hp → Prop} {T : β → Hp → Prop} (er : F.er = Y.er) (e : EnvG A F P σ G H ρ) (hm : bindM ma k ρ = some r) (hp : Post A Y Re' F P σ Q G r)
    (hT : ∀ G1 H1 ρ1 x v, Same G G1 → EnvG A F P σ G1 H1 ρ1 → Re F σ G1 H1 ρ1 v x → k x ρ1 = some r → T v H1) : tG A Y Re ma σ H T := by
  cases h : ma ρ with
  | none =>
    rw [bindM_none h] at hm
    cases hm
  | some r1 =>
    refine ⟨F, P, G, ρ, r1, er, e, h, ?_⟩
    cases r1 with
    | ok a ρ' =>
      rw [bindM_ok h] at hm
      exact fun v G1 H1 s e1 ra => hT G1 H1 ρ' a v s e1 ra hm
    | ex x ρ' =>
      rw [bindM_ex h] at hm
      cases hm
      exact hp
theorem settle {v : V} {x : Rf} (e : EnvG A F P σ G H ρ) (h : RfOk A F σ G H ρ v x) : ∃ G', Same G G' ∧ EnvG A F P σ G' H ρ ∧ SOk A σ G' v (stl x) := by
  cases x with
  | dat d => exact ⟨G, Same.refl G, e, h⟩
  | cel i => exact ⟨G, Same.refl G, e, h⟩
  | new ds =>
    obtain ⟨l, vs, rfl, h1, h2, h3, h4, h5⟩ := h
    have sG : Same G (upd G l (.lst vs)) := fun b u q => by
      rw [upd_ne (ne_of_none q h2)]
      exact q
    refine ⟨_, sG, ⟨e.fr, e.gg.trans sG, fun b u q => ?_, fun b u q => ?_, e.ca, e.len, fun j d q => ?_, fun j p c q => ?_, e.ap, e.pin, fun j x q => ?_⟩, .lst (SqL.of upd_same) (h4.mono sG)⟩
    · by_cases hb : b = l
      · subst hb
        rw [upd_same] at q
        rw [h1]
        exact q
      · rw [upd_ne hb] at q
        exact e.gh b u q
    · by_cases hb : b = l
      · subst hb
        exact .inr h3
      · rw [upd_ne hb] at q
        exact e.gn b u q
    · obtain ⟨v, k1, k2⟩ := e.val j d q
      exact ⟨v, k1, k2.mono sG⟩
    · obtain ⟨m, k1, k2, k3, k4⟩ := e.cel j p c q
      refine ⟨m, k1, k2.mono sG rfl, ?_, k4⟩
      have ne : m ≠ l := fun w => by
        subst w
        exact h5 j p c q k1
      rw [upd_ne ne]
      exact k3
    · obtain ⟨a, cls, d, k1, k2, k3⟩ := e.err j x q
      exact ⟨a, cls, d, k1, k2, k3.mono sG⟩
/-- an operand: settled at once -/
theorem tE_bind {γ δ : Type} {Re' : Rel γ δ} {ma : M Rf} {k : Rf → M γ} {r : R γ} {Q : δ → Hp → Prop} {T : V → Hp → Prop} (er : F.er = Y.er) (e : EnvG A F P σ G H ρ) (hm : bindM ma k ρ = some r) (hp : Post A Y Re' F P σ Q G r)
    (hT : ∀ G1 H1 ρ1 x v, Same G G1 → EnvG A F P σ G1 H1 ρ1 → SOk A σ G1 v (stl x) → k x ρ1 = some r → Post A Y Re' F P σ Q G1 r → T v H1) : tG A Y (relE A) ma σ H T :=
  tG_bind er e hm hp fun G1 H1 ρ1 x v s e1 ra hk => by
    obtain ⟨G2, s2, e2, so⟩ := settle e1 ra
    exact hT G2 H1 ρ1 x v (s.trans s2) e2 so hk (hp.mono (s.trans s2))
end

/-- what a settled result is now -/
def deref (ρ : E) : Rf → Option D
  | .dat d => some d
  | .cel i => match ρ[i]? with
    | some (.cel _ (.lst ds)) => some (.lst ds)
    | some (.cel _ (.ins c ns ds)) => some (.ins c ns ds)
    | _ => none
  | .new ds => some (.lst ds)
def drf (x : Rf) : M D := fun ρ => match deref ρ x with
  | some d => some (.ok d ρ)
  | none => none
def derefs (ρ : E) : List Rf → Option (List D)
  | [] => some []
  | x :: xs => match deref ρ x, derefs ρ xs with
    | some d, some ds => some (d :: ds)
    | _, _ => none
def drfs (xs : List Rf) : M (List D) := fun ρ => match derefs ρ xs with
  | some d => some (.ok d ρ)
  | none => none
def Top (A : Amb) (G H : Hp) (v : V) (d : D) : Prop :=
  Im A G v d ∨ (∃ l vs ds, v = .ref l ∧ d = .lst ds ∧ H l = some (.lst vs) ∧ Ims A G vs ds) ∨
    ∃ l C dx fs c ns ds, v = .ref l ∧ d = .ins c ns ds ∧ A.mg c = some (.ref C) ∧ H l = some (.ins C dx fs) ∧ fs.map (·.1) = ns ∧ Ims A G (fs.map (·.2)) ds
inductive Tops (A : Amb) (G H : Hp) : List V → List D → Prop
  | nil : Tops A G H [] []
  | cons {v : V} {d : D} {vs : List V} {ds : List D} : Top A G H v d → Tops A G H vs ds → Tops A G H (v :: vs) (d :: ds)
theorem top_of {A : Amb} {F : Fx} {P : List (Nat × Addr)} {σ : L2.St} {G H : Hp} {ρ : E} {v : V} {x : Rf} {d : D} (e : EnvG A F P σ G H ρ) (h : SOk A σ G v x) (hd : deref ρ x = some d) : Top A G H v d := by
  cases x with
  | dat d' =>
    cases hd
    exact .inl h
  | new ds => exact h.elim
  | cel i =>
    have h : σ[i]? = some (some v) := h
    unfold deref at hd
    simp only at hd
    cases q : ρ[i]? with
    | none =>
      rw [q] at hd
      cases hd
    | some s =>
      rw [q] at hd
      cases s with
      | no => cases hd
      | val d' => cases hd
      | err x => cases hd
      | cel p c =>
        obtain ⟨l, h1, h2, _⟩ := e.cel i p c q
        rw [h] at h1
        cases h1
        cases c with
        | lst ds =>
          cases hd
          obtain ⟨vs, h2, h3⟩ := h2
          exact .inr (.inl ⟨l, vs, ds, rfl, rfl, h2, h3⟩)
        | ins c ns ds =>
          cases hd
          obtain ⟨C, dx, fs, m, h2, h3, h4⟩ := h2
          exact .inr (.inr ⟨l, C, dx, fs, c, ns, ds, rfl, rfl, m, h2, h3, h4⟩)
        | dct kvs => cases hd
theorem tops_of {A : Amb} {F : Fx} {P : List (Nat × Addr)} {σ : L2.St} {G H : Hp} {ρ : E} (e : EnvG A F P σ G H ρ) : ∀ {vs : List V} {xs : List Rf} {ds : List D}, SOks A σ G vs xs → derefs ρ xs = some ds → Tops A G H vs ds
  | _, _, _, .nil, h => by
    cases h
    exact .nil
  | _, x :: xs, _, .cons h r, hd => by
    unfold derefs at hd
    cases h1 : deref ρ x with
    | none =>
      rw [h1] at hd
      cases hd
    | some d =>
      cases h2 : derefs ρ xs with
      | none =>
        rw [h1, h2] at hd
        cases hd
      | some ds =>
        rw [h1, h2] at hd
        cases hd
        exact .cons (top_of e h h1) (tops_of e r h2)
theorem Top.scal {A : Amb} {G H : Hp} {v : V} : ∀ {d : D}, Top A G H v d → (∀ ds, d ≠ .lst ds) → (∀ c ns ds, d ≠ .ins c ns ds) → Im A G v d
  | _, .inl h, _, _ => h
  | _, .inr (.inl ⟨l, vs, ds, _, h, _⟩), n, _ => absurd h (n ds)
  | _, .inr (.inr ⟨_, _, _, _, c, ns, ds, _, h, _⟩), _, n => absurd h (n c ns ds)
theorem Top.int {A : Amb} {G H : Hp} {v : V} {i : Int} (h : Top A G H v (.int i)) : v = .int i := by
  cases h.scal (fun _ => by simp) (fun _ _ _ => by simp)
  rfl
theorem Top.bl {A : Amb} {G H : Hp} {v : V} {i : Bool} (h : Top A G H v (.bl i)) : v = .bl i := by
  cases h.scal (fun _ => by simp) (fun _ _ _ => by simp)
  rfl
theorem Top.str {A : Amb} {G H : Hp} {v : V} {i : Str} (h : Top A G H v (.str i)) : v = .str i := by
  cases h.scal (fun _ => by simp) (fun _ _ _ => by simp)
  rfl
theorem Top.non {A : Amb} {G H : Hp} {v : V} (h : Top A G H v .non) : v = .non := by
  cases h.scal (fun _ => by simp) (fun _ _ _ => by simp)
  rfl
theorem Top.lst {A : Amb} {G H : Hp} {v : V} {ds : List D} (g : Same G H) (h : Top A G H v (.lst ds)) : ∃ l vs, v = .ref l ∧ SqL A.K H l vs ∧ Ims A G vs ds := by
  rcases h with h | ⟨l, vs, ds', hv, hd, h1, h2⟩ | ⟨_, _, _, _, _, _, _, _, hd, _⟩
  · cases h with
    | lst h r => exact ⟨_, _, rfl, g.seq h, r⟩
  · cases hd
    exact ⟨l, vs, hv, SqL.of h1, h2⟩
  · cases hd
theorem Top.tup {A : Amb} {G H : Hp} {v : V} {ds : List D} (g : Same G H) (h : Top A G H v (.tup ds)) : ∃ l vs, v = .ref l ∧ SqT A.K H l vs ∧ Ims A G vs ds := by
  cases h.scal (fun _ => by simp) (fun _ _ _ => by simp) with
  | tup h1 r => exact ⟨_, _, rfl, same_sqT g h1.sq, r⟩

section
variable {A : Amb} {Y : Yc} {F : Fx} {P : List (Nat × Addr)} {σ : L2.St} {G H : Hp} {ρ : E}
theorem EnvG.free (e : EnvG A F P σ G H ρ) {p : Addr} (n : H p = none) : F.H p = none := by
  cases q : F.H p with
  | none => rfl
  | some u =>
    by_cases hc : p ∈ F.C
    · exact absurd n (e.ca p hc)
    · rw [e.fr p u hc q] at n
      cases n
theorem EnvG.freeG (e : EnvG A F P σ G H ρ) {p : Addr} (n : H p = none) : G p = none := by
  cases q : G p with
  | none => rfl
  | some u =>
    rw [e.gh p u q] at n
    cases n
theorem same_new {H : Hp} {p : Addr} {o : HO} (n : H p = none) : Same H (upd H p o) := fun b u q => by
  rw [upd_ne (ne_of_none q n)]
  exact q
theorem EnvG.newL (e : EnvG A F P σ G H ρ) {p : Addr} {vs : List V} {ds : List D} (n : H p = none) (hv : Ims A G vs ds) : EnvG A F P σ G (upd H p (.lst vs)) ρ ∧ RfOk A F σ G (upd H p (.lst vs)) ρ (.ref p) (.new ds) :=
  ⟨e.more (same_new n), p, vs, rfl, upd_same, e.freeG n, e.free n, hv, fun j q c h z => by
    obtain ⟨l, h1, h2, _⟩ := e.cel j q c h
    obtain ⟨o, ho⟩ := h2.some
    rw [z] at h1
    cases h1
    rw [n] at ho
    cases ho⟩
theorem EnvG.newT (e : EnvG A F P σ G H ρ) {p : Addr} {o : Obj} {vs : List V} {ds : List D} (n : H p = none) (hd : o.dict = none) (hv : Ims A G vs ds) :
    ∃ G', Same G G' ∧ EnvG A F P σ G' (upd H p (.frz o (.tup vs))) ρ ∧ RfOk A F σ G' (upd H p (.frz o (.tup vs))) ρ (.ref p) (.dat (.tup ds)) := by
  obtain ⟨e1, s⟩ := e.new (o := .frz o (.tup vs)) n
  exact ⟨_, s, e1, .tup (.inl ⟨o, upd_same, hd⟩) (hv.mono s)⟩
theorem EnvG.newP (e : EnvG A F P σ G H ρ) {p : Addr} {vs : List V} {ds : List D} (n : H p = none) (hv : Ims A G vs ds) : ∃ G', Same G G' ∧ EnvG A F P σ G' (upd H p (.tup vs)) ρ ∧ RfOk A F σ G' (upd H p (.tup vs)) ρ (.ref p) (.dat (.pr ds)) := by
  obtain ⟨e1, s⟩ := e.new (o := .tup vs) n
  exact ⟨_, s, e1, .pr (SqT.of upd_same) (hv.mono s)⟩
end

/-! ### judgements -/
abbrev amb (X : Cx) : Amb := ⟨X.K, X.mg⟩
def DE (X : Cx) (Y : Yc) (e : Expr) (m : M Rf) : Prop := PE X e (tG (amb X) Y (relE (amb X)) m)
def DT (X : Cx) (Y : Yc) (e : Expr) (m : M Bool) : Prop := PT X e (tG (amb X) Y relB m)
def DW (X : Cx) (Y : Yc) (e : Expr) (m : M Bool) : Prop := PW X e (tG (amb X) Y relB m)
def DA (X : Cx) (Y : Yc) (es : List Expr) (m : M (List Rf)) : Prop := PA X es (tG (amb X) Y (relA (amb X)) m)
def DO (X : Cx) (Y : Yc) (e : Option Expr) (m : M (Option Int)) : Prop := PO X e (tG (amb X) Y relO m)
theorem PE.weak {X : Cx} {e : Expr} {t t' : TE} (h : PE X e t) (w : ∀ σ H Q, t' σ H Q → t σ H Q) : PE X e t' := ⟨fun pins s σ H Q I q => h.run pins s σ H Q I (w _ _ _ q)⟩
theorem PT.weak {X : Cx} {e : Expr} {t t' : TT} (h : PT X e t) (w : ∀ σ H Q, t' σ H Q → t σ H Q) : PT X e t' := ⟨fun pins s σ H Q I q => h.run pins s σ H Q I (w _ _ _ q)⟩
theorem PW.weak {X : Cx} {e : Expr} {t t' : TT} (h : PW X e t) (w : ∀ σ H Q, t' σ H Q → t σ H Q) : PW X e t' := ⟨fun wh pins s σ H Q I q => h.run wh pins s σ H Q I (w _ _ _ q)⟩
theorem PA.weak {X : Cx} {e : List Expr} {t t' : TA} (h : PA X e t) (w : ∀ σ H Q, t' σ H Q → t σ H Q) : PA X e t' := ⟨fun pos pins s σ H Q I q => h.run pos pins s σ H Q I (w _ _ _ q)⟩
theorem PO.weak {X : Cx} {e : Option Expr} {t t' : TO} (h : PO X e t) (w : ∀ σ H Q, t' σ H Q → t σ H Q) : PO X e t' := ⟨fun pins s σ H Q I q => h.run pins s σ H Q I (w _ _ _ q)⟩

section
variable {X : Cx} {Y : Yc} {a b c : Expr} {es : List Expr} {ma mb mc : M Rf} {ms : M (List Rf)} {pos : Pos}
/-! names, constants -/
def eVar (i : Nat) : M Rf := fun ρ => match ρ[i]? with
  | some (.val d) => some (.ok (.dat d) ρ)
  | some (.cel _ _) => some (.ok (.cel i) ρ)
  | _ => none
def eC (d : D) : M Rf := pureM (.dat d)
theorem de_var {i : Nat} {x : Str} {pos : Pos} (h : PE X (.Name x pos) (tVar i)) : DE X Y (.Name x pos) (eVar i) := PE.weak h fun σ H Q ⟨F, P, G, ρ, r, er, e, hm, hp⟩ => by
  unfold eVar at hm
  cases q : ρ[i]? with
  | none =>
    rw [q] at hm
    cases hm
  | some s =>
    rw [q] at hm
    cases s with
    | no => cases hm
    | err x => cases hm
    | val d =>
      cases hm
      obtain ⟨v, h1, h2⟩ := e.val i d q
      exact ⟨v, h1, hp v G H (Same.refl G) e h2⟩
    | cel p c =>
      cases hm
      obtain ⟨l, h1, _⟩ := e.cel i p c q
      exact ⟨_, h1, hp _ G H (Same.refl G) e h1⟩
theorem de_c {v : V} {d : D} (h : PE X a (tC v)) (hi : ∀ G, Im (amb X) G v d) : DE X Y a (eC d) := PE.weak h fun σ H Q ⟨F, P, G, ρ, r, er, e, hm, hp⟩ => by
  cases hm
  exact hp v G H (Same.refl G) e (hi G)
theorem de_int {i : Int} {j pos} : DE X Y (.Constant (.int i) j pos) (eC (.int i)) := de_c pe_int fun _ => .int i
theorem de_bl {b : Bool} {j pos} : DE X Y (.Constant (.bool b) j pos) (eC (.bl b)) := de_c pe_bl fun _ => .bl b
theorem de_non {j pos} : DE X Y (.Constant .none j pos) (eC .non) := de_c pe_non fun _ => .non
theorem de_str {x : Str} {j pos} : DE X Y (.Constant (.str x) j pos) (eC (.str x)) := de_c pe_str fun _ => .str x

/-! two operands -/
def eOp2 (f : D → D → Option D) (a b : M Rf) : M Rf := bindM a fun x => bindM b fun y => bindM (drf (stl x)) fun p => bindM (drf (stl y)) fun q => optM ((f p q).map mk)
/-- a rule by values does what f says -/
def RO (A : Amb) (r : R2) (f : D → D → Option D) : Prop := ∀ F P σ G H ρ x y p q d (Q : VK), EnvG A F P σ G H ρ → Top A G H x p → Top A G H y q → f p q = some d →
  (∀ v G' H', Same G G' → EnvG A F P σ G' H' ρ → RfOk A F σ G' H' ρ v (mk d) → Q v H') → r x y H Q
theorem drf_ok {x : Rf} {α : Type} {k : D → M α} {ρ : E} {r : R α} (h : bindM (drf x) k ρ = some r) : ∃ d, deref ρ x = some d ∧ k d ρ = some r := by
  unfold bindM drf at h
  cases q : deref ρ x with
  | none =>
    rw [q] at h
    cases h
  | some d =>
    rw [q] at h
    exact ⟨d, rfl, h⟩
theorem drfs_ok {x : List Rf} {α : Type} {k : List D → M α} {ρ : E} {r : R α} (h : bindM (drfs x) k ρ = some r) : ∃ d, derefs ρ x = some d ∧ k d ρ = some r := by
  unfold bindM drfs at h
  cases q : derefs ρ x with
  | none =>
    rw [q] at h
    cases h
  | some d =>
    rw [q] at h
    exact ⟨d, rfl, h⟩
theorem optM_ok {α : Type} {o : Option α} {ρ : E} {r : R α} (h : optM o ρ = some r) : ∃ a, o = some a ∧ r = .ok a ρ := by
  cases o with
  | none => cases h
  | some a =>
    cases h
    exact ⟨a, rfl, rfl⟩
theorem map_some' {α β : Type} {f : α → β} {o : Option α} {b : β} (h : o.map f = some b) : ∃ a, o = some a ∧ b = f a := by
  cases o with
  | none => cases h
  | some a =>
    cases h
    exact ⟨a, rfl, rfl⟩
theorem op2_tail {r : R2} {f : D → D → Option D} (hr : RO (amb X) r f) {σ : L2.St} {H : Hp} {Q : VK} (h : tG (amb X) Y (relE (amb X)) (eOp2 f ma mb) σ H Q) : tOp r (tG (amb X) Y (relE (amb X)) ma) (tG (amb X) Y (relE (amb X)) mb) σ H Q := by
  obtain ⟨F, P, G, ρ, r', er, e, hm, hp⟩ := h
  refine tE_bind er e hm hp fun G1 H1 ρ1 x v s1 e1 so1 hm1 hp1 => tE_bind er e1 hm1 hp1 fun G2 H2 ρ2 y u s2 e2 so2 hm2 hp2 => ?_
  obtain ⟨p, d1, hm3⟩ := drf_ok hm2
  obtain ⟨q, d2, hm4⟩ := drf_ok hm3
  obtain ⟨z, hz, rfl⟩ := optM_ok hm4
  obtain ⟨d, hd, rfl⟩ := map_some' hz
  exact hr F P σ G2 H2 ρ2 v u p q d Q e2 (top_of e2 (so1.mono s2) d1) (top_of e2 so2 d2) hd fun v' G' H' s e' ro => hp2 v' G' H' s e' ro
theorem de_op2 {op : Operator} {r : R2} {f : D → D → Option D} (ho : OpR X (binaryOp op) r) (hr : RO (amb X) r f) (ha : DE X Y a ma) (hb : DE X Y b mb) : DE X Y (.BinOp a op b pos) (eOp2 f ma mb) :=
  PE.weak (pe_op ho ha hb) fun _ _ _ h => op2_tail hr h
theorem de_cmp {op : CmpOp} {r : R2} {f : D → D → Option D} (ho : OpR X (compareOp op) r) (hr : RO (amb X) r f) (ha : DE X Y a ma) (hb : DE X Y b mb) (hm : behindInMarks op b = false) : DE X Y (.Compare a [op] [b] pos) (eOp2 f ma mb) :=
  PE.weak (pe_cmpR ho ha hb hm) fun _ _ _ h => op2_tail hr h
/-- a value that is True or False, as a test -/
def tst (m : M Rf) : M Bool := bindM m fun x => match x with
  | .dat (.bl b) => pureM b
  | _ => failM
theorem tst_ok {A : Amb} {x : Rf} {ρ : E} {r : R Bool} (h : (match x with | .dat (.bl b) => pureM b | _ => failM : M Bool) ρ = some r) : ∃ b, x = .dat (.bl b) ∧ r = .ok b ρ := by
  cases x with
  | dat d =>
    cases d with
    | bl b =>
      cases h
      exact ⟨b, rfl, rfl⟩
    | _ => cases h
  | _ => cases h
theorem tst_tail {te : TE} {m : M Rf} {σ : L2.St} {H : Hp} {Q : Bool → Hp → Prop} (w : ∀ Q, tG (amb X) Y (relE (amb X)) m σ H Q → te σ H Q) (h : tG (amb X) Y relB (tst m) σ H Q) : te σ H fun x H' => ∃ k, x = .bl k ∧ Q k H' := by
  obtain ⟨F, P, G, ρ, r', er, e, hm, hp⟩ := h
  refine w _ (tG_bind er e hm hp fun G1 H1 ρ1 x v s1 e1 ro hm1 => ?_)
  obtain ⟨b, rfl, rfl⟩ := tst_ok (A := amb X) hm1
  have ro : Im (amb X) G1 v (.bl b) := ro
  cases ro
  exact ⟨b, rfl, hp b G1 H1 s1 e1 rfl⟩
theorem dt_cmp {op : CmpOp} {r : R2} {f : D → D → Option D} (ho : OpR X (compareOp op) r) (hr : RO (amb X) r f) (ha : DE X Y a ma) (hb : DE X Y b mb) (hm : behindInMarks op b = false) : DT X Y (.Compare a [op] [b] pos) (tst (eOp2 f ma mb)) :=
  PT.weak (pt_cmpR ho ha hb hm) fun _ _ _ h => tst_tail (fun _ => op2_tail hr) h
theorem dt_val (ha : DE X Y a ma) (he : ∀ whole, isTrue a X.env whole = (do let v ← whole; standAt a.pos; holding [v] (truthy v)) := by intro _; rfl) : DT X Y a (tst ma) :=
  PT.weak (pt_val ha he) fun _ _ _ h => tst_tail (fun _ q => q) h

/-! and, or, not -/
variable {ta tb : M Bool} {rest : List Expr}
def bAnd (a b : M Bool) : M Bool := bindM a fun x => if x = true then b else pureM false
def bOr (a b : M Bool) : M Bool := bindM a fun x => if x = true then pureM true else b
def bNot (a : M Bool) : M Bool := bindM a fun x => pureM (!x)
theorem dw_and1 (ha : DT X Y a ta) : DW X Y (.BoolOp .And [a] pos) ta := pw_and1 ha
theorem dw_or1 (ha : DT X Y a ta) : DW X Y (.BoolOp .Or [a] pos) ta := pw_or1 ha
theorem dw_and (ha : DT X Y a ta) (hb : DW X Y (.BoolOp .And (b :: rest) pos) tb) : DW X Y (.BoolOp .And (a :: b :: rest) pos) (bAnd ta tb) :=
  PW.weak (pw_and ha hb) fun σ H Q ⟨F, P, G, ρ, r', er, e, hm, hp⟩ => tG_bind (Re := relB) er e hm hp fun G1 H1 ρ1 x v s1 e1 (ro : v = x) hm1 => by
    subst ro
    cases v with
    | true =>
      rw [if_pos rfl] at hm1 ⊢
      exact ⟨F, P, G1, ρ1, r', er, e1, hm1, hp.mono s1⟩
    | false =>
      rw [if_neg Bool.false_ne_true] at hm1 ⊢
      cases hm1
      exact hp false G1 H1 s1 e1 rfl
theorem dw_or (ha : DT X Y a ta) (hb : DW X Y (.BoolOp .Or (b :: rest) pos) tb) : DW X Y (.BoolOp .Or (a :: b :: rest) pos) (bOr ta tb) :=
  PW.weak (pw_or ha hb) fun σ H Q ⟨F, P, G, ρ, r', er, e, hm, hp⟩ => tG_bind (Re := relB) er e hm hp fun G1 H1 ρ1 x v s1 e1 (ro : v = x) hm1 => by
    subst ro
    cases v with
    | true =>
      rw [if_pos rfl] at hm1 ⊢
      cases hm1
      exact hp true G1 H1 s1 e1 rfl
    | false =>
      rw [if_neg Bool.false_ne_true] at hm1 ⊢
      exact ⟨F, P, G1, ρ1, r', er, e1, hm1, hp.mono s1⟩
theorem DW.dt {e : Expr} (h : DW X Y e ta) : DT X Y e ta := PW.pt h
theorem dt_not (ha : DT X Y a ta) : DT X Y (.UnaryOp .Not a pos) (bNot ta) :=
  PT.weak (pt_not ha) fun σ H Q ⟨F, P, G, ρ, r', er, e, hm, hp⟩ => tG_bind (Re := relB) er e hm hp fun G1 H1 ρ1 x v s1 e1 (ro : v = x) hm1 => by
    subst ro
    cases hm1
    exact hp _ G1 H1 s1 e1 rfl
def eAnd (a b : M Rf) : M Rf := bindM a fun x => match x with
  | .dat (.bl true) => b
  | .dat (.bl false) => pureM (.dat (.bl false))
  | _ => failM
def eOr (a b : M Rf) : M Rf := bindM a fun x => match x with
  | .dat (.bl true) => pureM (.dat (.bl true))
  | .dat (.bl false) => b
  | _ => failM
def eNot (a : M Rf) : M Rf := bindM a fun x => match x with
  | .dat (.bl b) => pureM (.dat (.bl (!b)))
  | _ => failM
theorem de_one {op} (h : DE X Y a ma) : DE X Y (.BoolOp op [a] pos) ma := pe_one h
theorem de_and (ha : DE X Y a ma) (hb : DE X Y (.BoolOp .And (b :: rest) pos) mb) : DE X Y (.BoolOp .And (a :: b :: rest) pos) (eAnd ma mb) :=
  PE.weak (pe_and ha hb) fun σ H Q ⟨F, P, G, ρ, r', er, e, hm, hp⟩ => tG_bind er e hm hp fun G1 H1 ρ1 x v s1 e1 ro hm1 => by
    cases x with
    | cel i => cases hm1
    | new ds => cases hm1
    | dat d =>
      cases d with
      | bl k =>
        have ro : Im (amb X) G1 v (.bl k) := ro
        cases ro
        refine ⟨k, rfl, ?_⟩
        cases k with
        | true =>
          rw [if_pos rfl]
          exact ⟨F, P, G1, ρ1, r', er, e1, hm1, hp.mono s1⟩
        | false =>
          rw [if_neg Bool.false_ne_true]
          cases hm1
          exact hp _ G1 H1 s1 e1 (.bl false)
      | _ => cases hm1
theorem de_or (ha : DE X Y a ma) (hb : DE X Y (.BoolOp .Or (b :: rest) pos) mb) : DE X Y (.BoolOp .Or (a :: b :: rest) pos) (eOr ma mb) :=
  PE.weak (pe_or ha hb) fun σ H Q ⟨F, P, G, ρ, r', er, e, hm, hp⟩ => tG_bind er e hm hp fun G1 H1 ρ1 x v s1 e1 ro hm1 => by
    cases x with
    | cel i => cases hm1
    | new ds => cases hm1
    | dat d =>
      cases d with
      | bl k =>
        have ro : Im (amb X) G1 v (.bl k) := ro
        cases ro
        refine ⟨k, rfl, ?_⟩
        cases k with
        | true =>
          rw [if_pos rfl]
          cases hm1
          exact hp _ G1 H1 s1 e1 (.bl true)
        | false =>
          rw [if_neg Bool.false_ne_true]
          exact ⟨F, P, G1, ρ1, r', er, e1, hm1, hp.mono s1⟩
      | _ => cases hm1
theorem de_not (ha : DE X Y a ma) : DE X Y (.UnaryOp .Not a pos) (eNot ma) :=
  PE.weak (pe_not ha) fun σ H Q ⟨F, P, G, ρ, r', er, e, hm, hp⟩ => tG_bind er e hm hp fun G1 H1 ρ1 x v s1 e1 ro hm1 => by
    cases x with
    | cel i => cases hm1
    | new ds => cases hm1
    | dat d =>
      cases d with
      | bl k =>
        have ro : Im (amb X) G1 v (.bl k) := ro
        cases ro
        cases hm1
        exact ⟨k, rfl, hp _ G1 H1 s1 e1 (.bl _)⟩
      | _ => cases hm1
def eIf (t : M Bool) (a b : M Rf) : M Rf := bindM t fun x => if x = true then a else b
theorem de_if (hc : DT X Y c ta) (ha : DE X Y a ma) (hb : DE X Y b mb) : DE X Y (.IfExp c a b pos) (eIf ta ma mb) :=
  PE.weak (pe_ifExp hc ha hb) fun σ H Q ⟨F, P, G, ρ, r', er, e, hm, hp⟩ => tG_bind (Re := relB) er e hm hp fun G1 H1 ρ1 x v s1 e1 (ro : v = x) hm1 => by
    subst ro
    cases v with
    | true =>
      rw [if_pos rfl] at hm1 ⊢
      exact ⟨F, P, G1, ρ1, r', er, e1, hm1, hp.mono s1⟩
    | false =>
      rw [if_neg Bool.false_ne_true] at hm1 ⊢
      exact ⟨F, P, G1, ρ1, r', er, e1, hm1, hp.mono s1⟩

/-! chains: a op b op' c -/
def eChain (f g : D → D → Option D) (a b c : M Rf) : M Rf := bindM a fun x => bindM b fun y => bindM (drf (stl x)) fun p => bindM (drf (stl y)) fun q => match f p q with
  | some (.bl true) => bindM c fun z => bindM (drf (stl y)) fun q' => bindM (drf (stl z)) fun w => optM ((g q' w).map mk)
  | some (.bl false) => pureM (.dat (.bl false))
  | _ => failM
theorem chain_tail {r r' : R2} {f g : D → D → Option D} (hr : RO (amb X) r f) (hg : RO (amb X) r' g) {σ : L2.St} {H : Hp} {Q : VK} (h : tG (amb X) Y (relE (amb X)) (eChain f g ma mb mc) σ H Q) :
    tChain r r' (tG (amb X) Y (relE (amb X)) ma) (tG (amb X) Y (relE (amb X)) mb) (tG (amb X) Y (relE (amb X)) mc) σ H Q := by
  obtain ⟨F, P, G, ρ, r0, er, e, hm, hp⟩ := h
  refine tE_bind er e hm hp fun G1 H1 ρ1 x v s1 e1 so1 hm1 hp1 => tE_bind er e1 hm1 hp1 fun G2 H2 ρ2 y u s2 e2 so2 hm2 hp2 => ?_
  obtain ⟨p, d1, hm3⟩ := drf_ok hm2
  obtain ⟨q, d2, hm4⟩ := drf_ok hm3
  cases hf : f p q with
  | none =>
    simp only [hf] at hm4
    cases hm4
  | some d =>
    simp only [hf] at hm4
    cases d with
    | bl k =>
      refine hr F P σ G2 H2 ρ2 v u p q _ _ e2 (top_of e2 (so1.mono s2) d1) (top_of e2 so2 d2) hf fun v' G3 H3 s3 e3 ro => ?_
      have ro : Im (amb X) G3 v' (.bl k) := ro
      cases ro
      refine ⟨k, rfl, ?_⟩
      cases k with
      | false =>
        rw [if_neg Bool.false_ne_true]
        cases hm4
        exact hp2 _ G3 H3 s3 e3 (.bl false)
      | true =>
        rw [if_pos rfl]
        refine tE_bind er e3 hm4 (hp2.mono s3) fun G4 H4 ρ4 z w s4 e4 so4 hm5 hp5 => ?_
        obtain ⟨q', d3, hm6⟩ := drf_ok hm5
        obtain ⟨w', d4, hm7⟩ := drf_ok hm6
        obtain ⟨z', hz, rfl⟩ := optM_ok hm7
        obtain ⟨d, hd, rfl⟩ := map_some' hz
        exact hg F P σ G4 H4 ρ4 u w q' w' d Q e4 (top_of e4 (so2.mono (s3.trans s4)) d3) (top_of e4 so4 d4) hd fun v' G' H' s e' ro => hp5 v' G' H' s e' ro
    | _ => cases hm4
theorem de_chain {op op' : CmpOp} {r r' : R2} {f g : D → D → Option D} (ho : OpR X (compareOp op) r) (ho' : OpR X (compareOp op') r') (hr : RO (amb X) r f) (hg : RO (amb X) r' g) (ha : DE X Y a ma) (hb : DE X Y b mb) (hc : DE X Y c mc)
    (hm : lastMarks [op, op'] [b, c] = false := by with_unfolding_all rfl) : DE X Y (.Compare a [op, op'] [b, c] pos) (eChain f g ma mb mc) :=
  PE.weak (pe_chain ho ho' ha hb hc hm) fun _ _ _ h => chain_tail hr hg h
theorem dt_chain {op op' : CmpOp} {r r' : R2} {f g : D → D → Option D} (ho : OpR X (compareOp op) r) (ho' : OpR X (compareOp op') r') (hr : RO (amb X) r f) (hg : RO (amb X) r' g) (ha : DE X Y a ma) (hb : DE X Y b mb) (hc : DE X Y c mc)
    (hm : lastMarks [op, op'] [b, c] = false := by with_unfolding_all rfl) : DT X Y (.Compare a [op, op'] [b, c] pos) (tst (eChain f g ma mb mc)) :=
  PT.weak (pt_chain ho ho' ha hb hc hm) fun _ _ _ h => tst_tail (fun _ => chain_tail hr hg) h

/-! argument lists, displays -/
def aNil : M (List Rf) := pureM []
def aCons (a : M Rf) (r : M (List Rf)) : M (List Rf) := bindM a fun x => bindM r fun xs => pureM (stl x :: xs)
theorem da_nil : DA X Y [] aNil := PA.weak pa_nil fun σ H Q ⟨F, P, G, ρ, r, er, e, hm, hp⟩ => by
  cases hm
  exact hp [] G H (Same.refl G) e .nil
theorem da_cons (ha : DE X Y a ma) (hr : DA X Y es ms) (hs : starEach (a :: es) X.env = (false, eval a X.env) :: starEach es X.env := by rfl) : DA X Y (a :: es) (aCons ma ms) :=
  PA.weak (pa_cons ha hr hs) fun σ H Q ⟨F, P, G, ρ, r, er, e, hm, hp⟩ => tE_bind er e hm hp fun G1 H1 ρ1 x v s1 e1 so1 hm1 hp1 => tG_bind (Re := relA (amb X)) er e1 hm1 hp1 fun G2 H2 ρ2 xs vs s2 e2 so2 hm2 => by
    cases hm2
    exact hp1 (v :: vs) G2 H2 s2 e2 (.cons (so1.mono s2) so2)
/-- the items of a display are ours no longer -/
def frz (x : Rf) : M D := fun ρ => match x with
  | .dat d => some (.ok d ρ)
  | .new ds => some (.ok (.lst ds) ρ)
  | .cel i => match ρ[i]? with
    | some (.cel false (.lst ds)) => some (.ok (.lst ds) (ρ.set i (.val (.lst ds))))
    | some (.val d) => some (.ok d ρ)
    | _ => none
def frzs : List Rf → M (List D)
  | [] => pureM []
  | x :: xs => bindM (frz x) fun d => bindM (frzs xs) fun ds => pureM (d :: ds)
theorem frz_ok {A : Amb} {F : Fx} {P : List (Nat × Addr)} {σ : L2.St} {G H : Hp} {ρ : E} {v : V} {x : Rf} {r : R D} (e : EnvG A F P σ G H ρ) (h : SOk A σ G v x) (hm : frz x ρ = some r) :
    ∃ d ρ' G', r = .ok d ρ' ∧ Same G G' ∧ EnvG A F P σ G' H ρ' ∧ Im A G' v d := by
  cases x with
  | dat d =>
    cases hm
    exact ⟨d, ρ, G, rfl, Same.refl G, e, h⟩
  | new ds => exact h.elim
  | cel i =>
    have h : σ[i]? = some (some v) := h
    unfold frz at hm
    simp only at hm
    cases q : ρ[i]? with
    | none =>
      rw [q] at hm
      cases hm
    | some s =>
      rw [q] at hm
      cases s with
      | no => cases hm
      | err x => cases hm
      | val d =>
        cases hm
        obtain ⟨u, h1, h2⟩ := e.val i d q
        rw [h] at h1
        cases h1
        exact ⟨d, ρ, G, rfl, Same.refl G, e, h2⟩
      | cel p c =>
        cases p with
        | true => cases hm
        | false =>
          cases c with
          | lst ds =>
            cases hm
            obtain ⟨l, G', h1, s, e', im⟩ := e.freeze q
            rw [h] at h1
            cases h1
            exact ⟨_, _, G', rfl, s, e', im⟩
          | _ => cases hm
theorem frzs_ok {A : Amb} {F : Fx} {P : List (Nat × Addr)} {σ : L2.St} {H : Hp} : ∀ {vs : List V} {xs : List Rf} {G : Hp} {ρ : E} {r : R (List D)}, EnvG A F P σ G H ρ → SOks A σ G vs xs → frzs xs ρ = some r →
    ∃ ds ρ' G', r = .ok ds ρ' ∧ Same G G' ∧ EnvG A F P σ G' H ρ' ∧ Ims A G' vs ds
  | _, _, G, ρ, _, e, .nil, h => by
    cases h
    exact ⟨[], ρ, G, rfl, Same.refl G, e, .nil⟩
  | _, x :: xs, G, ρ, r, e, .cons h t, hm => by
    unfold frzs at hm
    cases q : frz x ρ with
    | none =>
      rw [bindM_none q] at hm
      cases hm
    | some r1 =>
      obtain ⟨d, ρ1, G1, rfl, s1, e1, i1⟩ := frz_ok e h q
      rw [bindM_ok q] at hm
      cases q2 : frzs xs ρ1 with
      | none =>
        rw [bindM_none q2] at hm
        cases hm
      | some r2 =>
        obtain ⟨ds, ρ2, G2, rfl, s2, e2, i2⟩ := frzs_ok e1 (t.mono s1) q2
        rw [bindM_ok q2] at hm
        cases hm
        exact ⟨d :: ds, ρ2, G2, rfl, s1.trans s2, e2, .cons (i1.mono s2) i2⟩
def eTup (ms : M (List Rf)) : M Rf := bindM ms fun xs => bindM (frzs xs) fun ds => if ds.length ≤ sizeLine then pureM (.dat (.tup ds)) else failM
def eLst (ms : M (List Rf)) : M Rf := bindM ms fun xs => bindM (frzs xs) fun ds => if ds.length ≤ sizeLine then pureM (.new ds) else failM
theorem disp_in {A : Amb} {F : Fx} {P : List (Nat × Addr)} {σ : L2.St} {G H : Hp} {ρ : E} {vs : List V} {xs : List Rf} {α : Type} {k : List D → M α} {r : R α} (e : EnvG A F P σ G H ρ) (h : SOks A σ G vs xs) (hm : bindM (frzs xs) k ρ = some r) :
    ∃ ds ρ' G', k ds ρ' = some r ∧ Same G G' ∧ EnvG A F P σ G' H ρ' ∧ Ims A G' vs ds := by
  cases q : frzs xs ρ with
  | none =>
    rw [bindM_none q] at hm
    cases hm
  | some r1 =>
    obtain ⟨ds, ρ1, G1, rfl, s1, e1, i1⟩ := frzs_ok e h q
    rw [bindM_ok q] at hm
    exact ⟨ds, ρ1, G1, hm, s1, e1, i1⟩
/-- a display, its object known -/
def tTupF (t : TA) : TE := fun σ H Q => t σ H fun xs H1 => xs.length ≤ sizeLine ∧ ∀ (p : Addr) (o : Obj), H1 p = none → o.dict = none → Q (.ref p) (upd H1 p (.frz o (.tup xs)))
theorem pe_tupF {x1} {t : TA} (h : PA X es t) : PE X (.Tuple es x1 pos) (tTupF t) := by
  refine ⟨fun pins s σ H Q I hq => wpAny_Tuple_spliced (thn (h.run pos pins s σ H _ I hq) ?_)⟩
  rintro us s1 ⟨xs, H1, I1, r, z, q⟩
  refine ⟨by rw [← r.length]; exact z, .ref s1.heap.objs.size, _, ?_, rfl, q s1.heap.objs.size { cls := .type "tuple", data := .seq us.toArray } (I1.hok.fresh (Nat.le_refl _)) rfl⟩
  exact I1.laid (t' := s1.toks) (fun _ _ e => Heap.get?_push_of_some _ e) (Nat.le_refl _) ⟨Heap.get?_push_size _ rfl, z, us, r, ⟨_, Heap.get?_push_size _ rfl, rfl, _, rfl⟩⟩
theorem de_tup {x1} (h : DA X Y es ms) : DE X Y (.Tuple es x1 pos) (eTup ms) :=
  PE.weak (pe_tupF h) fun σ H Q ⟨F, P, G, ρ, r, er, e, hm, hp⟩ => tG_bind (Re := relA (amb X)) er e hm hp fun G1 H1 ρ1 xs vs s1 e1 so1 hm1 => by
    obtain ⟨ds, ρ2, G2, hm2, s2, e2, i2⟩ := disp_in e1 so1 hm1
    by_cases hl : ds.length ≤ sizeLine
    · rw [if_pos hl] at hm2
      cases hm2
      refine ⟨by rw [i2.length]; exact hl, fun p o n dn => ?_⟩
      obtain ⟨G3, s3, e3, ro⟩ := e2.newT n dn i2
      exact hp _ G3 _ (s1.trans (s2.trans s3)) e3 ro
    · rw [if_neg hl] at hm2
      cases hm2
theorem de_lst (h : DA X Y es ms) : DE X Y (.List es pos) (eLst ms) :=
  PE.weak (pe_lst h) fun σ H Q ⟨F, P, G, ρ, r, er, e, hm, hp⟩ => tG_bind (Re := relA (amb X)) er e hm hp fun G1 H1 ρ1 xs vs s1 e1 so1 hm1 => by
    obtain ⟨ds, ρ2, G2, hm2, s2, e2, i2⟩ := disp_in e1 so1 hm1
    by_cases hl : ds.length ≤ sizeLine
    · rw [if_pos hl] at hm2
      cases hm2
      refine ⟨by rw [i2.length]; exact hl, fun p n => ?_⟩
      obtain ⟨e3, ro⟩ := e2.newL n i2
      exact hp _ G2 _ (s1.trans s2) e3 ro
    · rw [if_neg hl] at hm2
      cases hm2
/-! built-ins by values -/
def eCall (f : List D → Option D) (ms : M (List Rf)) : M Rf := bindM ms fun xs => bindM (drfs xs) fun ds => optM ((f ds).map mk)
def RCo (A : Amb) (r : List V → Hp → VK → Prop) (f : List D → Option D) : Prop := ∀ F P σ G H ρ xs ds d (Q : VK), EnvG A F P σ G H ρ → Tops A G H xs ds → f ds = some d →
  (∀ v G' H', Same G G' → EnvG A F P σ G' H' ρ → RfOk A F σ G' H' ρ v (mk d) → Q v H') → r xs H Q
theorem call_tail {r : List V → Hp → VK → Prop} {f : List D → Option D} (hr : RCo (amb X) r f) {σ : L2.St} {H : Hp} {Q : VK} (h : tG (amb X) Y (relE (amb X)) (eCall f ms) σ H Q) : tCB r (tG (amb X) Y (relA (amb X)) ms) σ H Q := by
  obtain ⟨F, P, G, ρ, r', er, e, hm, hp⟩ := h
  refine tG_bind (Re := relA (amb X)) er e hm hp fun G1 H1 ρ1 xs vs s1 e1 so1 hm1 => ?_
  obtain ⟨ds, d1, hm2⟩ := drfs_ok hm1
  obtain ⟨z, hz, rfl⟩ := optM_ok hm2
  obtain ⟨d, hd, rfl⟩ := map_some' hz
  exact hr F P σ G1 H1 ρ1 vs ds d Q e1 (tops_of e1 so1 d1) hd fun v' G' H' s e' ro => hp v' G' H' (s1.trans s) e' ro
theorem de_weak {t : TE} {m : M Rf} (h : PE X a t) (w : ∀ σ H Q, tG (amb X) Y (relE (amb X)) m σ H Q → t σ H Q) : DE X Y a m := PE.weak h w
end
end Z

set_option Elab.async false
set_option linter.all false
set_option maxRecDepth 100000
set_option maxHeartbeats 4000000
/-! ZC: statements, targets, loops. -/
namespace Z
open PySem PySem.Spec PyProof.Rows L2

inductive O where
  | nx (ρ : E)
  | rt (x : Rf) (ρ : E)
  | bk (ρ : E)
  | ct (ρ : E)
  | ex (x : Ex) (ρ : E)
abbrev S := E → Option O
def PostS (A : Amb) (Y : Yc) (F : Fx) (P : List (Nat × Addr)) (D : Ends) : O → Prop
  | .nx ρ => ∀ σ' G' H', EnvG A F P σ' G' H' ρ → D.nx σ' H'
  | .rt x ρ => ∀ v σ' G' H', EnvG A F P σ' G' H' ρ → RfOk A F σ' G' H' ρ v x → D.rt v H'
  | .bk ρ => ∀ σ' G' H', EnvG A F P σ' G' H' ρ → D.bk σ' H'
  | .ct ρ => ∀ σ' G' H', EnvG A F P σ' G' H' ρ → D.ct σ' H'
  | .ex x ρ => ∀ cls d σ' G' H', EnvG A F P σ' G' H' ρ → ExAt A G' cls d x → Y.W cls d σ' H'
def tS (A : Amb) (Y : Yc) (m : S) : TS := fun D σ H => ∃ F P G ρ o, F.er = Y.er ∧ EnvG A F P σ G H ρ ∧ m ρ = some o ∧ PostS A Y F P D o
def liftS {α : Type} (m : M α) (k : α → S) : S := fun ρ => match m ρ with
  | none => none
  | some (.ex x ρ') => some (.ex x ρ')
  | some (.ok a ρ') => k a ρ'
theorem liftS_ok {α : Type} {m : M α} {k : α → S} {ρ ρ' : E} {a : α} (h : m ρ = some (.ok a ρ')) : liftS m k ρ = k a ρ' := by
  unfold liftS
  rw [h]
theorem liftS_ex {α : Type} {m : M α} {k : α → S} {ρ ρ' : E} {x : Ex} (h : m ρ = some (.ex x ρ')) : liftS m k ρ = some (.ex x ρ') := by
  unfold liftS
  rw [h]
theorem liftS_none {α : Type} {m : M α} {k : α → S} {ρ : E} (h : m ρ = none) : liftS m k ρ = none := by
  unfold liftS
  rw [h]
section
variable {A : Amb} {Y : Yc} {F : Fx} {P : List (Nat × Addr)} {σ : L2.St} {G H : Hp} {ρ : E}
theorem tS_bind {α β : Type} {Re : Rel α β} {ma : M α} {k : α → S} {o : O} {D : Ends} {T : β → Hp → Prop} (er : F.er = Y.er) (e : EnvG A F P σ G H ρ) (hm : liftS ma k ρ = some o) (hp : PostS A Y F P D o)
    (hT : ∀ G1 H1 ρ1 x v, Same G G1 → EnvG A F P σ G1 H1 ρ1 → Re F σ G1 H1 ρ1 v x → k x ρ1 = some o → T v H1) : tG A Y Re ma σ H T := by
  cases h : ma ρ with
  | none =>
    rw [liftS_none h] at hm
    cases hm
  | some r1 =>
    refine ⟨F, P, G, ρ, r1, er, e, h, ?_⟩
    cases r1 with
    | ok a ρ' =>
      rw [liftS_ok h] at hm
      exact fun v G1 H1 s e1 ra => hT G1 H1 ρ' a v s e1 ra hm
    | ex x ρ' =>
      rw [liftS_ex h] at hm
      cases hm
      exact fun cls d G1 H1 _ e1 xa => hp cls d σ G1 H1 e1 xa
end

def DS (X : Cx) (Y : Yc) (st : Stmt) (m : S) : Prop := PS X st (tS (amb X) Y m)
def DSs (X : Cx) (Y : Yc) (sts : List Stmt) (m : S) : Prop := PSs X sts (tS (amb X) Y m)
theorem PS.weak {X : Cx} {st : Stmt} {t t' : TS} (h : PS X st t) (w : ∀ D σ H, t' D σ H → t D σ H) : PS X st t' := ⟨fun pins s σ H D I q => h.run pins s σ H D I (w _ _ _ q)⟩
theorem PSs.weak {X : Cx} {st : List Stmt} {t t' : TS} (h : PSs X st t) (w : ∀ D σ H, t' D σ H → t D σ H) : PSs X st t' := ⟨fun pins s σ H D I q => h.run pins s σ H D I (w _ _ _ q)⟩

def sNx : S := fun ρ => some (.nx ρ)
def sSeq (m n : S) : S := fun ρ => match m ρ with
  | none => none
  | some (.nx ρ') => n ρ'
  | some o => some o
def sExpr (m : M Rf) : S := liftS m fun _ ρ => some (.nx ρ)
def sRet (m : M Rf) : S := liftS m fun x ρ => some (.rt x ρ)
def sRetN : S := fun ρ => some (.rt (.dat .non) ρ)
def sIf (t : M Bool) (a b : S) : S := liftS t fun c => if c = true then a else b
def sBk : S := fun ρ => some (.bk ρ)
def sCt : S := fun ρ => some (.ct ρ)
section
variable {X : Cx} {Y : Yc} {st : Stmt} {rest body orelse : List Stmt} {m n : S} {e : Expr} {me : M Rf} {mt : M Bool} {pos : Pos}
theorem dss_nil : DSs X Y [] sNx := PSs.weak pss_nil fun D σ H ⟨F, P, G, ρ, o, er, e, hm, hp⟩ => by
  cases hm
  exact hp σ G H e
theorem seq_tail {D : Ends} {σ : L2.St} {H : Hp} (h : tS (amb X) Y (sSeq m n) D σ H) : tSeq (tS (amb X) Y m) (tS (amb X) Y n) D σ H := by
  obtain ⟨F, P, G, ρ, o, er, e, hm, hp⟩ := h
  unfold sSeq at hm
  cases q : m ρ with
  | none =>
    rw [q] at hm
    cases hm
  | some o1 =>
    rw [q] at hm
    refine ⟨F, P, G, ρ, o1, er, e, q, ?_⟩
    cases o1 with
    | nx ρ' => exact fun σ' G' H' e' => ⟨F, P, G', ρ', o, er, e', hm, hp⟩
    | rt x ρ' =>
      cases hm
      exact hp
    | bk ρ' =>
      cases hm
      exact hp
    | ct ρ' =>
      cases hm
      exact hp
    | ex x ρ' =>
      cases hm
      exact hp
theorem dss_cons (h1 : DS X Y st m) (h2 : DSs X Y rest n) : DSs X Y (st :: rest) (sSeq m n) := PSs.weak (pss_cons h1 h2) fun _ _ _ h => seq_tail h
theorem dss_one (h1 : DS X Y st m) : DSs X Y [st] m := pss_one h1
theorem ds_pass : DS X Y (.Pass pos) sNx := PS.weak ps_pass fun D σ H ⟨F, P, G, ρ, o, er, e, hm, hp⟩ => by
  cases hm
  exact hp σ G H e
theorem ds_break : DS X Y (.Break pos) sBk := PS.weak ps_break fun D σ H ⟨F, P, G, ρ, o, er, e, hm, hp⟩ => by
  cases hm
  exact hp σ G H e
theorem ds_continue : DS X Y (.Continue pos) sCt := PS.weak ps_continue fun D σ H ⟨F, P, G, ρ, o, er, e, hm, hp⟩ => by
  cases hm
  exact hp σ G H e
theorem ds_doc {x j pos'} : DS X Y (.Expr (.Constant (.str x) j pos) pos') sNx := PS.weak ps_doc fun D σ H ⟨F, P, G, ρ, o, er, e, hm, hp⟩ => by
  cases hm
  exact hp σ G H e
theorem ds_expr (he : DE X Y e me) (hs : swapsWith e none pos.line X.env = pure false := by rfl) : DS X Y (.Expr e pos) (sExpr me) := PS.weak (ps_expr he hs) fun D σ H ⟨F, P, G, ρ, o, er, e, hm, hp⟩ =>
  tS_bind er e hm hp fun G1 H1 ρ1 x v s1 e1 ro hk => by
    cases hk
    exact hp σ G1 H1 e1
theorem ds_ret (he : DE X Y e me) : DS X Y (.Return (some e) pos) (sRet me) := PS.weak (ps_ret he) fun D σ H ⟨F, P, G, ρ, o, er, e, hm, hp⟩ =>
  tS_bind er e hm hp fun G1 H1 ρ1 x v s1 e1 ro hk => by
    cases hk
    exact hp v σ G1 H1 e1 ro
theorem ds_retN : DS X Y (.Return none pos) sRetN := PS.weak ps_retN fun D σ H ⟨F, P, G, ρ, o, er, e, hm, hp⟩ => by
  cases hm
  exact hp .non σ G H e .non
theorem ds_if (hc : DT X Y e mt) (ha : DSs X Y body m) (hb : DSs X Y orelse n) : DS X Y (.If e body orelse pos) (sIf mt m n) := PS.weak (ps_if hc ha hb) fun D σ H ⟨F, P, G, ρ, o, er, e, hm, hp⟩ =>
  tS_bind (Re := relB) er e hm hp fun G1 H1 ρ1 x v s1 e1 (ro : v = x) hk => by
    subst ro
    cases v with
    | true =>
      rw [if_pos rfl] at hk ⊢
      exact ⟨F, P, G1, ρ1, o, er, e1, hk, hp⟩
    | false =>
      rw [if_neg Bool.false_ne_true] at hk ⊢
      exact ⟨F, P, G1, ρ1, o, er, e1, hk, hp⟩
end

/-! targets -/
abbrev Tg := Rf → E → Option E
def tgG (A : Amb) (Y : Yc) (t : Tg) : TG := fun v σ H Q => ∃ F P G ρ x ρ', F.er = Y.er ∧ EnvG A F P σ G H ρ ∧ RfOk A F σ G H ρ v x ∧ t x ρ = some ρ' ∧ ∀ σ' G' H', EnvG A F P σ' G' H' ρ' → Q σ' H'
def DG (X : Cx) (Y : Yc) (tg : Expr) (t : Tg) : Prop := PG X tg (tgG (amb X) Y t)
theorem PG.weak {X : Cx} {e : Expr} {t t' : TG} (h : PG X e t) (w : ∀ v σ H Q, t' v σ H Q → t v σ H Q) : PG X e t' := ⟨fun pins s σ H v u Q I r q => h.run pins s σ H v u Q I r (w _ _ _ _ q)⟩
theorem PGs.weak {X : Cx} {e : List Expr} {t t' : TGs} (h : PGs X e t) (w : ∀ v σ H Q, t' v σ H Q → t v σ H Q) : PGs X e t' := ⟨fun pins s σ H v u Q I r q => h.run pins s σ H v u Q I r (w _ _ _ _ q)⟩
/-- no parameter's object in that slot -/
def okSlot (ρ : E) (i : Nat) : Bool := match ρ[i]? with
  | some (.cel true _) => false
  | _ => true
theorem okSlot_pin {A : Amb} {F : Fx} {P : List (Nat × Addr)} {σ : L2.St} {G H : Hp} {ρ : E} {i : Nat} (e : EnvG A F P σ G H ρ) (h : okSlot ρ i = true) : ∀ l, (i, l) ∉ P := fun l m => by
  obtain ⟨_, c, q⟩ := e.pin i l m
  unfold okSlot at h
  rw [q] at h
  cases h
def tgName (i : Nat) : Tg := fun x ρ => if okSlot ρ i = true then (match x with
  | .dat d => some (ρ.set i (.val d))
  | .new ds => some (ρ.set i (.cel false (.lst ds)))
  | .cel j => match ρ[j]? with
    | some (.cel false (.lst ds)) => some ((ρ.set j (.val (.lst ds))).set i (.val (.lst ds)))
    | _ => none) else none
theorem okSlot_set {ρ : E} {i j : Nat} {d : D} (h : okSlot ρ i = true) : okSlot (ρ.set j (.val d)) i = true := by
  unfold okSlot
  by_cases hj : j = i
  · subst hj
    rw [List.getElem?_set]
    by_cases hl : j < ρ.length
    · rw [if_pos rfl, if_pos hl]
    · rw [if_pos rfl, if_neg hl]
  · rw [List.getElem?_set_ne hj]
    exact h
section
variable {A : Amb} {Y : Yc} {F : Fx} {P : List (Nat × Addr)} {σ : L2.St} {G H : Hp} {ρ ρ' : E}
theorem tgName_ok {i : Nat} {x : Rf} {v : V} (e : EnvG A F P σ G H ρ) (h : RfOk A F σ G H ρ v x) (hm : tgName i x ρ = some ρ') : ∃ G', Same G G' ∧ EnvG A F P (σ.set i (some v)) G' H ρ' := by
  unfold tgName at hm
  by_cases hk : okSlot ρ i = true
  · rw [if_pos hk] at hm
    have hP := okSlot_pin e hk
    cases x with
    | dat d =>
      cases hm
      exact ⟨G, Same.refl G, e.setVal hP h⟩
    | new ds =>
      cases hm
      obtain ⟨l, vs, rfl, h1, h2, h3, h4, h5⟩ := h
      exact ⟨G, Same.refl G, e.setCel hP ⟨vs, h1, h4⟩ h2 h3 h5⟩
    | cel j =>
      have h : σ[j]? = some (some v) := h
      simp only at hm
      cases q : ρ[j]? with
      | none =>
        rw [q] at hm
        cases hm
      | some s =>
        rw [q] at hm
        cases s with
        | no => cases hm
        | val d => cases hm
        | err x => cases hm
        | cel p c =>
          cases p with
          | true => cases hm
          | false =>
            cases c with
            | lst ds =>
              cases hm
              obtain ⟨l, G', h1, s, e', im⟩ := e.freeze q
              rw [h] at h1
              cases h1
              exact ⟨G', s, e'.setVal (okSlot_pin e' (okSlot_set hk)) im⟩
            | _ => cases hm
  · rw [if_neg hk] at hm
    cases hm
end
section
variable {X : Cx} {Y : Yc} {pos : Pos} {t1 t2 : Expr} {ts : List Expr}
theorem dg_name {i : Nat} {x : Str} (h : PG X (.Name x pos) (gName i)) : DG X Y (.Name x pos) (tgName i) := PG.weak h fun v σ H Q ⟨F, P, G, ρ, x, ρ', er, e, ro, hm, hQ⟩ => by
  obtain ⟨G', s, e'⟩ := tgName_ok e ro hm
  exact hQ _ G' H e'
/-- (a, b, ..) = a tuple -/
abbrev Tgs := List D → E → Option E
def tgsG (A : Amb) (Y : Yc) (t : Tgs) : TGs := fun vs σ H Q => ∃ F P G ρ ds ρ', F.er = Y.er ∧ EnvG A F P σ G H ρ ∧ Ims A G vs ds ∧ t ds ρ = some ρ' ∧ ∀ σ' G' H', EnvG A F P σ' G' H' ρ' → Q σ' H'
def DGs (X : Cx) (Y : Yc) (tg : List Expr) (t : Tgs) : Prop := PGs X tg (tgsG (amb X) Y t)
def tgNil : Tgs := fun ds ρ => match ds with
  | [] => some ρ
  | _ => none
def tgCons (t : Tg) (u : Tgs) : Tgs := fun ds ρ => match ds with
  | d :: ds => match t (.dat d) ρ with
    | some ρ' => u ds ρ'
    | none => none
  | [] => none
/-- a target that does not forget what stays -/
def keepsG (A : Amb) (Y : Yc) (t : Tg) (tg : TG) : Prop := ∀ F P σ G H ρ x v ρ' (Q : L2.St → Hp → Prop), F.er = Y.er → EnvG A F P σ G H ρ → RfOk A F σ G H ρ v x → t x ρ = some ρ' → (∀ σ' G' H', Same G G' → EnvG A F P σ' G' H' ρ' → Q σ' H') → tg v σ H Q
theorem dgs_nil : DGs X Y [] tgNil := PGs.weak pgs_nil fun v σ H Q ⟨F, P, G, ρ, ds, ρ', er, e, ro, hm, hQ⟩ => by
  cases ro with
  | nil =>
    cases hm
    exact ⟨rfl, hQ σ G H e⟩
  | cons _ _ => cases hm
theorem dgs_cons {t : Tg} {u : Tgs} {g : TG} (h1 : PG X t1 g) (hk : keepsG (amb X) Y t g) (h2 : DGs X Y ts u) (hs : (assignEach (t1 :: ts) X.env).map (·.2) = assign t1 X.env :: (assignEach ts X.env).map (·.2) := by rfl) : DGs X Y (t1 :: ts) (tgCons t u) :=
  PGs.weak (pgs_cons h1 h2 hs) fun v σ H Q ⟨F, P, G, ρ, ds, ρ', er, e, ro, hm, hQ⟩ => by
    cases ro with
    | nil => cases hm
    | @cons v d vs ds h r =>
      unfold tgCons at hm
      simp only at hm
      cases q : t (.dat d) ρ with
      | none =>
        rw [q] at hm
        cases hm
      | some ρ1 =>
        rw [q] at hm
        exact ⟨v, vs, rfl, hk F P σ G H ρ (.dat d) v ρ1 _ er e h q fun σ' G' H' s e' => ⟨F, P, G', ρ1, ds, ρ', er, e', r.mono s, hm, hQ⟩⟩
theorem keeps_name {A : Amb} {i : Nat} : keepsG A Y (tgName i) (gName i) := fun F P σ G H ρ x v ρ' Q er e ro hm hQ => by
  obtain ⟨G', s, e'⟩ := tgName_ok e ro hm
  exact hQ _ G' H s e'
def D.unp : D → Option (List D)
  | .tup ds => some ds
  | .pr ds => some ds
  | _ => none
theorem Im.unp {A : Amb} {G : Hp} {v : V} {d : D} {ds : List D} (h : Im A G v d) (e : d.unp = some ds) : ∃ a vs, v = .ref a ∧ SqT A.K G a vs ∧ Ims A G vs ds := by
  cases h with
  | tup h r =>
    cases e
    exact ⟨_, _, rfl, h.sq, r⟩
  | pr h r =>
    cases e
    exact ⟨_, _, rfl, h, r⟩
  | _ => cases e
def tgTup (n : Nat) (t : Tgs) : Tg := fun x ρ => match x with
  | .dat d => match d.unp with
    | some ds => if ds.length = n then t ds ρ else none
    | none => none
  | _ => none
theorem tgTup_ok {A : Amb} {n : Nat} {t : Tgs} {u : TGs} (hu : ∀ F P σ G H ρ ds vs ρ' (Q : L2.St → Hp → Prop), F.er = Y.er → EnvG A F P σ G H ρ → Ims A G vs ds → t ds ρ = some ρ' → (∀ σ' G' H', Same G G' → EnvG A F P σ' G' H' ρ' → Q σ' H') → u vs σ H Q) : keepsG A Y (tgTup n t) (gTup A.K n u) :=
  fun F P σ G H ρ x v ρ' Q er e ro hm hQ => by
    cases x with
    | cel i => cases hm
    | new ds => cases hm
    | dat d =>
      unfold tgTup at hm
      cases q : d.unp with
      | none =>
        simp only [q] at hm
        cases hm
      | some ds =>
        simp only [q] at hm
        by_cases hl : ds.length = n
        · rw [if_pos hl] at hm
          obtain ⟨a, us, rfl, h, r⟩ := Im.unp (show Im A G v d from ro) q
          exact ⟨_, _, rfl, same_sqT e.gh h, r.length.trans hl, hu F P σ G H ρ ds _ ρ' Q er e r hm hQ⟩
        · rw [if_neg hl] at hm
          cases hm
theorem dg_tup {k n : Nat} {t : Tgs} (hc : X.calm = true) (h : DGs X Y ts t) (hn : (assignEach ts X.env).length = n := by rfl) (hst : (assignEach ts X.env).findIdx? (·.1) = none := by rfl) : DG X Y (.Tuple ts k pos) (tgTup n t) :=
  PG.weak (pg_tup hc h hn hst) fun v σ H Q ⟨F, P, G, ρ, x, ρ', er, e, ro, hm, hQ⟩ => by
    cases x with
    | cel i => cases hm
    | new ds => cases hm
    | dat d =>
      unfold tgTup at hm
      cases q : d.unp with
      | none =>
        simp only [q] at hm
        cases hm
      | some ds =>
        simp only [q] at hm
        by_cases hl : ds.length = n
        · rw [if_pos hl] at hm
          obtain ⟨a, us, rfl, h, r⟩ := Im.unp (show Im (amb X) G v d from ro) q
          exact ⟨_, _, rfl, same_sqT e.gh h, r.length.trans hl, F, P, G, ρ, ds, ρ', er, e, r, hm, hQ⟩
        · rw [if_neg hl] at hm
          cases hm
/-- target = e -/
def sAsg (m : M Rf) (t : Tg) : S := liftS m fun x ρ => match t x ρ with
  | some ρ' => some (.nx ρ')
  | none => none
theorem asg_tail {g : TG} {t : Tg} {me : M Rf} {D : Ends} {σ : L2.St} {H : Hp} (hg : ∀ v σ H Q, tgG (amb X) Y t v σ H Q → g v σ H Q) (h : tS (amb X) Y (sAsg me t) D σ H) : tAsg (tG (amb X) Y (relE (amb X)) me) g D σ H := by
  obtain ⟨F, P, G, ρ, o, er, e, hm, hp⟩ := h
  refine tS_bind er e hm hp fun G1 H1 ρ1 x v s1 e1 ro hk => hg _ _ _ _ ?_
  cases q : t x ρ1 with
  | none =>
    rw [q] at hk
    cases hk
  | some ρ' =>
    rw [q] at hk
    cases hk
    exact ⟨F, P, G1, ρ1, x, ρ', er, e1, ro, q, fun σ' G' H' e' => hp σ' G' H' e'⟩
theorem ds_asg {tg e : Expr} {t : Tg} {me : M Rf} (he : DE X Y e me) (hg : DG X Y tg t) (hs : swapsWithSole [tg] e pos.line X.env = pure false := by rfl) (hw : swappedStores [tg] e X.env = pure none := by rfl)
    (h1 : (assignEach [tg] X.env).map (·.2) = [assign tg X.env] := by rfl) : DS X Y (.Assign [tg] e pos) (sAsg me t) := PS.weak (ps_asg he hg hs hw h1) fun _ _ _ h => asg_tail (fun _ _ _ _ q => q) h
theorem ds_set {i : Nat} {x : Str} {e : Expr} {pos' : Pos} {me : M Rf} (he : DE X Y e me) (hN : X.N.Nodup) (hi : X.N[i]? = some x) (hx : Loc X.env.scope x) (hs : swapsWith e (some (.Name x pos')) pos.line X.env = pure false := by rfl)
    (hf : X.fn x = true ∨ X.env.scope.names.lookup x = some .local := by first | exact .inl rfl | exact .inr rfl | assumption) : DS X Y (.Assign [.Name x pos'] e pos) (sAsg me (tgName i)) :=
  PS.weak (ps_set hN hi hx he hs hf) fun _ _ _ h => asg_tail (fun v σ H Q ⟨F, P, G, ρ, x, ρ', er, e, ro, hm, hQ⟩ => by
    obtain ⟨G', s, e'⟩ := tgName_ok e ro hm
    exact hQ _ G' H e') h
end

/-! xs[i] = e : the value, the object, the place -/
def ixD (n : Nat) (i : Int) : Option Nat := ixN n i
def sSub (mv mo mi : M Rf) : S := liftS mv fun v => liftS (frz (stl v)) fun d => liftS mo fun o => liftS mi fun i => liftS (drf (stl i)) fun k ρ => match stl o, k with
  | .cel j, .int z => match ρ[j]? with
    | some (.cel p (.lst ds)) => match ixN ds.length z with
      | some q => some (.nx (ρ.set j (.cel p (.lst (ds.set q d)))))
      | none => none
    | _ => none
  | _, _ => none
section
variable {A : Amb} {Y : Yc} {F : Fx} {P : List (Nat × Addr)} {σ : L2.St} {G H : Hp} {ρ : E}
theorem tSE_bind {ma : M Rf} {k : Rf → S} {o : O} {D : Ends} {T : V → Hp → Prop} (er : F.er = Y.er) (e : EnvG A F P σ G H ρ) (hm : liftS ma k ρ = some o) (hp : PostS A Y F P D o)
    (hT : ∀ G1 H1 ρ1 x v, Same G G1 → EnvG A F P σ G1 H1 ρ1 → SOk A σ G1 v (stl x) → k x ρ1 = some o → T v H1) : tG A Y (relE A) ma σ H T :=
  tS_bind er e hm hp fun G1 H1 ρ1 x v s e1 ra hk => by
    obtain ⟨G2, s2, e2, so⟩ := settle e1 ra
    exact hT G2 H1 ρ1 x v (s.trans s2) e2 so hk
theorem liftS_frz {v : V} {x : Rf} {k : D → S} {o : O} (e : EnvG A F P σ G H ρ) (h : SOk A σ G v x) (hm : liftS (frz x) k ρ = some o) : ∃ d ρ' G', k d ρ' = some o ∧ Same G G' ∧ EnvG A F P σ G' H ρ' ∧ Im A G' v d := by
  cases q : frz x ρ with
  | none =>
    rw [liftS_none q] at hm
    cases hm
  | some r =>
    obtain ⟨d, ρ', G', rfl, s, e', im⟩ := frz_ok e h q
    rw [liftS_ok q] at hm
    exact ⟨d, ρ', G', hm, s, e', im⟩
theorem liftS_drf {x : Rf} {k : D → S} {o : O} (hm : liftS (drf x) k ρ = some o) : ∃ d, deref ρ x = some d ∧ k d ρ = some o := by
  unfold liftS drf at hm
  cases q : deref ρ x with
  | none =>
    rw [q] at hm
    cases hm
  | some d =>
    rw [q] at hm
    exact ⟨d, rfl, hm⟩
end
section
variable {X : Cx} {Y : Yc} {pos : Pos}
theorem ds_sub {o i e : Expr} {pos' : Pos} {mo mi me : M Rf} (he : DE X Y e me) (ho : DE X Y o mo) (hi : DE X Y i mi) (ha : ∀ v, assign (.Subscript o i pos') X.env v = (do
      let ov ← holding [v] (eval o X.env)
      let iv ← holding [v, ov] (eval i X.env)
      standAt pos'
      holding [v, ov, iv] (setItem ov iv v)
      release [v, ov, iv] []) := by intro _; rfl) (hs : swapsWithSole [.Subscript o i pos'] e pos.line X.env = pure false := by rfl) (hw : swappedStores [.Subscript o i pos'] e X.env = pure none := by rfl)
    (h1 : (assignEach [.Subscript o i pos'] X.env).map (·.2) = [assign (.Subscript o i pos') X.env] := by rfl) : DS X Y (.Assign [.Subscript o i pos'] e pos) (sSub me mo mi) :=
  PS.weak (ps_asg he (pg_sub ho hi set_list ha) hs hw h1) fun D σ H ⟨F, P, G, ρ, o, er, e, hm, hp⟩ => tSE_bind er e hm hp fun G1 H1 ρ1 x v s1 e1 so1 hk1 => by
    obtain ⟨d, ρ2, G2, hk2, s2, e2, im⟩ := liftS_frz e1 so1 hk1
    refine tSE_bind er e2 hk2 hp fun G3 H3 ρ3 y ov s3 e3 so3 hk3 => tSE_bind er e3 hk3 hp fun G4 H4 ρ4 z iv s4 e4 so4 hk4 => ?_
    obtain ⟨k, hd, hk5⟩ := liftS_drf hk4
    have tz := top_of e4 so4 hd
    have so3 := so3.mono s4
    cases hy : stl y with
    | dat d =>
      simp only [hy] at hk5
      cases hk5
    | new ds =>
      simp only [hy] at hk5
      cases hk5
    | cel j =>
      rw [hy] at so3
      have so3 : σ[j]? = some (some ov) := so3
      cases k with
      | int zi =>
        simp only [hy] at hk5
        have ti := tz.int
        subst ti
        cases q : ρ4[j]? with
        | none =>
          rw [q] at hk5
          cases hk5
        | some sl =>
          rw [q] at hk5
          cases sl with
          | no => cases hk5
          | val d => cases hk5
          | err x => cases hk5
          | cel p c =>
            cases c with
            | ins c ns ds => cases hk5
            | dct kvs => cases hk5
            | lst ds =>
              simp only at hk5
              cases hq : ixN ds.length zi with
              | none =>
                rw [hq] at hk5
                cases hk5
              | some qn =>
                rw [hq] at hk5
                cases hk5
                obtain ⟨l, h1, ⟨vs, h2, hv⟩, h3, h4⟩ := e4.cel j p (.lst ds) q
                rw [so3] at h1
                cases h1
                have im4 := im.mono (s3.trans s4)
                refine ⟨l, vs, zi, qn, rfl, rfl, h2, by rw [hv.length]; exact hq, hp _ G4 _ (e4.write (c' := .lst (ds.set qn d)) q so3 ⟨_, upd_same, Ims.set im4 qn hv⟩)⟩
      | _ =>
        simp only [hy] at hk5
        cases hk5
end

/-! loops -/
def whileN (t : M Bool) (b : S) : Nat → S
  | 0 => fun _ => none
  | n + 1 => liftS t fun c => if c = true then (fun ρ => match b ρ with
    | none => none
    | some (.nx ρ') => whileN t b n ρ'
    | some (.ct ρ') => whileN t b n ρ'
    | some (.bk ρ') => some (.nx ρ')
    | some o => some o) else sNx
section
variable {X : Cx} {Y : Yc} {body : List Stmt} {m : S} {c : Expr} {mt : M Bool} {pos : Pos}
theorem ds_while (n : Nat) (hp : PassesOwn (model X.prog X.w) X.A X.env X.xe) (hc : DT X Y c mt) (hb : DSs X Y body m) : DS X Y (.While c body [] pos) (whileN mt m n) :=
  PS.weak (ps_while hp hc hb) fun D σ H ⟨F, P, G, ρ, o, er, e, hm, hp⟩ => by
    refine ⟨fun k σ' H' => ∃ G' ρ', EnvG (amb X) F P σ' G' H' ρ' ∧ whileN mt m k ρ' = some o, ⟨n, G, ρ, e, hm⟩, fun k σ1 H1 ⟨G1, ρ1, e1, hk⟩ => ?_⟩
    cases k with
    | zero => cases hk
    | succ k =>
      refine tS_bind (Re := relB) er e1 hk hp fun G2 H2 ρ2 x v s2 e2 (ro : v = x) hk2 => ?_
      subst ro
      cases v with
      | false =>
        rw [if_neg Bool.false_ne_true] at hk2 ⊢
        cases hk2
        exact hp σ1 G2 H2 e2
      | true =>
        rw [if_pos rfl] at hk2 ⊢
        refine ⟨fun σ' H' => ∃ G' ρ', EnvG (amb X) F P σ' G' H' ρ' ∧ whileN mt m k ρ' = some o, fun σ' H' h => ⟨k, Nat.lt_succ_self k, h⟩, ?_⟩
        cases q : m ρ2 with
        | none =>
          rw [q] at hk2
          cases hk2
        | some o1 =>
          rw [q] at hk2
          refine ⟨F, P, G2, ρ2, o1, er, e2, q, ?_⟩
          cases o1 with
          | nx ρ3 => exact fun σ' G' H' e' => ⟨G', ρ3, e', hk2⟩
          | ct ρ3 => exact fun σ' G' H' e' => ⟨G', ρ3, e', hk2⟩
          | bk ρ3 =>
            cases hk2
            exact fun σ' G' H' e' => hp σ' G' H' e'
          | rt x ρ3 =>
            cases hk2
            exact hp
          | ex x ρ3 =>
            cases hk2
            exact hp

/-- what is walked: the items, one by one -/
structure Wlk (A : Amb) (J : It) (G : Hp) (ds : List D) : Prop where
  go : ∀ i H, Same G H → i < ds.length → J.go i H
  stop : ∀ H, Same G H → J.stop ds.length H
  yld : ∀ (i : Nat) H x H' d, Same G H → ds[i]? = some d → J.yld i H x H' → (H' = H ∧ Im A G x d) ∨ ∃ T vs ds', x = .ref T ∧ H T = none ∧ H' = upd H T (.tup vs) ∧ d = .pr ds' ∧ Ims A G vs ds'
theorem Wlk.mono {A : Amb} {J : It} {G G' : Hp} {ds : List D} (h : Wlk A J G ds) (s : Same G G') : Wlk A J G' ds :=
  ⟨fun i H g => h.go i H (s.trans g), fun H g => h.stop H (s.trans g), fun i H x H' d g hd y => by
    rcases h.yld i H x H' d (s.trans g) hd y with ⟨a, b⟩ | ⟨T, vs, ds', a, b, c, f, g⟩
    · exact .inl ⟨a, b.mono s⟩
    · exact .inr ⟨T, vs, ds', a, b, c, f, g.mono s⟩⟩
abbrev relI (A : Amb) : Rel (List D) It := fun _ _ G _ _ J ds => Wlk A J G ds
def DI (X : Cx) (Y : Yc) (tg iter : Expr) (m : M (List D)) : Prop := PI X tg iter (tG (amb X) Y (relI (amb X)) m)
theorem PI.weak {X : Cx} {tg e : Expr} {t t' : TI} (h : PI X tg e t) (w : ∀ σ H Q, t' σ H Q → t σ H Q) : PI X tg e t' := ⟨fun pins s σ H Q I q => h.run pins s σ H Q I (w _ _ _ q)⟩
def forL (t : Tg) (b : S) : List D → S
  | [] => sNx
  | d :: ds => fun ρ => match t (.dat d) ρ with
    | none => none
    | some ρ1 => match b ρ1 with
      | none => none
      | some (.nx ρ') => forL t b ds ρ'
      | some (.ct ρ') => forL t b ds ρ'
      | some (.bk ρ') => some (.nx ρ')
      | some o => some o
def sFor (mi : M (List D)) (t : Tg) (b : S) : S := liftS mi fun ds => forL t b ds
/-- a turn's item comes -/
theorem Wlk.turn {A : Amb} {F : Fx} {P : List (Nat × Addr)} {σ : L2.St} {G G1 H H' : Hp} {ρ : E} {J : It} {ds : List D} {i : Nat} {d : D} {x : V} (h : Wlk A J G ds) (s : Same G G1) (e : EnvG A F P σ G1 H ρ) (hd : ds[i]? = some d) (y : J.yld i H x H') :
    ∃ G2, Same G1 G2 ∧ EnvG A F P σ G2 H' ρ ∧ Im A G2 x d := by
  rcases h.yld i H x H' d (s.trans e.gh) hd y with ⟨a, b⟩ | ⟨T, vs, ds', rfl, b, rfl, rfl, g⟩
  · subst a
    exact ⟨G1, Same.refl G1, e, b.mono s⟩
  · obtain ⟨G2, s2, e2, ro⟩ := e.newP b (g.mono s)
    exact ⟨G2, s2, e2, ro⟩
theorem ds_for {tg iter : Expr} {mi : M (List D)} {t : Tg} (hp : PassesOwn (model X.prog X.w) X.A X.env X.xe) (hc : X.calm = true) (hi : DI X Y tg iter mi) (hg : DG X Y tg t) (hb : DSs X Y body m) (hs : ∀ x, foldedSetIterable iter X.env x = pure x := by intro _; rfl) :
    DS X Y (.For tg iter body [] pos) (sFor mi t m) :=
  PS.weak (ps_for hp hc hi hg hb hs) fun D σ H ⟨F, P, G, ρ, o, er, e, hm, hp⟩ => tS_bind (Re := relI (amb X)) er e hm hp fun G1 H1 ρ1 ds J s1 e1 ro hk => by
    refine ⟨fun i k σ' H' => k = ds.length - i ∧ i ≤ ds.length ∧ ∃ G' ρ', Same G1 G' ∧ EnvG (amb X) F P σ' G' H' ρ' ∧ forL t m (ds.drop i) ρ' = some o, ⟨ds.length, by simp, Nat.zero_le _, G1, ρ1, Same.refl G1, e1, hk⟩, ?_⟩
    rintro i k σ2 H2 ⟨rfl, hi, G2, ρ2, s2, e2, hk2⟩
    by_cases hlt : i < ds.length
    · have hd : ds[i]? = some ds[i] := by simp [hlt]
      have hdrop : ds.drop i = ds[i] :: ds.drop (i + 1) := List.drop_eq_getElem_cons hlt
      rw [hdrop] at hk2
      unfold forL at hk2
      refine .inr ⟨ro.go i H2 (s2.trans e2.gh) hlt, fun σ' H' => i + 1 ≤ ds.length ∧ ∃ G' ρ', Same G1 G' ∧ EnvG (amb X) F P σ' G' H' ρ' ∧ forL t m (ds.drop (i + 1)) ρ' = some o, fun σ' H' h => ⟨ds.length - (i + 1), by omega, rfl, h.1, h.2⟩, fun x H3 y => ?_⟩
      obtain ⟨G3, s3, e3, im⟩ := ro.turn s2 e2 hd y
      cases q : t (.dat ds[i]) ρ2 with
      | none =>
        rw [q] at hk2
        cases hk2
      | some ρ3 =>
        rw [q] at hk2
        simp only at hk2
        -- what stays is kept by the heap behind the target: it is in the frame's record
        have e3' : EnvG (amb X) { F with G := G3 } P σ2 G3 H3 ρ2 := ⟨e3.fr, Same.refl G3, e3.gh, fun a u h => .inl h, e3.ca, e3.len, e3.val, e3.cel, e3.ap, e3.pin, e3.err⟩
        have back : ∀ {σ' G' H' ρ'}, EnvG (amb X) { F with G := G3 } P σ' G' H' ρ' → Same G3 G' ∧ EnvG (amb X) F P σ' G' H' ρ' := fun {σ' G' H' ρ'} e' =>
          ⟨e'.gg, e'.fr, e3.gg.trans e'.gg, e'.gh, fun a u h => by
            rcases e'.gn a u h with h | h
            · exact e3.gn a u h
            · exact .inr h, e'.ca, e'.len, e'.val, e'.cel, e'.ap, e'.pin, e'.err⟩
        refine ⟨{ F with G := G3 }, P, G3, ρ2, .dat ds[i], ρ3, er, e3', im, q, fun σ4 G4 H4 e4 => ?_⟩
        cases qb : m ρ3 with
        | none =>
          rw [qb] at hk2
          cases hk2
        | some o1 =>
          rw [qb] at hk2
          refine ⟨{ F with G := G3 }, P, G4, ρ3, o1, er, e4, qb, ?_⟩
          cases o1 with
          | nx ρ5 => exact fun σ5 G5 H5 e5 => ⟨hlt, G5, ρ5, (s2.trans s3).trans (back e5).1, (back e5).2, hk2⟩
          | ct ρ5 => exact fun σ5 G5 H5 e5 => ⟨hlt, G5, ρ5, (s2.trans s3).trans (back e5).1, (back e5).2, hk2⟩
          | bk ρ5 =>
            cases hk2
            exact fun σ5 G5 H5 e5 => hp σ5 G5 H5 (back e5).2
          | rt x ρ5 =>
            cases hk2
            exact fun v σ5 G5 H5 e5 ro5 => hp v σ5 G5 H5 (back e5).2 (by
              cases x with
              | dat d => exact ro5
              | cel j => exact ro5
              | new l => exact ro5)
          | ex x ρ5 =>
            cases hk2
            exact fun cls d σ5 G5 H5 e5 xa => hp cls d σ5 G5 H5 (back e5).2 xa
    · have ei : i = ds.length := by omega
      subst ei
      rw [List.drop_length] at hk2
      cases hk2
      exact .inl ⟨ro.stop H2 (s2.trans e2.gh), hp σ2 G2 H2 e2⟩
end
end Z

set_option Elab.async false
set_option linter.all false
set_option maxRecDepth 100000
set_option maxHeartbeats 4000000
/-! ZD: defs, their promises by mirrors, calls. -/
namespace Z
open PySem PySem.Spec PyProof.Rows L2

/-- an argument: a datum, or an object handed over to be changed -/
inductive Ar where
  | val (d : D)
  | cel (c : Cell)
/-- a call's end: n: the answer is a new list; the objects handed over, as they are then -/
inductive FR where
  | ret (n : Bool) (d : D) (cs : List Cell)
  | exc (x : Ex) (cs : List Cell)
abbrev Fn := List Ar → Option FR

/-- the addresses of the objects handed over -/
def cads : List V → List Ar → List Addr
  | .ref a :: vs, .cel _ :: as => a :: cads vs as
  | _ :: vs, _ :: as => cads vs as
  | _, _ => []
inductive ArgsOk (A : Amb) (G H : Hp) : List V → List Ar → Prop
  | nil : ArgsOk A G H [] []
  | val {v : V} {d : D} {vs : List V} {as : List Ar} : Im A G v d → ArgsOk A G H vs as → ArgsOk A G H (v :: vs) (.val d :: as)
  | cel {a : Addr} {c : Cell} {vs : List V} {as : List Ar} : CellAt A G H a c → G a = none → ArgsOk A G H vs as → ArgsOk A G H (.ref a :: vs) (.cel c :: as)
inductive CelsAt (A : Amb) (G H : Hp) : List Addr → List Cell → Prop
  | nil : CelsAt A G H [] []
  | cons {a : Addr} {c : Cell} {l : List Addr} {cs : List Cell} : CellAt A G H a c → G a = none → CelsAt A G H l cs → CelsAt A G H (a :: l) (c :: cs)
def RetOk (A : Amb) (G H H0 : Hp) (v : V) : Bool → D → Prop
  | true, .lst ds => ∃ l vs, v = .ref l ∧ H l = some (.lst vs) ∧ G l = none ∧ H0 l = none ∧ Ims A G vs ds
  | true, _ => False
  | false, d => Im A G v d
/-- how the heap behind a call stands to the one ahead of it -/
structure Beh (G H : Hp) (C : List Addr) (G' H' : Hp) : Prop where
  gg : Same G G'
  gh : Same G' H'
  gn : ∀ a o, G' a = some o → G a = some o ∨ H a = none
  fr : ∀ a o, a ∉ C → H a = some o → H' a = some o
def PostF (A : Amb) (G H : Hp) (C : List Addr) (Q : VK) (W : XK) : FR → Prop
  | .ret n d cs => ∀ v G' H', Beh G H C G' H' → CelsAt A G' H' C cs → RetOk A G' H' H v n d → Q v H'
  | .exc x cs => ∀ cls d G' H', Beh G H C G' H' → CelsAt A G' H' C cs → ExAt A G' cls d x → W cls d H'
def spZ (A : Amb) (f : Fn) : Sp := fun vs H Q W => ∃ G as r, Same G H ∧ ArgsOk A G H vs as ∧ (cads vs as).Nodup ∧ f as = some r ∧ PostF A G H (cads vs as) Q W r
theorem ArgsOk.length {A : Amb} {G H : Hp} : ∀ {vs : List V} {as : List Ar}, ArgsOk A G H vs as → vs.length = as.length
  | _, _, .nil => rfl
  | _, _, .val _ r => congrArg Nat.succ r.length
  | _, _, .cel _ _ r => congrArg Nat.succ r.length

/-- a def keeps a promise, wherever no text of an object is being made -/
structure FnZ (P : Program) (w : World) (K : PySem.W.Frag) (mg : Str → Option Value) (base : Heap) (k : Nat) (f : Addr) (fd : FuncData) (ps : List Str) (fn : Fn) : Prop where
  len : ∀ as r, fn as = some r → as.length = ps.length
  run : ∀ (A : Around) (outer : List Env) (s : Shared) (H : Hp) (args : Args) (us : List Value) (vs : List V) (Q : VK) (W : XK), A.guards = some [] → Room k A → Env0 P w K mg base A outer s H → BindsTo s fd args (ps.zip us) → Vals vs us →
    spZ ⟨K, mg⟩ fn vs H Q W → codeAny (model P w) A (.call (.ref f) args) (CR (L2.CX P w) outer P w H s Q W) s
theorem FnZ.mono {P : Program} {w : World} {K : PySem.W.Frag} {mg : Str → Option Value} {base : Heap} {j k : Nat} {f : Addr} {fd : FuncData} {ps : List Str} {fn : Fn} (F : FnZ P w K mg base j f fd ps fn) (h : j ≤ k) : FnZ P w K mg base k f fd ps fn :=
  ⟨F.len, fun A outer s H args us vs Q W hg hr => F.run A outer s H args us vs Q W hg (hr.mono h)⟩
/-- the same promise by another mirror that tells no less -/
theorem FnZ.imp {P : Program} {w : World} {K : PySem.W.Frag} {mg : Str → Option Value} {base : Heap} {k : Nat} {f : Addr} {fd : FuncData} {ps : List Str} {fn fn' : Fn} (F : FnZ P w K mg base k f fd ps fn) (h : ∀ as r, fn' as = some r → fn as = some r) : FnZ P w K mg base k f fd ps fn' :=
  ⟨fun as r q => F.len as r (h as r q), fun A outer s H args us vs Q W hg hr e0 hb r ⟨G, as, r', a, b, c, d, e⟩ => F.run A outer s H args us vs Q W hg hr e0 hb r ⟨G, as, r', a, b, c, h _ _ d, e⟩⟩

/-! the entry and the end of a body -/
def slOf : Ar → Sl
  | .val d => .val d
  | .cel c => .cel true c
/-- the objects handed over, at the end -/
def outs : List Ar → E → Option (List Cell)
  | [], _ => some []
  | .val _ :: as, _ :: ρ => outs as ρ
  | .cel _ :: as, .cel _ c :: ρ => (outs as ρ).map (c :: ·)
  | _, _ => none
def retOf (ρ : E) : Rf → Option (Bool × D)
  | .dat d => some (false, d)
  | .new ds => some (true, .lst ds)
  | .cel i => match ρ[i]? with
    | some (.cel false (.lst ds)) => some (true, .lst ds)
    | _ => none
def entry (n : Nat) (as : List Ar) : E := as.map slOf ++ List.replicate (n - as.length) .no
/-- a body with np parameters, n slots -/
def bodyF (np n : Nat) (m : S) : Fn := fun as => if as.length = np then (match m (entry n as) with
  | some (.nx ρ) => (outs as ρ).map fun cs => .ret false .non cs
  | some (.rt x ρ) => match retOf ρ x, outs as ρ with
    | some (b, d), some cs => some (.ret b d cs)
    | _, _ => none
  | some (.ex x ρ) => (outs as ρ).map fun cs => .exc x cs
  | _ => none) else none
def pinsOf : Nat → List V → List Ar → List (Nat × Addr)
  | i, .ref a :: vs, .cel _ :: as => (i, a) :: pinsOf (i + 1) vs as
  | i, _ :: vs, _ :: as => pinsOf (i + 1) vs as
  | _, _, _ => []
section
variable {A : Amb} {G H : Hp}
theorem pins_get : ∀ {vs : List V} {as : List Ar} {k i : Nat} {a : Addr}, (i, a) ∈ pinsOf k vs as → ∃ j c, i = k + j ∧ vs[j]? = some (.ref a) ∧ as[j]? = some (.cel c)
  | [], _, _, _, _, h => by
    unfold pinsOf at h
    cases h
  | v :: vs, [], _, _, _, h => by
    cases v <;> (unfold pinsOf at h; cases h)
  | v :: vs, .val d :: as, k, i, a, h => by
    have h' : (i, a) ∈ pinsOf (k + 1) vs as := by
      cases v <;> exact h
    obtain ⟨j, c, e, h1, h2⟩ := pins_get h'
    exact ⟨j + 1, c, by omega, by simpa using h1, by simpa using h2⟩
  | v :: vs, .cel c0 :: as, k, i, a, h => by
    have go : (i, a) ∈ pinsOf (k + 1) vs as → ∃ j c, i = k + j ∧ (v :: vs)[j]? = some (.ref a) ∧ (Ar.cel c0 :: as)[j]? = some (.cel c) := fun h' => by
      obtain ⟨j, c, e, h1, h2⟩ := pins_get h'
      exact ⟨j + 1, c, by omega, by simpa using h1, by simpa using h2⟩
    cases v with
    | ref b =>
      rcases List.mem_cons.mp h with e | h
      · cases e
        exact ⟨0, c0, rfl, rfl, rfl⟩
      · exact go h
    | _ => exact go h
theorem cads_get (h : ArgsOk A G H vs as) : ∀ {a : Addr}, a ∈ cads vs as ↔ ∃ (j : Nat) (c : Cell), vs[j]? = some (.ref a) ∧ as[j]? = some (.cel c) := by
  intro a
  induction h with
  | nil =>
    constructor
    · intro h
      cases h
    · rintro ⟨j, c, h, _⟩
      cases h
  | @val v d vs as h r ih =>
    have e : cads (v :: vs) (.val d :: as) = cads vs as := by cases v <;> rfl
    rw [e, ih]
    constructor
    · rintro ⟨j, c, h1, h2⟩
      exact ⟨j + 1, c, by simpa using h1, by simpa using h2⟩
    · rintro ⟨j, c, h1, h2⟩
      cases j with
      | zero => cases h2
      | succ j => exact ⟨j, c, by simpa using h1, by simpa using h2⟩
  | @cel b c vs as h1 h2 r ih =>
    show a ∈ b :: cads vs as ↔ _
    rw [List.mem_cons, ih]
    constructor
    · rintro (rfl | ⟨j, c', h1, h2⟩)
      · exact ⟨0, c, rfl, rfl⟩
      · exact ⟨j + 1, c', by simpa using h1, by simpa using h2⟩
    · rintro ⟨j, c', h1, h2⟩
      cases j with
      | zero =>
        cases h1
        exact .inl rfl
      | succ j => exact .inr ⟨j, c', by simpa using h1, by simpa using h2⟩
theorem cads_inj (h : ArgsOk A G H vs as) (nd : (cads vs as).Nodup) : ∀ {i j : Nat} {a : Addr} {c c' : Cell}, vs[i]? = some (.ref a) → as[i]? = some (.cel c) → vs[j]? = some (.ref a) → as[j]? = some (.cel c') → i = j := by
  induction h with
  | nil =>
    intro i j a c c' h
    cases h
  | @val v d vs as h r ih =>
    have e : cads (v :: vs) (.val d :: as) = cads vs as := by cases v <;> rfl
    rw [e] at nd
    intro i j a c c' h1 h2 h3 h4
    cases i with
    | zero => cases h2
    | succ i =>
      cases j with
      | zero => cases h4
      | succ j => exact congrArg Nat.succ (ih nd (by simpa using h1) (by simpa using h2) (by simpa using h3) (by simpa using h4))
  | @cel b c vs as h1 h2 r ih =>
    have nd : (b :: cads vs as).Nodup := nd
    obtain ⟨n1, n2⟩ := List.nodup_cons.mp nd
    intro i j a c1 c2 k1 k2 k3 k4
    cases i with
    | zero =>
      cases j with
      | zero => rfl
      | succ j =>
        cases k1
        exact absurd ((cads_get r).mpr ⟨j, c2, by simpa using k3, by simpa using k4⟩) n1
    | succ i =>
      cases j with
      | zero =>
        cases k3
        exact absurd ((cads_get r).mpr ⟨i, c1, by simpa using k1, by simpa using k2⟩) n1
      | succ j => exact congrArg Nat.succ (ih n2 (by simpa using k1) (by simpa using k2) (by simpa using k3) (by simpa using k4))
theorem args_at (h : ArgsOk A G H vs as) : ∀ {i : Nat} {s : Ar}, as[i]? = some s → ∃ v, vs[i]? = some v ∧ match s with
    | .val d => Im A G v d
    | .cel c => ∃ a, v = .ref a ∧ CellAt A G H a c ∧ G a = none := by
  induction h with
  | nil =>
    intro i s h
    cases h
  | @val v d vs as h r ih =>
    intro i s q
    cases i with
    | zero =>
      cases q
      exact ⟨v, rfl, h⟩
    | succ i =>
      obtain ⟨u, h1, h2⟩ := ih (by simpa using q)
      exact ⟨u, by simpa using h1, h2⟩
  | @cel b c vs as h1 h2 r ih =>
    intro i s q
    cases i with
    | zero =>
      cases q
      exact ⟨_, rfl, b, rfl, h1, h2⟩
    | succ i =>
      obtain ⟨u, h1, h2⟩ := ih (by simpa using q)
      exact ⟨u, by simpa using h1, h2⟩
theorem entry_get {n i : Nat} {as : List Ar} {s : Sl} (h : (entry n as)[i]? = some s) : (∃ a, as[i]? = some a ∧ s = slOf a) ∨ (as.length ≤ i ∧ s = .no) := by
  unfold entry at h
  by_cases hi : i < as.length
  · rw [List.getElem?_append_left (by simpa using hi), List.getElem?_map] at h
    cases q : as[i]? with
    | none =>
      rw [q] at h
      cases h
    | some a =>
      rw [q] at h
      cases h
      exact .inl ⟨a, rfl, rfl⟩
  · rw [List.getElem?_append_right (by simpa using hi), List.getElem?_replicate] at h
    split at h
    · cases h
      exact .inr ⟨by omega, rfl⟩
    · cases h
theorem start_get {N : List Str} {vs : List V} {i : Nat} {v : V} (h : vs[i]? = some v) : (L2.start N vs)[i]? = some (some v) := by
  unfold L2.start
  have hi : i < vs.length := (List.getElem?_eq_some_iff.mp h).1
  rw [List.getElem?_append_left (by simpa using hi), List.getElem?_map, h]
  rfl
/-- the entry of a body -/
theorem entry_ok {N : List Str} {vs : List V} {as : List Ar} (s : Same G H) (h : ArgsOk A G H vs as) (nd : (cads vs as).Nodup) (hn : as.length ≤ N.length) :
    EnvG A ⟨H, G, cads vs as, none⟩ (pinsOf 0 vs as) (L2.start N vs) G H (entry N.length as) where
  fr := fun a o _ q => q
  gg := Same.refl G
  gh := s
  gn := fun a o q => .inl q
  ca := fun a hc z => by
    obtain ⟨j, c, h1, h2⟩ := (cads_get h).mp hc
    obtain ⟨v, k1, b, rfl, k2, _⟩ := args_at h h2
    rw [h1] at k1
    cases k1
    obtain ⟨o, ho⟩ := k2.some
    rw [z] at ho
    cases ho
  len := by
    have e := h.length
    unfold entry L2.start
    rw [List.length_append, List.length_append, List.length_map, List.length_map, List.length_replicate, List.length_replicate]
    omega
  val := fun i d q => by
    rcases entry_get q with ⟨a, h1, h2⟩ | ⟨_, h2⟩
    · cases a with
      | val d' =>
        cases h2
        obtain ⟨v, k1, k2⟩ := args_at h h1
        exact ⟨v, start_get k1, k2⟩
      | cel c => cases h2
    · cases h2
  cel := fun i p c q => by
    rcases entry_get q with ⟨a, h1, h2⟩ | ⟨_, h2⟩
    · cases a with
      | val d' => cases h2
      | cel c' =>
        cases h2
        obtain ⟨v, k1, b, rfl, k2, k3⟩ := args_at h h1
        exact ⟨b, start_get k1, k2, k3, by rw [if_pos rfl]; exact (cads_get h).mpr ⟨i, c, k1, h1⟩⟩
    · cases h2
  ap := fun i j p q c c' l z1 z2 z3 z4 => by
    have go : ∀ {m : Nat} {r : Bool} {b : Cell}, (entry N.length as)[m]? = some (.cel r b) → (L2.start N vs)[m]? = some (some (.ref l)) → vs[m]? = some (.ref l) ∧ ∃ b, as[m]? = some (.cel b) := fun {m r b} z y => by
      rcases entry_get z with ⟨a, h1, h2⟩ | ⟨_, h2⟩
      · cases a with
        | val d' => cases h2
        | cel b' =>
          obtain ⟨v, k1, _⟩ := args_at h h1
          rw [start_get k1] at y
          cases y
          exact ⟨k1, _, h1⟩
      · cases h2
    obtain ⟨a1, b1, a2⟩ := go z1 z3
    obtain ⟨a3, b2, a4⟩ := go z2 z4
    exact cads_inj h nd a1 a2 a3 a4
  pin := fun i l m => by
    obtain ⟨j, c, e, h1, h2⟩ := pins_get m
    have e : i = j := by omega
    subst e
    refine ⟨start_get h1, c, ?_⟩
    have hi : i < as.length := (List.getElem?_eq_some_iff.mp h2).1
    unfold entry
    rw [List.getElem?_append_left (by simpa using hi), List.getElem?_map, h2]
    rfl
  err := fun i x q => by
    rcases entry_get q with ⟨a, h1, h2⟩ | ⟨_, h2⟩
    · cases a <;> cases h2
    · cases h2
/-- the objects handed over, behind the body -/
theorem outs_ok {F : Fx} {P : List (Nat × Addr)} {σ : L2.St} {G' H' : Hp} {ρ : E} (e : EnvG A F P σ G' H' ρ) : ∀ {vs : List V} {as : List Ar} {k : Nat} {cs : List Cell}, ArgsOk A G H vs as → (∀ p ∈ pinsOf k vs as, p ∈ P) → outs as (ρ.drop k) = some cs → CelsAt A G' H' (cads vs as) cs
  | _, _, _, _, .nil, _, h => by
    cases h
    exact .nil
  | _, _, k, cs, @ArgsOk.val _ _ _ v d vs as h r, hp, ho => by
    have e1 : cads (v :: vs) (.val d :: as) = cads vs as := by cases v <;> rfl
    have e2 : pinsOf k (v :: vs) (.val d :: as) = pinsOf (k + 1) vs as := by cases v <;> rfl
    rw [e1]
    rw [e2] at hp
    cases q : ρ.drop k with
    | nil =>
      rw [q] at ho
      cases ho
    | cons s t =>
      rw [q] at ho
      have et : t = ρ.drop (k + 1) := by
        rw [← List.drop_drop, q]
        rfl
      subst et
      exact outs_ok e r hp ho
  | _, _, k, cs, @ArgsOk.cel _ _ _ a c vs as h1 h2 r, hp, ho => by
    show CelsAt A G' H' (a :: cads vs as) cs
    have e2 : pinsOf k (.ref a :: vs) (.cel c :: as) = (k, a) :: pinsOf (k + 1) vs as := rfl
    rw [e2] at hp
    obtain ⟨p1, c1, p2⟩ := e.pin k a (hp _ (List.mem_cons_self ..))
    cases q : ρ.drop k with
    | nil =>
      rw [q] at ho
      cases ho
    | cons s t =>
      have et : t = ρ.drop (k + 1) := by
        rw [← List.drop_drop, q]
        rfl
      have es : ρ[k]? = some s := by
        have z : (ρ.drop k)[0]? = some s := by
          rw [q]
          rfl
        rw [List.getElem?_drop] at z
        simpa using z
      rw [p2] at es
      cases es
      rw [q] at ho
      obtain ⟨cs', h3, rfl⟩ := map_some' (show (outs as t).map (c1 :: ·) = some cs from ho)
      subst et
      obtain ⟨l, k1, k2, k3, _⟩ := e.cel k true c1 p2
      rw [p1] at k1
      cases k1
      exact .cons k2 k3 (outs_ok e r (fun p m => hp p (List.mem_cons_of_mem _ m)) h3)
end
/-- from a promise to the body's reading, and back -/
theorem body_tail {A : Amb} {N : List Str} {np : Nat} {m : S} {vs : List V} {H : Hp} {Q : VK} {W : XK} (hnp : np ≤ N.length) (h : spZ A (bodyF np N.length m) vs H Q W) :
    tS A ⟨fun cls d _ H' => W cls d H', none⟩ m { nx := fun _ H' => Q .non H', rt := Q } (L2.start N vs) H := by
  obtain ⟨G, as, r, s, ha, nd, hm, hp⟩ := h
  unfold bodyF at hm
  by_cases hl : as.length = np
  · rw [if_pos hl] at hm
    have e0 := entry_ok (N := N) s ha nd (by omega)
    have beh : ∀ {σ' G' H' ρ'}, EnvG A ⟨H, G, cads vs as, none⟩ (pinsOf 0 vs as) σ' G' H' ρ' → Beh G H (cads vs as) G' H' := fun {σ' G' H' ρ'} e => ⟨e.gg, e.gh, e.gn, e.fr⟩
    have celsAt : ∀ {σ' G' H' ρ' cs}, EnvG A ⟨H, G, cads vs as, none⟩ (pinsOf 0 vs as) σ' G' H' ρ' → outs as ρ' = some cs → CelsAt A G' H' (cads vs as) cs := fun {σ' G' H' ρ' cs} e h => outs_ok (k := 0) e ha (fun p m => m) (by simpa using h)
    cases q : m (entry N.length as) with
    | none =>
      rw [q] at hm
      cases hm
    | some o =>
      rw [q] at hm
      refine ⟨_, _, G, _, o, rfl, e0, q, ?_⟩
      cases o with
      | nx ρ =>
        obtain ⟨cs, h1, rfl⟩ := map_some' hm
        exact fun σ' G' H' e => hp .non G' H' (beh e) (celsAt e h1) .non
      | bk ρ => cases hm
      | ct ρ => cases hm
      | ex x ρ =>
        obtain ⟨cs, h1, rfl⟩ := map_some' hm
        exact fun cls d σ' G' H' e xa => hp cls d G' H' (beh e) (celsAt e h1) xa
      | rt x ρ =>
        simp only at hm
        cases h1 : retOf ρ x with
        | none =>
          rw [h1] at hm
          cases hm
        | some bd =>
          cases h2 : outs as ρ with
          | none =>
            rw [h1, h2] at hm
            cases hm
          | some cs =>
            rw [h1, h2] at hm
            cases hm
            refine fun v σ' G' H' e ro => hp v G' H' (beh e) (celsAt e h2) ?_
            cases x with
            | dat d =>
              cases h1
              exact ro
            | new ds =>
              cases h1
              obtain ⟨l, us, rfl, a1, a2, a3, a4, _⟩ := ro
              exact ⟨l, us, rfl, a1, a2, a3, a4⟩
            | cel i =>
              unfold retOf at h1
              simp only at h1
              cases z : ρ[i]? with
              | none =>
                rw [z] at h1
                cases h1
              | some sl =>
                rw [z] at h1
                cases sl with
                | no => cases h1
                | val d => cases h1
                | err x => cases h1
                | cel p c =>
                  cases p with
                  | true => cases h1
                  | false =>
                    cases c with
                    | lst ds =>
                      cases h1
                      obtain ⟨l, a1, ⟨us, a2, a3⟩, a4, a5⟩ := e.cel i false (.lst ds) z
                      have ro : σ'[i]? = some (some v) := ro
                      rw [ro] at a1
                      cases a1
                      exact ⟨l, us, rfl, a2, a4, a5, a3⟩
                    | _ => cases h1
  · rw [if_neg hl] at hm
    cases hm
theorem bodyF_len {np n : Nat} {m : S} {as : List Ar} {r : FR} (h : bodyF np n m as = some r) : as.length = np := by
  unfold bodyF at h
  by_cases hl : as.length = np
  · exact hl
  · rw [if_neg hl] at h
    cases h

/-! a def of the text, by its body -/
section
variable {P : Program} {w : World} {K : PySem.W.Frag} {mg : Str → Option Value} {base : Heap}
abbrev cxZ (P : Program) (w : World) (K : PySem.W.Frag) (mg : Str → Option Value) (base : Heap) (N : List Str) (qual : Str) (scope : Scope) (f : Addr) (cd : Value) (A : Around) (outer : List Env) (s : Shared) (H : Hp) (W : XK) : Cx :=
  cxOf (L2.CX P w) P w K mg base N qual scope f cd A outer s H W
theorem fz_of {k : Nat} {f : Addr} {name qual : Str} {params : Arguments} {body : List Stmt} {scope : Scope} {dV kV doc pm cdv ct oc : Value} {an od : Option Addr} {osl : Array (Option Value)} {N ps : List Str} {m : S}
    (lk : K.lookup f = some ⟨oc, od, .func (PySem.W.fnOf name qual params body scope dV kV doc pm an cdv ct), osl⟩) (hcd : PySem.W.codeIn K cdv qual = true) (Sc : FnScope N ps scope)
    (hbody : ∀ (A : Around) (outer : List Env) (s : Shared) (H : Hp) (W : XK), A.guards = some [] → Room k (A.deeper (envOfC qual scope s.heap.objs.size f cdv)) →
      DSs (cxZ P w K mg base N qual scope f cdv A outer s H W) ⟨fun cls d _ H' => W cls d H', none⟩ body m) :
    FnZ P w K mg base (k + 1) f (PySem.W.fnOf name qual params body scope dV kV doc pm an cdv ct) ps (bodyF ps.length N.length m) := by
  have hps : ps.length ≤ N.length := by
    have q := congrArg List.length Sc.pre
    rw [List.length_take] at q
    omega
  refine ⟨fun as r h => bodyF_len h, fun A outer s H args us vs Q W hg hr e0 hb rv hsp => ?_⟩
  have hl : vs.length = ps.length := by
    obtain ⟨G, as, r, _, ha, _, hm, _⟩ := hsp
    exact ha.length.trans (bodyF_len hm)
  have inK : K.In s.heap := e0.mod.kin.keeps fun b o e => (e0.bs b o e).1
  have lim : s.heap.NoLimit := e0.mod.nolimit.keeps fun b o e => (e0.bs b o e).1
  have kinds : ∀ y ∈ ps.zip us, scope.names.lookup y.1 = some .local ∨ (scope.names.lookup y.1 = some .cell ∧ ((cellsFrom (s.heap.objs.size + 1) scope.names []).lookup y.1).isSome = true) := by
    rintro ⟨n, v⟩ hy
    refine (Sc.par n (List.of_mem_zip hy).1).imp id fun q => ⟨q, ?_⟩
    exact PySem.W.cellsFrom_some _ _ _ (.inl q)
  refine codeAny_call_function hr.depth (inK _ _ lk) rfl Sc.co Sc.gen rfl (PySem.W.codeRec_of inK hcd) (hb _ _ _ _ ?_)
  refine wpAny_newFunctionEnv_cells Sc.kind kinds fun env he s1 x => ?_
  subst he
  refine ⟨lim.keeps x.toInCall.keep, codeAny_func ?_⟩
  have I := inv_start (CX := L2.CX P w) (mg := mg) (E := W) Sc hr.hd e0 hl rv x
  have hq := body_tail (W := W) hps hsp
  have body' := (hbody A outer s H W hg (hr.deeper _)).run [] s1 (L2.start N vs) H { nx := fun _ H' => Q .non H', rt := Q } I hq
  refine wpAny_mono body' (fun fl s' hs => ?_) fun e s' hs => hs
  cases fl with
  | ret u =>
    obtain ⟨v, σ', H', J, ru, q⟩ := hs
    exact ⟨v, H', J.os, J.bare, J.base, J.hok, ru, q⟩
  | next =>
    obtain ⟨σ', H', J, q⟩ := hs
    exact ⟨V.non, H', J.os, J.bare, J.base, J.hok, rfl, q⟩
  | brk =>
    obtain ⟨_, _, _, z⟩ := hs
    exact z.elim
  | cont =>
    obtain ⟨_, _, _, z⟩ := hs
    exact z.elim
theorem FnZ.of {x qual : Str} {st : Stmt} {f : Addr} {fd : FuncData} {N ps : List Str} {k : Nat} {m : S} (Fu : Fun K x qual st f fd) (Sc : FnScope N ps (defScope st))
    (hbody : ∀ (cdv : Value) (A : Around) (outer : List Env) (s : Shared) (H : Hp) (W : XK), A.guards = some [] → Room k (A.deeper (envOfC qual (defScope st) s.heap.objs.size f cdv)) →
      DSs (cxZ P w K mg base N qual (defScope st) f cdv A outer s H W) ⟨fun cls d _ H' => W cls d H', none⟩ (defBody st) m) : FnZ P w K mg base (k + 1) f fd ps (bodyF ps.length N.length m) := by
  obtain ⟨oc, od, kV, doc, pm, an, cdv, ct, osl, rfl, lk, hcd⟩ := Fu.ex
  exact fz_of lk hcd Sc fun A outer s H W => hbody cdv A outer s H W
end

/-! calls -/
/-- handing over: md says which arguments are handed over to be changed -/
def toArs : List Bool → List Rf → E → Option (List Ar × List (Option Nat) × E)
  | [], [], ρ => some ([], [], ρ)
  | false :: md, x :: xs, ρ => match frz x ρ with
    | some (.ok d ρ1) => match toArs md xs ρ1 with
      | some (as, is, ρ2) => some (.val d :: as, none :: is, ρ2)
      | none => none
    | _ => none
  | true :: md, .cel i :: xs, ρ => match toArs md xs ρ with
    | some (as, is, ρ2) => match ρ2[i]? with
      | some (.cel _ c) => some (.cel c :: as, some i :: is, ρ2)
      | _ => none
    | none => none
  | _, _, _ => none
/-- the objects come back -/
def putBack : List (Option Nat) → List Cell → E → Option E
  | [], [], ρ => some ρ
  | none :: is, cs, ρ => putBack is cs ρ
  | some i :: is, c :: cs, ρ => match ρ[i]? with
    | some (.cel p _) => putBack is cs (ρ.set i (.cel p c))
    | _ => none
  | _, _, _ => none
def rfOf : Bool → D → Option Rf
  | true, .lst ds => some (.new ds)
  | true, _ => none
  | false, d => some (.dat d)
def eFnL (f : Fn) (md : List Bool) (xs : List Rf) : M Rf := fun ρ => match toArs md xs ρ with
  | none => none
  | some (as, is, ρ1) => if (is.filterMap id).Nodup then (match f as with
    | some (.ret n d cs) => match putBack is cs ρ1, rfOf n d with
      | some ρ2, some x => some (.ok x ρ2)
      | _, _ => none
    | some (.exc x cs) => match putBack is cs ρ1 with
      | some ρ2 => some (.ex x ρ2)
      | none => none
    | none => none) else none
def eFn (f : Fn) (md : List Bool) (ms : M (List Rf)) : M Rf := bindM ms (eFnL f md)
section
variable {A : Amb} {F : Fx} {P : List (Nat × Addr)} {σ : L2.St} {H : Hp}
/-- what toArs tells -/
structure Handed (A : Amb) (F : Fx) (P : List (Nat × Addr)) (σ : L2.St) (G H : Hp) (vs : List V) (as : List Ar) (is : List (Option Nat)) (ρ : E) : Prop where
  env : EnvG A F P σ G H ρ
  args : ArgsOk A G H vs as
  ix : ∀ (j : Nat) i, is[j]? = some (some i) → ∃ a p c, vs[j]? = some (.ref a) ∧ as[j]? = some (.cel c) ∧ σ[i]? = some (some (.ref a)) ∧ ρ[i]? = some (.cel p c)
  lenI : is.length = as.length
  noI : ∀ (j : Nat), is[j]? = some none → ∃ d, as[j]? = some (.val d)
theorem frz_keep {x : Rf} {ρ ρ' : E} {d : D} (h : frz x ρ = some (.ok d ρ')) {j : Nat} {p : Bool} {c : Cell} (hj : ρ'[j]? = some (.cel p c)) : ρ[j]? = some (.cel p c) := by
  cases x with
  | dat d' =>
    cases h
    exact hj
  | new ds =>
    cases h
    exact hj
  | cel i =>
    unfold frz at h
    simp only at h
    cases q : ρ[i]? with
    | none =>
      rw [q] at h
      cases h
    | some s =>
      rw [q] at h
      cases s with
      | no => cases h
      | err x => cases h
      | val d =>
        cases h
        exact hj
      | cel p' c' =>
        cases p' with
        | true => cases h
        | false =>
          cases c' with
          | lst ds =>
            cases h
            by_cases hi : i = j
            · subst hi
              rw [List.getElem?_set] at hj
              split at hj
              · split at hj
                · cases hj
                · cases hj
              · rename_i z
                exact absurd rfl z
            · rw [List.getElem?_set_ne hi] at hj
              exact hj
          | _ => cases h
theorem toArs_keep : ∀ {md : List Bool} {xs : List Rf} {ρ ρ' : E} {as : List Ar} {is : List (Option Nat)}, toArs md xs ρ = some (as, is, ρ') → ∀ {j : Nat} {p : Bool} {c : Cell}, ρ'[j]? = some (.cel p c) → ρ[j]? = some (.cel p c)
  | [], [], ρ, ρ', as, is, h, j, p, c, hj => by
    cases h
    exact hj
  | [], x :: xs, ρ, ρ', as, is, h, _, _, _, _ => by cases h
  | false :: md, [], ρ, ρ', as, is, h, _, _, _, _ => by cases h
  | true :: md, [], ρ, ρ', as, is, h, _, _, _, _ => by cases h
  | false :: md, x :: xs, ρ, ρ', as, is, h, j, p, c, hj => by
    unfold toArs at h
    cases q : frz x ρ with
    | none =>
      rw [q] at h
      cases h
    | some r =>
      cases r with
      | ex x ρ1 =>
        rw [q] at h
        cases h
      | ok d ρ1 =>
        rw [q] at h
        simp only at h
        cases q2 : toArs md xs ρ1 with
        | none =>
          rw [q2] at h
          cases h
        | some t =>
          obtain ⟨as1, is1, ρ2⟩ := t
          rw [q2] at h
          cases h
          exact frz_keep q (toArs_keep q2 hj)
  | true :: md, .cel i :: xs, ρ, ρ', as, is, h, j, p, c, hj => by
    unfold toArs at h
    cases q2 : toArs md xs ρ with
    | none =>
      rw [q2] at h
      cases h
    | some t =>
      obtain ⟨as1, is1, ρ2⟩ := t
      rw [q2] at h
      simp only at h
      have e : ρ' = ρ2 := by
        split at h
        · cases h
          rfl
        · cases h
      subst e
      exact toArs_keep q2 hj
  | true :: md, .dat d :: xs, ρ, ρ', as, is, h, _, _, _, _ => by cases h
  | true :: md, .new d :: xs, ρ, ρ', as, is, h, _, _, _, _ => by cases h
theorem toArs_ok : ∀ {md : List Bool} {xs : List Rf} {vs : List V} {G : Hp} {ρ ρ' : E} {as : List Ar} {is : List (Option Nat)}, EnvG A F P σ G H ρ → SOks A σ G vs xs → toArs md xs ρ = some (as, is, ρ') →
    ∃ G', Same G G' ∧ Handed A F P σ G' H vs as is ρ'
  | [], [], vs, G, ρ, ρ', as, is, e, so, h => by
    cases h
    cases so
    exact ⟨G, Same.refl G, e, .nil, fun j i z => (by simp at z), rfl, fun j z => (by simp at z)⟩
  | [], x :: xs, vs, G, ρ, ρ', as, is, e, so, h => by cases h
  | false :: md, [], vs, G, ρ, ρ', as, is, e, so, h => by cases h
  | true :: md, [], vs, G, ρ, ρ', as, is, e, so, h => by cases h
  | false :: md, x :: xs, vs, G, ρ, ρ', as, is, e, so, h => by
    cases so with
    | @cons v _ vs _ so1 so2 =>
      unfold toArs at h
      cases q : frz x ρ with
      | none =>
        rw [q] at h
        cases h
      | some r =>
        obtain ⟨d, ρ1, G1, rfl, s1, e1, im⟩ := frz_ok e so1 q
        rw [q] at h
        simp only at h
        cases q2 : toArs md xs ρ1 with
        | none =>
          rw [q2] at h
          cases h
        | some t =>
          obtain ⟨as1, is1, ρ2⟩ := t
          rw [q2] at h
          cases h
          obtain ⟨G2, s2, hd⟩ := toArs_ok e1 (so2.mono s1) q2
          refine ⟨G2, s1.trans s2, hd.env, .val (im.mono s2) hd.args, fun j i z => ?_, congrArg Nat.succ hd.lenI, fun j z => ?_⟩
          · cases j with
            | zero => cases z
            | succ j =>
              obtain ⟨a, p, c, h1, h2, h3⟩ := hd.ix j i (by simpa using z)
              exact ⟨a, p, c, by simpa using h1, by simpa using h2, h3⟩
          · cases j with
            | zero => exact ⟨d, rfl⟩
            | succ j =>
              obtain ⟨d, h1⟩ := hd.noI j (by simpa using z)
              exact ⟨d, by simpa using h1⟩
  | true :: md, .cel i :: xs, vs, G, ρ, ρ', as, is, e, so, h => by
    cases so with
    | @cons v _ vs _ so1 so2 =>
      unfold toArs at h
      cases q2 : toArs md xs ρ with
      | none =>
        rw [q2] at h
        cases h
      | some t =>
        obtain ⟨as1, is1, ρ2⟩ := t
        rw [q2] at h
        simp only at h
        obtain ⟨G2, s2, hd⟩ := toArs_ok e so2 q2
        have so1 : σ[i]? = some (some v) := so1
        cases z : ρ2[i]? with
        | none =>
          rw [z] at h
          cases h
        | some s =>
          rw [z] at h
          cases s with
          | no => cases h
          | val d => cases h
          | err x => cases h
          | cel p c =>
            cases h
            obtain ⟨l, h1, h2, h3, _⟩ := hd.env.cel i p c z
            rw [so1] at h1
            cases h1
            refine ⟨G2, s2, hd.env, .cel h2 h3 hd.args, fun j k y => ?_, congrArg Nat.succ hd.lenI, fun j y => ?_⟩
            · cases j with
              | zero =>
                cases y
                exact ⟨l, p, c, rfl, rfl, so1, z⟩
              | succ j =>
                obtain ⟨a, p, c, h1, h2, h3⟩ := hd.ix j k (by simpa using y)
                exact ⟨a, p, c, by simpa using h1, by simpa using h2, h3⟩
            · cases j with
              | zero => cases y
              | succ j =>
                obtain ⟨d, h1⟩ := hd.noI j (by simpa using y)
                exact ⟨d, by simpa using h1⟩
  | true :: md, .dat d :: xs, vs, G, ρ, ρ', as, is, e, so, h => by cases h
  | true :: md, .new d :: xs, vs, G, ρ, ρ', as, is, e, so, h => by cases h
theorem Handed.tail {G : Hp} {v : V} {a : Ar} {o : Option Nat} {vs : List V} {as : List Ar} {is : List (Option Nat)} {ρ : E} (h : Handed A F P σ G H (v :: vs) (a :: as) (o :: is) ρ) : Handed A F P σ G H vs as is ρ := by
  obtain ⟨e, ar, ix, l, n⟩ := h
  refine ⟨e, ?_, fun j i z => ?_, Nat.succ.inj l, fun j z => ?_⟩
  · cases ar with
    | val _ r => exact r
    | cel _ _ r => exact r
  · obtain ⟨a, p, c, h1, h2, h3⟩ := ix (j + 1) i (by simpa using z)
    exact ⟨a, p, c, by simpa using h1, by simpa using h2, h3⟩
  · obtain ⟨d, h1⟩ := n (j + 1) (by simpa using z)
    exact ⟨d, by simpa using h1⟩
/-- the addresses handed over, by slots -/
theorem Handed.cadsH {G : Hp} {ρ : E} : ∀ {vs : List V} {as : List Ar} {is : List (Option Nat)}, Handed A F P σ G H vs as is ρ → ∀ a, a ∈ Z.cads vs as ↔ ∃ i, some i ∈ is ∧ σ[i]? = some (some (.ref a))
  | [], as, is, h, a => by
    have ha := h.args
    cases ha
    have hl := h.lenI
    have e : is = [] := List.length_eq_zero_iff.mp hl
    subst e
    constructor
    · intro z
      cases z
    · rintro ⟨i, z, _⟩
      cases z
  | v :: vs, as, is, h, a => by
    have ha := h.args
    have hl := h.lenI
    cases ha with
    | @val _ d _ as h1 r =>
      cases is with
      | nil => simp at hl
      | cons o is =>
        have ih := Handed.cadsH h.tail a
        have e1 : cads (v :: vs) (.val d :: as) = cads vs as := by cases v <;> rfl
        cases o with
        | some i =>
          obtain ⟨b, p, c, _, k2, _⟩ := h.ix 0 i rfl
          cases k2
        | none =>
          show a ∈ Z.cads (v :: vs) (.val d :: as) ↔ _
          rw [show Z.cads (v :: vs) (.val d :: as) = Z.cads vs as from e1, ih]
          constructor
          · rintro ⟨i, z, y⟩
            exact ⟨i, List.mem_cons_of_mem _ z, y⟩
          · rintro ⟨i, z, y⟩
            rcases List.mem_cons.mp z with z | z
            · cases z
            · exact ⟨i, z, y⟩
    | @cel b c _ as h1 h2 r =>
      cases is with
      | nil => simp at hl
      | cons o is =>
        have ih := Handed.cadsH h.tail a
        cases o with
        | none =>
          obtain ⟨d, k⟩ := h.noI 0 rfl
          cases k
        | some i =>
          obtain ⟨b', p, c', k1, k2, k3, _⟩ := h.ix 0 i rfl
          cases k1
          show a ∈ b :: Z.cads vs as ↔ _
          rw [List.mem_cons, ih]
          constructor
          · rintro (rfl | ⟨j, z, y⟩)
            · exact ⟨i, List.mem_cons_self .., k3⟩
            · exact ⟨j, List.mem_cons_of_mem _ z, y⟩
          · rintro ⟨j, z, y⟩
            rcases List.mem_cons.mp z with z | z
            · cases z
              rw [k3] at y
              cases y
              exact .inl rfl
            · exact .inr ⟨j, z, y⟩
theorem Handed.nodup {G : Hp} {ρ : E} : ∀ {vs : List V} {as : List Ar} {is : List (Option Nat)}, Handed A F P σ G H vs as is ρ → (is.filterMap id).Nodup → (Z.cads vs as).Nodup
  | [], as, is, h, _ => by
    have ha := h.args
    cases ha
    exact List.nodup_nil
  | v :: vs, as, is, h, nd => by
    have ha := h.args
    have hl := h.lenI
    cases ha with
    | @val _ d _ as h1 r =>
      cases is with
      | nil => simp at hl
      | cons o is =>
        have e1 : Z.cads (v :: vs) (.val d :: as) = Z.cads vs as := by cases v <;> rfl
        rw [e1]
        refine Handed.nodup h.tail ?_
        cases o with
        | none => exact nd
        | some i => exact (List.nodup_cons.mp nd).2
    | @cel b c _ as h1 h2 r =>
      cases is with
      | nil => simp at hl
      | cons o is =>
        cases o with
        | none =>
          obtain ⟨d, k⟩ := h.noI 0 rfl
          cases k
        | some i =>
          have nd : (i :: is.filterMap id).Nodup := nd
          obtain ⟨n1, n2⟩ := List.nodup_cons.mp nd
          show (b :: Z.cads vs as).Nodup
          refine List.nodup_cons.mpr ⟨fun z => ?_, Handed.nodup h.tail n2⟩
          obtain ⟨j, y1, y2⟩ := (h.tail.cadsH b).mp z
          obtain ⟨b', p, c', k1, _, k3, k4⟩ := h.ix 0 i rfl
          cases k1
          obtain ⟨m, hm⟩ := List.getElem?_of_mem y1
          obtain ⟨b2, p2, c2, _, _, k5, k6⟩ := h.tail.ix m j hm
          rw [y2] at k5
          cases k5
          have ij := h.env.ap i j p p2 c' c2 b k4 k6 k3 y2
          subst ij
          exact n1 (List.mem_filterMap.mpr ⟨some i, y1, rfl⟩)
/-- behind the call: the slots -/
theorem putBack_ok {G G' H' : Hp} : ∀ {vs : List V} {as : List Ar} {is : List (Option Nat)} {cs : List Cell} {ρ ρ' : E}, ArgsOk A G H vs as → is.length = as.length →
    (∀ (j : Nat) i, is[j]? = some (some i) → ∃ a, vs[j]? = some (.ref a) ∧ (∃ c, as[j]? = some (.cel c)) ∧ σ[i]? = some (some (.ref a))) → (∀ (j : Nat), is[j]? = some none → ∃ d, as[j]? = some (.val d)) → CelsAt A G' H' (Z.cads vs as) cs → putBack is cs ρ = some ρ' →
    ρ'.length = ρ.length ∧ ∀ (k : Nat) s, ρ'[k]? = some s → (ρ[k]? = some s ∧ some k ∉ is) ∨ ∃ p c c' a, s = .cel p c' ∧ ρ[k]? = some (.cel p c) ∧ σ[k]? = some (some (.ref a)) ∧ CellAt A G' H' a c' ∧ G' a = none
  | _, _, is, cs, ρ, ρ', .nil, hl, ix, no, ca, h => by
    have z : is = [] := List.length_eq_zero_iff.mp hl
    subst z
    cases ca
    cases h
    exact ⟨rfl, fun k s q => .inl ⟨q, by simp⟩⟩
  | _, _, is, cs, ρ, ρ', @ArgsOk.val _ _ _ v d vs as h1 r, hl, ix, no, ca, h => by
    cases is with
    | nil => simp at hl
    | cons o is =>
      have e1 : Z.cads (v :: vs) (.val d :: as) = Z.cads vs as := by cases v <;> rfl
      rw [e1] at ca
      cases o with
      | some i =>
        obtain ⟨a, _, ⟨c, k⟩, _⟩ := ix 0 i rfl
        cases k
      | none =>
        obtain ⟨l1, l2⟩ := putBack_ok (ρ := ρ) (ρ' := ρ') r (Nat.succ.inj hl) (fun j i z => by
          obtain ⟨a, k1, ⟨c, k2⟩, k3⟩ := ix (j + 1) i (by simpa using z)
          exact ⟨a, by simpa using k1, ⟨c, by simpa using k2⟩, k3⟩) (fun j z => by
          obtain ⟨d, k⟩ := no (j + 1) (by simpa using z)
          exact ⟨d, by simpa using k⟩) ca h
        refine ⟨l1, fun k s q => ?_⟩
        rcases l2 k s q with ⟨a, b⟩ | b
        · exact .inl ⟨a, fun z => by
            rcases List.mem_cons.mp z with z | z
            · cases z
            · exact b z⟩
        · exact .inr b
  | _, _, is, cs, ρ, ρ', @ArgsOk.cel _ _ _ b c vs as h1 h2 r, hl, ix, no, ca, h => by
    cases is with
    | nil => simp at hl
    | cons o is =>
      have ca1 : CelsAt A G' H' (b :: Z.cads vs as) cs := ca
      clear ca
      cases ca1 with
      | @cons _ c' _ cs c1 c2 ca2 =>
        cases o with
        | none =>
          obtain ⟨d, k⟩ := no 0 rfl
          cases k
        | some i =>
          obtain ⟨a, k1, _, k3⟩ := ix 0 i rfl
          cases k1
          unfold putBack at h
          cases q : ρ[i]? with
          | none =>
            rw [q] at h
            cases h
          | some s =>
            rw [q] at h
            cases s with
            | no => cases h
            | val d => cases h
            | err x => cases h
            | cel p c0 =>
              simp only at h
              have hlt : i < ρ.length := (List.getElem?_eq_some_iff.mp q).1
              obtain ⟨l1, l2⟩ := putBack_ok (ρ := ρ.set i (.cel p c')) (ρ' := ρ') r (Nat.succ.inj hl) (fun j i z => by
                obtain ⟨a, k1, ⟨c, k2⟩, k3⟩ := ix (j + 1) i (by simpa using z)
                exact ⟨a, by simpa using k1, ⟨c, by simpa using k2⟩, k3⟩) (fun j z => by
                obtain ⟨d, k⟩ := no (j + 1) (by simpa using z)
                exact ⟨d, by simpa using k⟩) ca2 h
              refine ⟨by rw [l1, List.length_set], fun k s y => ?_⟩
              rcases l2 k s y with ⟨y1, y2⟩ | ⟨p2, d2, d3, a2, y1, y2, y3, y4, y5⟩
              · by_cases hk : i = k
                · subst hk
                  rw [List.getElem?_set_self hlt] at y1
                  cases y1
                  exact .inr ⟨p, c0, c', b, rfl, q, k3, c1, c2⟩
                · rw [List.getElem?_set_ne hk] at y1
                  refine .inl ⟨y1, fun z => ?_⟩
                  rcases List.mem_cons.mp z with z | z
                  · cases z
                    exact hk rfl
                  · exact y2 z
              · by_cases hk : i = k
                · subst hk
                  rw [List.getElem?_set_self hlt] at y2
                  cases y2
                  exact .inr ⟨p, c0, d3, a2, y1, q, y3, y4, y5⟩
                · rw [List.getElem?_set_ne hk] at y2
                  exact .inr ⟨p2, d2, d3, a2, y1, y2, y3, y4, y5⟩
/-- behind the call: the state -/
theorem back_ok {G G' H' : Hp} {vs : List V} {as : List Ar} {is : List (Option Nat)} {cs : List Cell} {ρ ρ' : E} (h : Handed A F P σ G H vs as is ρ) (b : Beh G H (Z.cads vs as) G' H') (ca : CelsAt A G' H' (Z.cads vs as) cs) (hp : putBack is cs ρ = some ρ') : EnvG A F P σ G' H' ρ' ∧ ∀ (k : Nat) p c', ρ'[k]? = some (.cel p c') → ∃ c, ρ[k]? = some (.cel p c) := by
  obtain ⟨l1, l2⟩ := putBack_ok h.args h.lenI (fun j i z => by
    obtain ⟨a, p, c, k1, k2, k3, _⟩ := h.ix j i z
    exact ⟨a, k1, ⟨c, k2⟩, k3⟩) h.noI ca hp
  have e := h.env
  have mem := h.cadsH
  have old : ∀ {k : Nat} {p : Bool} {c' : Cell}, ρ'[k]? = some (.cel p c') → ∃ c, ρ[k]? = some (.cel p c) := fun {k p c'} z => by
    rcases l2 k _ z with ⟨y, _⟩ | ⟨p2, c, c2, a, y1, y2, _⟩
    · exact ⟨c', y⟩
    · cases y1
      exact ⟨c, y2⟩
  have alive : ∀ {l : Addr}, l ∈ Z.cads vs as → H' l ≠ none := fun {l} hl => by
    have go : ∀ {l : List Addr} {cs : List Cell}, CelsAt A G' H' l cs → ∀ x ∈ l, H' x ≠ none := by
      intro l cs c
      induction c with
      | nil =>
        intro x hx
        cases hx
      | cons c1 c2 r ih =>
        intro x hx
        rcases List.mem_cons.mp hx with rfl | hx
        · obtain ⟨o, ho⟩ := c1.some
          rw [ho]
          simp
        · exact ih x hx
    exact go ca l hl
  refine ⟨?_, fun k p c' z => old z⟩
  refine ⟨fun a o n q => b.fr a o (fun z => ?_) (e.fr a o n q), e.gg.trans b.gg, b.gh, fun a o q => ?_, fun a hc => ?_, l1.trans e.len, fun k d q => ?_, fun k p c' q => ?_, fun i j p q c c' l z1 z2 z3 z4 => ?_, fun i l m => ?_, fun k x q => ?_⟩
  · obtain ⟨i, y1, y2⟩ := (mem a).mp z
    obtain ⟨m, hm⟩ := List.getElem?_of_mem y1
    obtain ⟨b2, p2, c2, _, _, k5, k6⟩ := h.ix m i hm
    rw [y2] at k5
    cases k5
    obtain ⟨l, g1, _, _, g4⟩ := e.cel i p2 c2 k6
    rw [y2] at g1
    cases g1
    cases p2 with
    | true => exact n g4
    | false =>
      rw [show F.H a = none from g4] at q
      cases q
  · rcases b.gn a o q with z | z
    · exact e.gn a o z
    · exact .inr (e.free z)
  · by_cases z : a ∈ Z.cads vs as
    · exact alive z
    · cases y : H a with
      | none => exact absurd y (e.ca a hc)
      | some o =>
        rw [b.fr a o z y]
        simp
  · rcases l2 k _ q with ⟨y, _⟩ | ⟨p2, c, c2, a, y1, _⟩
    · obtain ⟨v, h1, h2⟩ := e.val k d y
      exact ⟨v, h1, h2.mono b.gg⟩
    · cases y1
  · rcases l2 k _ q with ⟨y, yn⟩ | ⟨p2, c, c2, a, y1, y2, y3, y4, y5⟩
    · obtain ⟨l, h1, h2, h3, h4⟩ := e.cel k p c' y
      obtain ⟨o, ho⟩ := h2.some
      have nl : l ∉ Z.cads vs as := fun z => by
        obtain ⟨i, z1, z2⟩ := (mem l).mp z
        obtain ⟨m, hm⟩ := List.getElem?_of_mem z1
        obtain ⟨b2, p2, c2, _, _, k5, k6⟩ := h.ix m i hm
        have ik := e.ap i k p2 p c2 c' l k6 y z2 h1
        subst ik
        exact yn z1
      refine ⟨l, h1, h2.mono b.gg ((b.fr l o nl ho).trans ho.symm), ?_, h4⟩
      cases w : G' l with
      | none => rfl
      | some u =>
        rcases b.gn l u w with x | x
        · rw [h3] at x
          cases x
        · rw [ho] at x
          cases x
    · cases y1
      obtain ⟨l, g1, _, _, g4⟩ := e.cel k p c y2
      rw [y3] at g1
      cases g1
      exact ⟨a, y3, y4, y5, g4⟩
  · obtain ⟨c1, w1⟩ := old z1
    obtain ⟨c2, w2⟩ := old z2
    exact e.ap i j p q c1 c2 l w1 w2 z3 z4
  · obtain ⟨y1, c, y2⟩ := e.pin i l m
    refine ⟨y1, ?_⟩
    have hi : i < ρ'.length := l1 ▸ (List.getElem?_eq_some_iff.mp y2).1
    have q : ρ'[i]? = some ρ'[i] := by simp [hi]
    rcases l2 i _ q with ⟨y, _⟩ | ⟨p2, c0, c2, a, y3, y4, _⟩
    · rw [y2] at y
      exact ⟨c, by rw [q, ← Option.some.inj y]⟩
    · rw [y2] at y4
      cases y4
      exact ⟨c2, by rw [q, y3]⟩
  · rcases l2 k _ q with ⟨y, _⟩ | ⟨p2, c, c2, a, y1, _⟩
    · obtain ⟨a, cls, d, h1, h2, h3⟩ := e.err k x y
      exact ⟨a, cls, d, h1, h2, h3.mono b.gg⟩
    · cases y1
end
end Z

set_option Elab.async false
set_option linter.all false
set_option maxRecDepth 100000
set_option maxHeartbeats 4000000
/-! ZE: the call of a def, keywords, comprehensions. -/
namespace Z
open PySem PySem.Spec PyProof.Rows L2

theorem fnL_tail {A : Amb} {Y : Yc} {F : Fx} {P : List (Nat × Addr)} {σ : L2.St} {G H : Hp} {ρ : E} {f : Fn} {md : List Bool} {xs : List Rf} {vs : List V} {r : R Rf} {Q : VK} (e : EnvG A F P σ G H ρ) (so : SOks A σ G vs xs) (hm : eFnL f md xs ρ = some r) (hp : Post A Y (relE A) F P σ Q G r) :
    spZ A f vs H Q (fun cls d H' => Y.W cls d σ H') := by
  unfold eFnL at hm
  cases q : toArs md xs ρ with
  | none =>
    rw [q] at hm
    cases hm
  | some t =>
    obtain ⟨as, is, ρ1⟩ := t
    rw [q] at hm
    simp only at hm
    obtain ⟨G2, s2, hd⟩ := toArs_ok e so q
    by_cases nd : (is.filterMap id).Nodup
    · rw [if_pos nd] at hm
      cases hf : f as with
      | none =>
        rw [hf] at hm
        cases hm
      | some r' =>
        rw [hf] at hm
        refine ⟨G2, as, r', hd.env.gh, hd.args, hd.nodup nd, hf, ?_⟩
        cases r' with
        | exc x cs =>
          simp only at hm
          cases hb : putBack is cs ρ1 with
          | none =>
            rw [hb] at hm
            cases hm
          | some ρ2 =>
            rw [hb] at hm
            cases hm
            exact fun cls d G' H' b ca xa => hp cls d G' H' (s2.trans b.gg) (back_ok hd b ca hb).1 xa
        | ret n d cs =>
          simp only at hm
          cases hb : putBack is cs ρ1 with
          | none =>
            rw [hb] at hm
            cases hm
          | some ρ2 =>
            cases hx : rfOf n d with
            | none =>
              rw [hb, hx] at hm
              cases hm
            | some x =>
              rw [hb, hx] at hm
              cases hm
              refine fun v G' H' b ca ro => hp v G' H' (s2.trans b.gg) (back_ok hd b ca hb).1 ?_
              cases n with
              | false =>
                cases hx
                exact ro
              | true =>
                cases d with
                | lst ds =>
                  cases hx
                  obtain ⟨l, us, rfl, h1, h2, h3, h4⟩ := ro
                  refine ⟨l, us, rfl, h1, h2, hd.env.free h3, h4, fun j p c z y => ?_⟩
                  obtain ⟨c0, w⟩ := (back_ok hd b ca hb).2 j p c z
                  obtain ⟨l', k1, k2, _⟩ := hd.env.cel j p c0 w
                  rw [y] at k1
                  cases k1
                  obtain ⟨o, ho⟩ := k2.some
                  rw [h3] at ho
                  cases ho
                | _ => cases hx
    · rw [if_neg nd] at hm
      cases hm

section
variable {X : Cx} {Y : Yc} {k : Nat} {f : Addr} {fd : FuncData} {ps : List Str} {fn : Fn} {x : Str} {p pos : Pos} {e : Expr} {es : List Expr} {ms mk : M (List Rf)}
theorem run_z {pins : List (Addr × Obj)} {σ : L2.St} {H : Hp} {s : Shared} {Q : VK} {us : List Value} {kw : List (Str × Value)} {all : List Value} {vs : List V} (F : FnZ X.prog X.w X.K X.mg X.base k f fd ps fn) (hg : X.A.guards = some []) (hr : Room k X.A) (tk : Takes X Y.W)
    (I : Inv X pins σ H s) (hb : BindsTo s fd ⟨us, kw⟩ (ps.zip all)) (r : Vals vs all) (h : spZ (amb X) fn vs H Q (fun cls d H' => Y.W cls d σ H')) : wpAny (model X.prog X.w) X.A (call (.ref f) us kw) (EP X pins σ Q) X.xe s := by
  refine wpAny_call (codeAny_mono (F.run X.A X.stack s H ⟨us, kw⟩ all vs Q _ hg hr I.env0 hb r h) fun res s' hq => ?_)
  cases res with
  | error ev => exact passAt tk σ pins H s ev s' I hq
  | ok fl =>
    cases fl with
    | ret u => exact I.after hq
    | next => exact False.elim hq
    | brk => exact False.elim hq
    | cont => exact False.elim hq
/-- f(e, ..) -/
theorem de_call {md : List Bool} (F : FnZ X.prog X.w X.K X.mg X.base k f fd ps fn) (hm : X.mg x = some (.ref f)) (hk : PySem.W.keepIn X.K (.ref f) = true) (hb : Binds X.K fd ps []) (hg : X.A.guards = some []) (hr : Room k X.A) (tk : Takes X Y.W) (ha : DA X Y (e :: es) ms)
    (hgl : Gl X x := by rfl) (hdb : (x == ("__debug__" : Str)) = false := by decide) (he : starEach (e :: es) X.env = (false, eval e X.env) :: starEach es X.env := by rfl) (hpl : (backTo pos (starEach es X.env)).any (·.1) = false := by rfl) :
    DE X Y (.Call (.Name x p) (e :: es) [] pos) (eFn fn md ms) := by
  refine ⟨fun pins s σ H Q I ⟨F0, P, G, ρ, r, er, e0, hm0, hp⟩ => ?_⟩
  refine wpAny_Call_Name_kw (ld_glob I hgl hm ?_ hdb)
  have q := tG_bind (Re := relA (amb X)) (T := fun vs H1 => spZ (amb X) fn vs H1 Q (fun cls d H' => Y.W cls d σ H')) er e0 hm0 hp fun G1 H1 ρ1 xs vs s1 e1 so hk => fnL_tail e1 so hk (hp.mono s1)
  refine PySem.W.callWith_K (h₀ := X.base) I.ok.mod.kin hk (thn (ha.run pos pins s σ H _ I q) fun us s1 ⟨vs, H1, I1, rv, h⟩ => ⟨I1.kIn, ?_⟩) he hpl
  have hlen : (us ++ []).length = ps.length := by
    obtain ⟨G, as, r, _, ha, _, hm, _⟩ := h
    rw [List.append_nil, ← rv.length, ha.length]
    exact F.len _ _ hm
  have hb' := hb s1 us I1.kIn hlen
  rw [List.append_nil] at hb'
  exact run_z F hg hr tk I1 hb' rv h
/-- f() -/
theorem de_call0 (F : FnZ X.prog X.w X.K X.mg X.base k f fd ps fn) (hm : X.mg x = some (.ref f)) (hk : PySem.W.keepIn X.K (.ref f) = true) (hb : Binds X.K fd ps []) (hg : X.A.guards = some []) (hr : Room k X.A) (tk : Takes X Y.W)
    (hgl : Gl X x := by rfl) (hdb : (x == ("__debug__" : Str)) = false := by decide) : DE X Y (.Call (.Name x p) [] [] pos) (eFn fn [] aNil) := by
  refine ⟨fun pins s σ H Q I ⟨F0, P, G, ρ, r, er, e0, hm0, hp⟩ => ?_⟩
  refine wpAny_Call_Name_kw (ld_glob I hgl hm ?_ hdb)
  have hm1 : eFnL fn [] [] ρ = some r := hm0
  have h := fnL_tail e0 .nil hm1 hp
  have hlen : ([] ++ [] : List Value).length = ps.length := by
    obtain ⟨G, as, r, _, ha, _, hm, _⟩ := h
    have q := F.len _ _ hm
    have q2 := ha.length
    rw [← q, ← q2]
    rfl
  exact PySem.W.callWith_K0 I.kIn hk (run_z F hg hr tk I (hb s [] I.kIn hlen) .nil h)

/-! keywords -/
def pick {α : Type} (perm : List Nat) (l : List α) : List α := perm.filterMap fun i => l[i]?
/-- how a call with n positional values and the keywords ks binds; ds: what the defaults give -/
def KBz (K : PySem.W.Frag) (fd : FuncData) (ps : List Str) (n : Nat) (ks : List Str) (perm : List Nat) (dvs : List V) : Prop :=
  ∃ ds, Vals dvs ds ∧ ∀ (s : Shared) (us ws : List Value), K.In s.heap → us.length = n → ws.length = ks.length → BindsTo s fd ⟨us, ks.zip ws⟩ (ps.zip (pick perm (us ++ ws ++ ds)))
def eFnK (f : Fn) (md : List Bool) (n m : Nat) (perm : List Nat) (dds : List D) (ms mk : M (List Rf)) : M Rf := bindM ms fun xs => bindM mk fun zs => if xs.length = n ∧ zs.length = m then eFnL f md (pick perm (xs ++ zs ++ dds.map .dat)) else failM
theorem vals_pick {perm : List Nat} {vs : List V} {us : List Value} (h : Vals vs us) : Vals (pick perm vs) (pick perm us) := by
  induction perm with
  | nil => exact .nil
  | cons i perm ih =>
    unfold pick at ih ⊢
    rw [List.filterMap_cons, List.filterMap_cons]
    cases q : vs[i]? with
    | none =>
      rw [h.none_of q]
      exact ih
    | some v =>
      obtain ⟨u, h1, h2⟩ := h.get q
      rw [h1]
      exact .cons h2 ih
theorem SOks.get {A : Amb} {σ : L2.St} {G : Hp} : ∀ {vs : List V} {xs : List Rf}, SOks A σ G vs xs → vs.length = xs.length ∧ ∀ {i : Nat} {v : V}, vs[i]? = some v → ∃ x, xs[i]? = some x ∧ SOk A σ G v x
  | _, _, .nil => ⟨rfl, fun h => by simp at h⟩
  | _, _, .cons h r => ⟨congrArg Nat.succ (SOks.get r).1, fun {i v} q => by
    cases i with
    | zero =>
      cases q
      exact ⟨_, rfl, h⟩
    | succ i =>
      obtain ⟨x, h1, h2⟩ := (SOks.get r).2 (i := i) (by simpa using q)
      exact ⟨x, by simpa using h1, h2⟩⟩
theorem SOks.append {A : Amb} {σ : L2.St} {G : Hp} : ∀ {vs ws : List V} {xs ys : List Rf}, SOks A σ G vs xs → SOks A σ G ws ys → SOks A σ G (vs ++ ws) (xs ++ ys)
  | _, _, _, _, .nil, s => s
  | _, _, _, _, .cons h r, s => .cons h (SOks.append r s)
theorem soks_pick {A : Amb} {σ : L2.St} {G : Hp} {perm : List Nat} {vs : List V} {xs : List Rf} (h : SOks A σ G vs xs) : SOks A σ G (pick perm vs) (pick perm xs) := by
  induction perm with
  | nil => exact .nil
  | cons i perm ih =>
    unfold pick at ih ⊢
    rw [List.filterMap_cons, List.filterMap_cons]
    cases q : vs[i]? with
    | none =>
      have q2 : xs[i]? = none := by
        rw [List.getElem?_eq_none_iff] at q ⊢
        rw [← h.get.1]
        exact q
      rw [q2]
      exact ih
    | some v =>
      obtain ⟨u, h1, h2⟩ := h.get.2 q
      rw [h1]
      exact .cons h2 ih
def DK (X : Cx) (Y : Yc) (kws : List Keyword) (m : M (List Rf)) : Prop := PK X kws (tG (amb X) Y (relA (amb X)) m)
theorem PK.weak {X : Cx} {e : List Keyword} {t t' : TA} (h : PK X e t) (w : ∀ σ H Q, t' σ H Q → t σ H Q) : PK X e t' := ⟨fun pos pins s σ H Q I q => h.run pos pins s σ H Q I (w _ _ _ q)⟩
theorem dk_nil : DK X Y [] aNil := PK.weak pk_nil fun σ H Q ⟨F, P, G, ρ, r, er, e, hm, hp⟩ => by
  cases hm
  exact hp [] G H (Same.refl G) e .nil
theorem dk_cons {nm : Option Str} {kpos : Pos} {kws : List Keyword} {a : Expr} {ma : M Rf} (ha : DE X Y a ma) (hr : DK X Y kws ms) : DK X Y (⟨nm, a, kpos⟩ :: kws) (aCons ma ms) :=
  PK.weak (pk_cons ha hr) fun σ H Q ⟨F, P, G, ρ, r, er, e, hm, hp⟩ => tE_bind er e hm hp fun G1 H1 ρ1 x v s1 e1 so1 hm1 hp1 => tG_bind (Re := relA (amb X)) er e1 hm1 hp1 fun G2 H2 ρ2 xs vs s2 e2 so2 hm2 => by
    cases hm2
    exact hp1 (v :: vs) G2 H2 s2 e2 (.cons (so1.mono s2) so2)
/-- the reading of both lists -/
theorem kw_tail {A : Amb} {n m : Nat} {md : List Bool} {perm : List Nat} {dds : List D} {dvs : List V} {σ : L2.St} {H : Hp} {Q : VK} (hd : ∀ G, Ims A G dvs dds) (h : tG A Y (relE A) (eFnK fn md n m perm dds ms mk) σ H Q) :
    tG A Y (relA A) ms σ H fun vs H1 => tG A Y (relA A) mk σ H1 fun zs H2 => vs.length = n ∧ zs.length = m ∧ spZ A fn (pick perm (vs ++ zs ++ dvs)) H2 Q (fun cls d H' => Y.W cls d σ H') := by
  obtain ⟨F0, P, G, ρ, r, er, e0, hm0, hp⟩ := h
  refine tG_bind (Re := relA A) er e0 hm0 hp fun G1 H1 ρ1 xs vs s1 e1 so hk1 => tG_bind (Re := relA A) er e1 hk1 (hp.mono s1) fun G2 H2 ρ2 zs ws s2 e2 so2 hk2 => ?_
  by_cases hl : xs.length = n ∧ zs.length = m
  · rw [if_pos hl] at hk2
    refine ⟨so.get.1.trans hl.1, so2.get.1.trans hl.2, fnL_tail e2 (soks_pick (((so.mono s2).append so2).append ?_)) hk2 (hp.mono (s1.trans s2))⟩
    have go : ∀ {vs : List V} {ds : List D}, Ims A G2 vs ds → SOks A σ G2 vs (ds.map .dat) := by
      intro vs
      induction vs with
      | nil =>
        intro ds h
        cases h
        exact .nil
      | cons v vs ih =>
        intro ds h
        cases h with
        | cons h r => exact .cons h (ih r)
    exact go (hd G2)
  · rw [if_neg hl] at hk2
    cases hk2
/-- f(e, .., k = v, ..) -/
theorem de_callK {md : List Bool} {ks : List Str} {perm : List Nat} {dvs : List V} {dds : List D} {n : Nat} {kws : List Keyword} (F : FnZ X.prog X.w X.K X.mg X.base k f fd ps fn) (hm : X.mg x = some (.ref f)) (hk : PySem.W.keepIn X.K (.ref f) = true) (hb : KBz X.K fd ps n ks perm dvs)
    (hd : ∀ G, Ims (amb X) G dvs dds) (hg : X.A.guards = some []) (hr : Room k X.A) (tk : Takes X Y.W) (ha : DA X Y (e :: es) ms) (hkw : DK X Y kws mk) (hgl : Gl X x := by rfl) (hdb : (x == ("__debug__" : Str)) = false := by decide)
    (hall : (backToKw pos (keywordEach kws X.env)).all (·.1.isSome) = true := by rfl) (hks : (backToKw pos (keywordEach kws X.env)).filterMap (·.1) = ks := by rfl)
    (he : starEach (e :: es) X.env = (false, eval e X.env) :: starEach es X.env := by rfl) (hpl : ((backTo pos (starEach (e :: es) X.env)).any (·.1) || (backToKw pos (keywordEach kws X.env)).any (·.1.isNone)) = false := by rfl) :
    DE X Y (.Call (.Name x p) (e :: es) kws pos) (eFnK fn md n ks.length perm dds ms mk) := by
  obtain ⟨ds, rd, bind⟩ := hb
  refine ⟨fun pins s σ H Q I h => ?_⟩
  refine wpAny_Call_Name_kw (ld_glob I hgl hm ?_ hdb)
  refine PySem.W.callWith_KW (h₀ := X.base) I.ok.mod.kin hk hall (thn (ha.run pos pins s σ H _ I (kw_tail hd h)) fun us s1 ⟨vs, H1, I1, rv, q1⟩ => ?_) hpl he
  refine thn (hkw.run pos pins s1 σ H1 _ I1 q1) fun ws s2 ⟨zs, H2, I2, rz, l1, l2, q2⟩ => ⟨I2.kIn, ?_⟩
  rw [hks]
  exact run_z F hg hr tk I2 (bind s2 us ws I2.kIn (rv.length.symm.trans l1) (rz.length.symm.trans l2)) (vals_pick ((rv.append rz).append rd)) q2
theorem de_callK0 {md : List Bool} {ks : List Str} {perm : List Nat} {dvs : List V} {dds : List D} {kws : List Keyword} (F : FnZ X.prog X.w X.K X.mg X.base k f fd ps fn) (hm : X.mg x = some (.ref f)) (hk : PySem.W.keepIn X.K (.ref f) = true) (hb : KBz X.K fd ps 0 ks perm dvs)
    (hd : ∀ G, Ims (amb X) G dvs dds) (hg : X.A.guards = some []) (hr : Room k X.A) (tk : Takes X Y.W) (hkw : DK X Y kws mk) (hgl : Gl X x := by rfl) (hdb : (x == ("__debug__" : Str)) = false := by decide)
    (hall : (backToKw pos (keywordEach kws X.env)).all (·.1.isSome) = true := by rfl) (hks : (backToKw pos (keywordEach kws X.env)).filterMap (·.1) = ks := by rfl)
    (hpl : ((backTo pos (starEach [] X.env)).any (·.1) || (backToKw pos (keywordEach kws X.env)).any (·.1.isNone)) = false := by rfl) :
    DE X Y (.Call (.Name x p) [] kws pos) (eFnK fn md 0 ks.length perm dds aNil mk) := by
  obtain ⟨ds, rd, bind⟩ := hb
  refine ⟨fun pins s σ H Q I h => ?_⟩
  refine wpAny_Call_Name_kw (ld_glob I hgl hm ?_ hdb)
  obtain ⟨F0, P, G, ρ, r, er, e0, hm0, hp⟩ := h
  have q : tG (amb X) Y (relA (amb X)) mk σ H fun zs H2 => ([] : List V).length = 0 ∧ zs.length = ks.length ∧ spZ (amb X) fn (pick perm ([] ++ zs ++ dvs)) H2 Q (fun cls d H' => Y.W cls d σ H') := by
    have t := kw_tail (ms := aNil) hd ⟨F0, P, G, ρ, r, er, e0, hm0, hp⟩
    obtain ⟨F1, P1, G1, ρ1, r1, er1, e1, hm1, hp1⟩ := t
    cases hm1
    exact hp1 [] G1 H (Same.refl G1) e1 .nil
  refine PySem.W.callWith_KW0 (h₀ := X.base) I.ok.mod.kin hk hall ?_ hpl
  refine thn (hkw.run pos pins s σ H _ I q) fun ws s2 ⟨zs, H2, I2, rz, l1, l2, q2⟩ => ⟨I2.kIn, ?_⟩
  rw [hks]
  exact run_z F hg hr tk I2 (bind s2 [] ws I2.kIn rfl (rz.length.symm.trans l2)) (vals_pick (L2.Vals.append (L2.Vals.append .nil rz) rd)) q2
end
end Z

set_option Elab.async false
set_option linter.all false
set_option maxRecDepth 100000
set_option maxHeartbeats 4000000
/-! ZF: what is walked; comprehensions. -/
namespace PySem
theorem enum_one_meets {v : Value} {o : Obj} {W : Heap → Prop} (B : Begins v o W) :
    Meets (Builtin.«enumerate.__new__» ⟨[.type "enumerate", v], []⟩) (fun _ R s => W s.heap ∧
      R (.ok (.ret (.ref (s.heap.objs.size + 1)))) { s with heap := (s.heap.push o).push { cls := .type "enumerate", data := .fields #[.none, .bool false, .ref s.heap.objs.size, rawInt 0, .none, .none] } }) :=
  .of_wp fun prog w A R s h => by
    obtain ⟨hp, g, d, tk, os⟩ := s
    obtain ⟨h1, h⟩ := h
    have sub := sub_enumerate
    have hz : (hp.push o).objs.size = hp.objs.size + 1 := Heap.size_push ..
    have h2 : R (.ok (.ret (.ref (hp.push o).objs.size))) { heap := (hp.push o).push { cls := .type "enumerate", data := .fields #[.none, .bool false, .ref hp.objs.size, rawInt 0, .none, .none] }, gens := g, drawn := d, toks := tk, os := os } := by
      rw [hz]
      exact h
    have it : ∀ {A' : Around} {E Q : Value → Shared → Prop}, Q (.ref hp.objs.size) ⟨hp.push o, g, d, tk, os⟩ → wpAny (model prog w) A' (pyIter v) Q E ⟨hp, g, d, tk, os⟩ := fun q => B.iter prog w _ _ ⟨hp, g, d, tk, os⟩ _ h1 q
    wp_walk using it
    refine wpAny_stack_any fun st => wpAny_pure ?_
    split
    · rename_i c _ _ _ _ _
      cases (c == Value.type "enumerate") <;> (wp_walk using it; exact ⟨_, rfl, h2⟩)
    · wp_walk using it
      exact ⟨_, rfl, h2⟩
theorem enum_one {prog : Program} {w : World} {A : Around} {E : Value → Shared → Prop} {s : Shared} {v : Value} {o : Obj} {W : Heap → Prop} {Q : Value → Shared → Prop} (B : Begins v o W) (h1 : W s.heap)
    (h : ∀ h', IsEnum h' (s.heap.objs.size + 1) s.heap.objs.size 0 .none → h'.get? s.heap.objs.size = some o → (∀ b o, s.heap.get? b = some o → h'.get? b = some o) → Q (.ref (s.heap.objs.size + 1)) { s with heap := h' }) :
    wpAny (model prog w) A (call (.type "enumerate") [v]) Q E s := by
  refine callType_new F.called_enumerate (by decide) (F.typeCall_enumerate_1 _) (F.newCall_enumerate_1 _) (fun obj => F.args_object_init_2 obj _) F.entry_enumerate_new (enum_one_meets B) ⟨h1, ?_⟩
  have he : IsEnum ((s.heap.push o).push { cls := .type "enumerate", data := .fields #[.none, .bool false, .ref s.heap.objs.size, rawInt 0, .none, .none] }) (s.heap.objs.size + 1) s.heap.objs.size 0 .none := by
    have q := Heap.get?_push_size (s.heap.push o) (o := { cls := .type "enumerate", data := .fields #[.none, .bool false, .ref s.heap.objs.size, rawInt 0, .none, .none] }) rfl
    rw [Heap.size_push] at q
    exact q
  exact ⟨⟨_, he, rfl⟩, h _ he (Heap.get?_push_of_some _ (Heap.get?_push_size _ B.free)) fun b o x => Heap.get?_push_of_some _ (Heap.get?_push_of_some _ x)⟩
end PySem
namespace Z
open PySem PySem.Spec PyProof.Rows L2

/-! enumerate over a tuple -/
def ItEt (K : PySem.W.Frag) (a : Addr) : It :=
  ⟨fun i H => ∃ xs x, SqT K H a xs ∧ xs[i]? = some x, fun i H v H' => ∃ T x, v = .ref T ∧ H T = none ∧ H' = upd H T (.tup [.int (i : Nat), x]) ∧ ∀ xs, SqT K H a xs → xs[i]? = some x, fun i H => ∃ xs, SqT K H a xs ∧ xs.length ≤ i⟩
theorem turn_enumT {P : Program} {w : World} {K : PySem.W.Frag} {elts : List Expr} {kk : Nat} {tpos : Pos} (a e it : Addr) :
    Turn P w K (.Tuple elts kk tpos) (ItEt K a) [e, it] e (fun i h => (∃ old, IsEnum h e it ((i : Nat) : Int) old) ∧ h.IsTupleIter it a i ∧ e ≠ it) where
  mem := List.mem_cons_self ..
  obj := fun i h st b hb => by
    obtain ⟨⟨old, he⟩, ⟨o, ho, hc, hd⟩, _⟩ := st
    rcases List.mem_cons.mp hb with rfl | hb
    · exact ⟨_, he, fun v q => nomatch q⟩
    · cases List.mem_singleton.mp hb
      refine ⟨o, ho, fun v q => ?_⟩
      rw [hd] at q
      cases q
  keep := fun i h h' st k => by
    obtain ⟨⟨old, he⟩, hi, hne⟩ := st
    exact ⟨⟨old, k e (List.mem_cons_self ..) _ he⟩, hi.at fun o q => k it (List.mem_cons_of_mem _ (List.mem_singleton.mpr rfl)) o q, hne⟩
  item := by
    intro X hP hw hK hc i pins s σ H E I hf st hg
    subst hP hw hK
    obtain ⟨⟨old, he⟩, hit, hne⟩ := st
    obtain ⟨xs, x, hq, hx⟩ := hg
    obtain ⟨its, rv, p, hz⟩ := I.tuple hq
    obtain ⟨u, hu, ru⟩ := rv.get hx
    have hel : e < s.heap.objs.size := Heap.lt_size he
    have hil : it < s.heap.objs.size := by
      obtain ⟨_, q, _⟩ := hit
      exact Heap.lt_size q
    have hti : a ≠ it := fun z => by
      obtain ⟨o1, q1, c1, _⟩ := hit
      obtain ⟨o2, q2, c2, _⟩ := p
      rw [z, q1] at q2
      cases q2
      rw [c1] at c2
      exact absurd c2 (by decide +kernel)
    have hte : a ≠ e := fun z => by
      obtain ⟨o2, q2, c2, _⟩ := p
      rw [z, he] at q2
      cases q2
      have c3 : Value.type "enumerate" = Value.type "tuple" := c2
      exact absurd c3 (by decide +kernel)
    have pt : s.heap.IsTuple a its.toArray := p
    refine wpAny_pyNext_enum_itemC (Draws.tuple (prog := X.prog) (w := X.w) (A := X.A.in1) (I.ok.hd hc) it a hti its.toArray) he ⟨hit, pt⟩ (i := i) (by
      have q := (List.getElem?_eq_some_iff.mp hu).1
      simpa using q) hne (by
      intro z
      rcases List.mem_cons.mp z with z | z
      · exact hne z
      · exact hte (List.mem_singleton.mp z).symm) fun y h' tk hy ho st' hT hsz hk => ?_
    have eu : u = y := by
      have hy : its.toArray[i]? = some y := hy
      rw [List.getElem?_toArray, hu] at hy
      exact Option.some.inj hy
    subst eu
    refine ⟨_, rfl, wpAny_letOwnedTupleGo_enum (s := { s with heap := h', toks := tk + 1 }) ho fun h'' he' sb => ?_⟩
    have hT2 := (sb.2 _ (Nat.ne_of_gt hel)).trans hT
    have fresh : H s.heap.objs.size = none := I.hok.fresh (Nat.le_refl _)
    have new : ObjOk X.prog X.w (upd H s.heap.objs.size (.tup [.int (i : Nat), x])) h'' s.heap.objs.size (.tup [.int (i : Nat), x]) :=
      ⟨by show 2 ≤ sizeLine; decide, [.int i tk, u], .cons ⟨_, rfl⟩ (.cons ru .nil), ⟨_, hT2, rfl, _, rfl⟩⟩
    have I1 := I.turnedNew (t' := tk + 1) (ch := [e, it]) (fun b ob hb q => by
      have n1 : b ≠ e := fun z => hb (z ▸ List.mem_cons_self ..)
      have n2 : b ≠ it := fun z => hb (z ▸ List.mem_cons_of_mem _ (List.mem_singleton.mpr rfl))
      exact (sb.2 b n1).trans (hk b ob n1 n2 q)) hf (Nat.le_refl _) new
    refine ⟨.ref s.heap.objs.size, _, I1, rfl, ⟨_, x, rfl, fresh, rfl, fun ys hy => ?_⟩, ⟨⟨u, he'⟩, st'.1.at fun o q => (sb.2 it (Ne.symm hne)).trans q, hne⟩, fun b hb => ?_⟩
    · rw [I.tuple_inj hy hq]
      exact hx
    · have lt : b < s.heap.objs.size := by
        rcases List.mem_cons.mp hb with z | z
        · rw [z]
          exact hel
        · rw [List.mem_singleton.mp z]
          exact hil
      rw [upd_ne (Nat.ne_of_lt lt)]
      exact (hf b hb).1
  done := by
    intro X hP hw hK hc i pins s σ H E I hf st hg
    subst hP hw hK
    obtain ⟨⟨old, he⟩, hit, hne⟩ := st
    obtain ⟨xs, hq, hx⟩ := hg
    obtain ⟨its, rv, p, hz⟩ := I.tuple hq
    obtain ⟨f0, f1, f2, f3, f4, f5⟩ := hf it (List.mem_cons_of_mem _ (List.mem_singleton.mpr rfl))
    have hl := rv.length
    have hti : a ≠ it := fun z => by
      obtain ⟨o1, q1, c1, _⟩ := hit
      obtain ⟨o2, q2, c2, _⟩ := p
      rw [z, q1] at q2
      cases q2
      rw [c1] at c2
      exact absurd c2 (by decide +kernel)
    have pt : s.heap.IsTuple a its.toArray := p
    have dr : Draws X.prog X.w X.A.in1 it [it, a] i (fun _ _ => True) (fun j h => j = i ∧ h.IsTupleIter it a j ∧ h.IsTuple a its.toArray) := {
      live := fun _ _ st => by
        obtain ⟨_, ⟨o, ho, _⟩, _⟩ := st
        exact ⟨o, ho⟩
      frame := fun _ _ _ st hk => ⟨st.1, st.2.1.at fun o e => hk it (List.mem_cons_self ..) o e, st.2.2.at fun o e => hk a (List.mem_cons_of_mem _ (List.mem_singleton.mpr rfl)) o e⟩
      item := fun j s Q E hj st hQ => absurd hj (by rw [st.1]; exact Nat.lt_irrefl _)
      done := fun s Q E st hE => wpAny_nextOf_tuple_end (I.ok.hd hc) st.2.1 st.2.2 (by
        rw [List.getElem?_toArray, List.getElem?_eq_none_iff]
        omega) hE }
    exact wpAny_pyNext_enum_endD dr he ⟨rfl, hit, pt⟩ fun h' eb => ⟨rfl, I.turned (t' := s.toks) (fun b o hb q => eb b o hb q) f0 f1 f3 f4 f5⟩
  self := fun A i s Q E st h => by
    obtain ⟨⟨_, he⟩, _⟩ := st
    exact wpAny_pyIter_enum he h
end Z

set_option Elab.async false
set_option linter.all false
set_option maxRecDepth 100000
set_option maxHeartbeats 4000000
/-! ZG: what is walked, comprehensions. -/
namespace Z
open PySem PySem.Spec PyProof.Rows L2

def seqOf : D → Option (List D)
  | .lst ds => some ds
  | .tup ds => some ds
  | _ => none
theorem itr_list {A : Amb} {G : Hp} {a : Addr} {vs : List V} {ds : List D} (h : SqL A.K G a vs) (im : Ims A G vs ds) : Wlk A (Itl A.K a) G ds where
  go := fun i H s hi => by
    rw [← im.length] at hi
    exact ⟨vs, vs[i], s.seq h, by simp [hi]⟩
  stop := fun H s => ⟨vs, s.seq h, Nat.le_of_eq im.length⟩
  yld := fun i H x H' d s hd y => by
    obtain ⟨e, y⟩ := y
    obtain ⟨v, h1, h2⟩ := im.get hd
    have q := y vs (s.seq h)
    rw [h1] at q
    cases q
    exact .inl ⟨e, h2⟩
theorem itr_tup {A : Amb} {G : Hp} {a : Addr} {vs : List V} {ds : List D} (h : SqT A.K G a vs) (im : Ims A G vs ds) : Wlk A (Itt A.K a) G ds where
  go := fun i H s hi => by
    rw [← im.length] at hi
    exact ⟨vs, vs[i], same_sqT s h, by simp [hi]⟩
  stop := fun H s => ⟨vs, same_sqT s h, Nat.le_of_eq im.length⟩
  yld := fun i H x H' d s hd y => by
    obtain ⟨e, y⟩ := y
    obtain ⟨v, h1, h2⟩ := im.get hd
    have q := y vs (same_sqT s h)
    rw [h1] at q
    cases q
    exact .inl ⟨e, h2⟩
def numbered (ds : List D) : List D := (List.range ds.length).zipWith (fun i d => .pr [.int (i : Nat), d]) ds
theorem numbered_get {ds : List D} {i : Nat} {d : D} (h : (numbered ds)[i]? = some d) : ∃ e, ds[i]? = some e ∧ d = .pr [.int (i : Nat), e] := by
  unfold numbered at h
  rw [List.getElem?_zipWith] at h
  cases q : ds[i]? with
  | none =>
    rw [q] at h
    cases r : (List.range ds.length)[i]? <;> (rw [r] at h; cases h)
  | some e =>
    have hi : i < ds.length := (List.getElem?_eq_some_iff.mp q).1
    rw [q, List.getElem?_range hi] at h
    cases h
    exact ⟨e, rfl, rfl⟩
theorem numbered_length (ds : List D) : (numbered ds).length = ds.length := by
  unfold numbered
  rw [List.length_zipWith, List.length_range, Nat.min_self]
theorem itr_enumL {A : Amb} {G : Hp} {a : Addr} {vs : List V} {ds : List D} (h : SqL A.K G a vs) (im : Ims A G vs ds) : Wlk A (Ite A.K a) G (numbered ds) where
  go := fun i H s hi => by
    rw [numbered_length, ← im.length] at hi
    exact ⟨vs, vs[i], s.seq h, by simp [hi]⟩
  stop := fun H s => ⟨vs, s.seq h, by rw [numbered_length]; exact Nat.le_of_eq im.length⟩
  yld := fun i H x H' d s hd y => by
    obtain ⟨T, u, e1, e2, e3, y⟩ := y
    obtain ⟨e, q, rfl⟩ := numbered_get hd
    obtain ⟨v, h1, h2⟩ := im.get q
    have z := y vs (s.seq h)
    rw [h1] at z
    cases z
    exact .inr ⟨T, _, _, e1, e2, e3, rfl, .cons (.int _) (.cons h2 .nil)⟩
theorem itr_enumT {A : Amb} {G : Hp} {a : Addr} {vs : List V} {ds : List D} (h : SqT A.K G a vs) (im : Ims A G vs ds) : Wlk A (ItEt A.K a) G (numbered ds) where
  go := fun i H s hi => by
    rw [numbered_length, ← im.length] at hi
    exact ⟨vs, vs[i], same_sqT s h, by simp [hi]⟩
  stop := fun H s => ⟨vs, same_sqT s h, by rw [numbered_length]; exact Nat.le_of_eq im.length⟩
  yld := fun i H x H' d s hd y => by
    obtain ⟨T, u, e1, e2, e3, y⟩ := y
    obtain ⟨e, q, rfl⟩ := numbered_get hd
    obtain ⟨v, h1, h2⟩ := im.get q
    have z := y vs (same_sqT s h)
    rw [h1] at z
    cases z
    exact .inr ⟨T, _, _, e1, e2, e3, rfl, .cons (.int _) (.cons h2 .nil)⟩
def rangeD (lo : Int) (n : Nat) : List D := (List.range n).map fun (i : Nat) => .int (lo + i)
theorem rangeD_get {lo : Int} {n i : Nat} {d : D} (h : (rangeD lo n)[i]? = some d) : i < n ∧ d = .int (lo + i) := by
  unfold rangeD at h
  rw [List.getElem?_map] at h
  by_cases hi : i < n
  · rw [List.getElem?_range hi] at h
    cases h
    exact ⟨hi, rfl⟩
  · rw [List.getElem?_eq_none (by simpa using hi)] at h
    cases h
theorem itr_range {A : Amb} {G : Hp} {lo : Int} {n : Nat} : Wlk A (Itr lo n) G (rangeD lo n) where
  go := fun i H s hi => by
    unfold rangeD at hi
    rw [List.length_map, List.length_range] at hi
    exact hi
  stop := fun H s => by
    show n ≤ _
    unfold rangeD
    rw [List.length_map, List.length_range]
    exact Nat.le_refl _
  yld := fun i H x H' d s hd y => by
    obtain ⟨e, y⟩ := y
    obtain ⟨_, rfl⟩ := rangeD_get hd
    subst y
    exact .inl ⟨e, .int _⟩

section
variable {X : Cx} {Y : Yc} {tg e : Expr} {m : M Rf} {ms : M (List Rf)}
def iSeq (m : M Rf) : M (List D) := bindM m fun x => bindM (frz (stl x)) fun d => optM (seqOf d)
theorem bind_frz {A : Amb} {F : Fx} {P : List (Nat × Addr)} {σ : L2.St} {G H : Hp} {ρ : E} {v : V} {x : Rf} {α : Type} {k : D → M α} {r : R α} (e : EnvG A F P σ G H ρ) (h : SOk A σ G v x) (hm : bindM (frz x) k ρ = some r) :
    ∃ d ρ' G', k d ρ' = some r ∧ Same G G' ∧ EnvG A F P σ G' H ρ' ∧ Im A G' v d := by
  cases q : frz x ρ with
  | none =>
    rw [bindM_none q] at hm
    cases hm
  | some r1 =>
    obtain ⟨d, ρ', G', rfl, s, e', im⟩ := frz_ok e h q
    rw [bindM_ok q] at hm
    exact ⟨d, ρ', G', hm, s, e', im⟩
theorem di_seq (h : DE X Y e m) : DI X Y tg e (iSeq m) := by
  refine ⟨fun pins s σ H Q I ⟨F, P, G, ρ, r, er, e0, hm, hp⟩ => ?_⟩
  have q : tG (amb X) Y (relE (amb X)) m σ H fun v H1 => ∃ a, v = .ref a ∧ (((∃ xs, SqL X.K H1 a xs) ∧ Q (Itl X.K a) H1) ∨ ((∃ xs, SqT X.K H1 a xs) ∧ Q (Itt X.K a) H1)) :=
    tE_bind er e0 hm hp fun G1 H1 ρ1 x v s1 e1 so hk hp1 => by
      obtain ⟨d, ρ2, G2, hk2, s2, e2, im⟩ := bind_frz e1 so hk
      obtain ⟨ds, hd, rfl⟩ := optM_ok hk2
      cases im with
      | lst h r =>
        cases hd
        exact ⟨_, rfl, .inl ⟨⟨_, e2.gh.seq h⟩, hp1 _ G2 H1 s2 e2 (itr_list h r)⟩⟩
      | tup h r =>
        cases hd
        exact ⟨_, rfl, .inr ⟨⟨_, same_sqT e2.gh h.sq⟩, hp1 _ G2 H1 s2 e2 (itr_tup h.sq r)⟩⟩
      | _ => cases hd
  refine thn (h.run pins s σ H _ I q) fun v s1 ⟨x, H1, I1, r1, a, ex, q1⟩ => ?_
  subst ex
  cases r1
  have one : ∀ b ∈ [s1.heap.objs.size], FpOk X pins H1 b := fun b hb => by
    cases List.mem_singleton.mp hb
    exact I1.fpOk (Nat.le_refl _) (I1.hok.fresh (Nat.le_refl _))
  have kept : ∀ {o : Obj}, Inv X pins σ H1 { s1 with heap := s1.heap.push o } := fun {o} => I1.kept (t' := s1.toks) fun b u z => Heap.get?_push_of_some _ z
  rcases q1 with ⟨⟨xs, hq⟩, q⟩ | ⟨⟨xs, hq⟩, q⟩
  · obtain ⟨its, rv, p, _⟩ := I1.list hq
    exact wpAny_pyIter_list p.isList ⟨_, _, _, _, H1, rfl, kept, turn_list a _, ⟨_, Heap.get?_push_size _ rfl, rfl, rfl⟩, one, q⟩
  · obtain ⟨its, rv, p, _⟩ := I1.tuple hq
    exact wpAny_pyIter_tuple (show s1.heap.IsTuple a its.toArray from p) ⟨_, _, _, _, H1, rfl, kept, turn_tuple a _, ⟨_, Heap.get?_push_size _ rfl, rfl, rfl⟩, one, q⟩
/-- enumerate(e) -/
def iEn (m : M Rf) : M (List D) := bindM m fun x => bindM (frz (stl x)) fun d => optM ((seqOf d).map numbered)
theorem di_enum {elts : List Expr} {kk : Nat} {p pos tpos : Pos} (hm : X.mg "enumerate" = none) (h : DE X Y e m) (hg : Gl X "enumerate" := by rfl) (hs : starEach [e] X.env = (false, eval e X.env) :: starEach [] X.env := by rfl) (hs2 : (backTo pos (starEach [] X.env)).any (·.1) = false := by rfl) :
    DI X Y (.Tuple elts kk tpos) (.Call (.Name "enumerate" p) [e] [] pos) (iEn m) := by
  refine ⟨fun pins s σ H Q I ⟨F, P, G, ρ, r, er, e0, hm0, hp⟩ => ?_⟩
  have q : tCons (tG (amb X) Y (relE (amb X)) m) tNil σ H fun vs H1 => ∃ a, vs = [.ref a] ∧ (((∃ xs, SqL X.K H1 a xs) ∧ Q (Ite X.K a) H1) ∨ ((∃ xs, SqT X.K H1 a xs) ∧ Q (ItEt X.K a) H1)) :=
    tE_bind er e0 hm0 hp fun G1 H1 ρ1 x v s1 e1 so hk hp1 => by
      obtain ⟨d, ρ2, G2, hk2, s2, e2, im⟩ := bind_frz e1 so hk
      obtain ⟨ds, h1, rfl⟩ := optM_ok hk2
      obtain ⟨es, h2, rfl⟩ := map_some' h1
      clear h1 hk2
      cases im with
      | lst h r =>
        cases h2
        exact ⟨_, rfl, .inl ⟨⟨_, e2.gh.seq h⟩, hp1 _ G2 H1 s2 e2 (itr_enumL h r)⟩⟩
      | tup h r =>
        cases h2
        exact ⟨_, rfl, .inr ⟨⟨_, same_sqT e2.gh h.sq⟩, hp1 _ G2 H1 s2 e2 (itr_enumT h.sq r)⟩⟩
      | _ => cases h2
  refine Call_ (ld_blt I hg hm boot_enumerate (PyProof.Rows.callWith_type1 (thn ((pa_cons h pa_nil hs).run pos pins s σ H _ I q) fun us s1 ⟨vs, H1, I1, r1, a, ex, q1⟩ => ?_) hs hs2))
  subst ex
  obtain ⟨u, rfl, ru⟩ := vals1 r1
  cases ru
  have two : ∀ b ∈ [s1.heap.objs.size + 1, s1.heap.objs.size], FpOk X pins H1 b := fun b hb => by
    have hle : s1.heap.objs.size ≤ b := by
      rcases List.mem_cons.mp hb with z | z
      · rw [z]
        exact Nat.le_succ _
      · rw [List.mem_singleton.mp z]
        exact Nat.le_refl _
    exact I1.fpOk hle (I1.hok.fresh hle)
  rcases q1 with ⟨⟨xs, hq⟩, q⟩ | ⟨⟨xs, hq⟩, q⟩
  · obtain ⟨its, rv, p, _⟩ := I1.list hq
    exact call_enumerate_list p.isList fun h' he hit hsz hk => wpAny_pyIter_enum he ⟨_, _, _, _, H1, rfl, I1.kept (t' := s1.toks) hk, turn_enum a _ _, ⟨⟨.none, he⟩, hit, Nat.succ_ne_self _⟩, two, q⟩
  · obtain ⟨its, rv, p, _⟩ := I1.tuple hq
    exact PySem.enum_one (begins_tuple a its.toArray) (show s1.heap.IsTuple a its.toArray from p) fun h' he hit hk => wpAny_pyIter_enum he ⟨_, _, _, _, H1, rfl, I1.kept (t' := s1.toks) hk, turn_enumT a _ _, ⟨⟨.none, he⟩, ⟨_, hit, rfl, rfl⟩, Nat.succ_ne_self _⟩, two, q⟩
def small62 (i : Int) : Bool := decide (-(2 ^ 62) ≤ i ∧ i < 2 ^ 62)
def rg1 : List D → Option (List D)
  | [.int n] => if small62 n = true then some (rangeD 0 n.toNat) else none
  | _ => none
def rg2 : List D → Option (List D)
  | [.int a, .int b] => if small62 a = true ∧ small62 b = true then some (rangeD a (b - a).toNat) else none
  | _ => none
theorem rg1_ok {ds es : List D} (h : rg1 ds = some es) : ∃ n, ds = [.int n] ∧ (-(2 ^ 62) ≤ n ∧ n < 2 ^ 62) ∧ es = rangeD 0 n.toNat := by
  unfold rg1 at h
  split at h
  · rename_i n
    by_cases hb : small62 n = true
    · rw [if_pos hb] at h
      cases h
      exact ⟨n, rfl, of_decide_eq_true hb, rfl⟩
    · rw [if_neg hb] at h
      cases h
  · cases h
theorem rg2_ok {ds es : List D} (h : rg2 ds = some es) : ∃ a b, ds = [.int a, .int b] ∧ (-(2 ^ 62) ≤ a ∧ a < 2 ^ 62) ∧ (-(2 ^ 62) ≤ b ∧ b < 2 ^ 62) ∧ es = rangeD a (b - a).toNat := by
  unfold rg2 at h
  split at h
  · rename_i a b
    by_cases hb : small62 a = true ∧ small62 b = true
    · rw [if_pos hb] at h
      cases h
      exact ⟨a, b, rfl, of_decide_eq_true hb.1, of_decide_eq_true hb.2, rfl⟩
    · rw [if_neg hb] at h
      cases h
  · cases h
def iRg1 (ms : M (List Rf)) : M (List D) := bindM ms fun xs => bindM (drfs xs) fun ds => optM (rg1 ds)
def iRg2 (ms : M (List Rf)) : M (List D) := bindM ms fun xs => bindM (drfs xs) fun ds => optM (rg2 ds)
theorem di_range1 {a : Expr} {p pos : Pos} (hm : X.mg "range" = none) (h : DA X Y [a] ms) (hg : Gl X "range" := by rfl) (hs : starEach [a] X.env = [(false, eval a X.env)] := by rfl) : DI X Y tg (.Call (.Name "range" p) [a] [] pos) (iRg1 ms) :=
  PI.weak (pi_range1 hg hm h hs) fun σ H Q ⟨F, P, G, ρ, r, er, e, hm, hp⟩ => tG_bind (Re := relA (amb X)) er e hm hp fun G1 H1 ρ1 xs vs s1 e1 so hk => by
    obtain ⟨ds, d1, hk2⟩ := drfs_ok hk
    obtain ⟨es, h1, rfl⟩ := optM_ok hk2
    obtain ⟨n, rfl, q, rfl⟩ := rg1_ok h1
    have t := tops_of e1 so d1
    cases t with
    | cons t t2 =>
      cases t2
      have z := t.int
      subst z
      exact ⟨n, rfl, q.1, q.2, hp _ G1 H1 s1 e1 itr_range⟩
theorem di_range2 {a b : Expr} {p pos : Pos} (hm : X.mg "range" = none) (h : DA X Y [a, b] ms) (hg : Gl X "range" := by rfl) (hs : starEach [a, b] X.env = [(false, eval a X.env), (false, eval b X.env)] := by rfl) (hs2 : starEach [b] X.env = [(false, eval b X.env)] := by rfl) :
    DI X Y tg (.Call (.Name "range" p) [a, b] [] pos) (iRg2 ms) :=
  PI.weak (pi_range2 hg hm h hs hs2) fun σ H Q ⟨F, P, G, ρ, r, er, e, hm, hp⟩ => tG_bind (Re := relA (amb X)) er e hm hp fun G1 H1 ρ1 xs vs s1 e1 so hk => by
    obtain ⟨ds, d1, hk2⟩ := drfs_ok hk
    obtain ⟨es, h1, rfl⟩ := optM_ok hk2
    obtain ⟨a, b, rfl, q, q2, rfl⟩ := rg2_ok h1
    have t := tops_of e1 so d1
    cases t with
    | cons t t2 =>
      cases t2 with
      | cons t2 t3 =>
        cases t3
        have z := t.int
        subst z
        have z := t2.int
        subst z
        exact ⟨a, b, rfl, ⟨q.1, q.2, q2.1, q2.2⟩, hp _ G1 H1 s1 e1 itr_range⟩
end

/-! comprehensions -/
def wipeE (ρ : E) : List Nat → E
  | [] => ρ
  | v :: vs => (wipeE ρ vs).set v .no
def okSlots (ρ : E) (vs : List Nat) : Bool := vs.all (okSlot ρ)
theorem wipeE_length (ρ : E) : ∀ vs : List Nat, (wipeE ρ vs).length = ρ.length
  | [] => rfl
  | v :: vs => by
    unfold wipeE
    rw [List.length_set, wipeE_length ρ vs]
theorem wipeE_get {ρ : E} {i : Nat} {s : Sl} : ∀ {vs : List Nat}, (wipeE ρ vs)[i]? = some s → (s = .no) ∨ (ρ[i]? = some s ∧ i ∉ vs)
  | [], h => .inr ⟨h, by simp⟩
  | v :: vs, h => by
    unfold wipeE at h
    by_cases hi : v = i
    · subst hi
      rw [List.getElem?_set] at h
      split at h
      · split at h
        · cases h
          exact .inl rfl
        · cases h
      · rename_i z
        exact absurd rfl z
    · rw [List.getElem?_set_ne hi] at h
      rcases wipeE_get h with h | ⟨h1, h2⟩
      · exact .inl h
      · refine .inr ⟨h1, fun z => ?_⟩
        rcases List.mem_cons.mp z with z | z
        · exact hi z.symm
        · exact h2 z
section
variable {A : Amb} {F : Fx} {P : List (Nat × Addr)} {σ σ' : L2.St} {G H : Hp} {ρ : E}
theorem wipe_get {σ : L2.St} {i : Nat} : ∀ {vs : List Nat}, i ∉ vs → (L2.wipe σ vs)[i]? = σ[i]? := fun {vs} h => L2.wipe_out h
theorem EnvG.wipe (e : EnvG A F P σ G H ρ) {vs : List Nat} (h : okSlots ρ vs = true) : EnvG A F P (L2.wipe σ vs) G H (wipeE ρ vs) := by
  have np : ∀ i ∈ vs, ∀ l, (i, l) ∉ P := fun i hi => okSlot_pin e (List.all_eq_true.mp h i hi)
  induction vs with
  | nil => exact e
  | cons v vs ih =>
    have h2 : okSlots ρ vs = true := by
      unfold okSlots at h ⊢
      rw [List.all_cons, Bool.and_eq_true] at h
      exact h.2
    exact (ih h2 fun i hi => np i (List.mem_cons_of_mem _ hi)).forget (np v (List.mem_cons_self ..)) none
/-- where the slots that are told agree -/
theorem EnvG.agree (e : EnvG A F P σ G H ρ) (hl : σ'.length = σ.length) (h : ∀ (i : Nat) s, ρ[i]? = some s → s ≠ .no → σ'[i]? = σ[i]?) : EnvG A F P σ' G H ρ where
  fr := e.fr
  gg := e.gg
  gh := e.gh
  gn := e.gn
  ca := e.ca
  len := e.len.trans hl.symm
  val := fun i d q => by
    obtain ⟨v, h1, h2⟩ := e.val i d q
    exact ⟨v, (h i _ q (by simp)).trans h1, h2⟩
  cel := fun i p c q => by
    obtain ⟨l, h1, h2⟩ := e.cel i p c q
    exact ⟨l, (h i _ q (by simp)).trans h1, h2⟩
  ap := fun i j p q c c' l h1 h2 h3 h4 => e.ap i j p q c c' l h1 h2 ((h i _ h1 (by simp)).symm.trans h3) ((h j _ h2 (by simp)).symm.trans h4)
  pin := fun i l m => by
    obtain ⟨h1, c, h2⟩ := e.pin i l m
    exact ⟨(h i _ h2 (by simp)).trans h1, c, h2⟩
  err := fun i x q => by
    obtain ⟨a, cls, d, h1, h2, h3⟩ := e.err i x q
    exact ⟨a, cls, d, h1, (h i _ q (by simp)).trans h2, h3⟩
theorem wipe_len (σ : L2.St) (vs : List Nat) : (L2.wipe σ vs).length = σ.length := L2.wipe_length σ vs
/-- out of the block: the def's slots as they were, the block's own unknown -/
theorem EnvG.unwipe {σ2 : L2.St} (e : EnvG A F P σ2 G H ρ) {vs : List Nat} (h : okSlots ρ vs = true) (hw : L2.wipe σ2 vs = L2.wipe σ vs) : EnvG A F P (L2.wipe σ vs) G H (wipeE ρ vs) := by
  rw [← hw]
  exact e.wipe h
theorem EnvG.outer (e : EnvG A F P (L2.wipe σ vs) G H ρ) (h : ∀ (i : Nat) s, ρ[i]? = some s → s ≠ .no → i ∉ vs) : EnvG A F P σ G H ρ :=
  e.agree (wipe_len σ vs).symm fun i s q n => (wipe_get (h i s q n)).symm
end
/-- a target whose slots are the block's own -/
def CompTg (A : Amb) (Y : Yc) (vs : List Nat) (t : Tg) (g : TG) : Prop := ∀ F P σ G H ρ x v ρ' (Q : L2.St → Hp → Prop), F.er = Y.er → EnvG A F P σ G H ρ → RfOk A F σ G H ρ v x → t x ρ = some ρ' → (∀ σ' G' H', Same G G' → EnvG A F P σ' G' H' ρ' → L2.wipe σ' vs = L2.wipe σ vs → Q σ' H') → g v σ H Q
def CompTgs (A : Amb) (Y : Yc) (vs : List Nat) (t : Tgs) (g : TGs) : Prop := ∀ F P σ G H ρ ds us ρ' (Q : L2.St → Hp → Prop), F.er = Y.er → EnvG A F P σ G H ρ → Ims A G us ds → t ds ρ = some ρ' → (∀ σ' G' H', Same G G' → EnvG A F P σ' G' H' ρ' → L2.wipe σ' vs = L2.wipe σ vs → Q σ' H') → g us σ H Q
theorem wipe_in : ∀ {vs : List Nat} {σ : L2.St} {j : Nat}, j ∈ vs → (L2.wipe σ vs)[j]? = if j < σ.length then some none else none := by
  intro vs
  induction vs with
  | nil =>
    intro σ j h
    cases h
  | cons v vs ih =>
    intro σ j h
    show ((L2.wipe σ vs).set v none)[j]? = _
    by_cases hv : v = j
    · subst hv
      rw [List.getElem?_set, if_pos rfl, wipe_len]
    · rw [List.getElem?_set_ne hv]
      exact ih (by
        rcases List.mem_cons.mp h with z | z
        · exact absurd z.symm hv
        · exact z)
theorem wipe_set {σ : L2.St} {i : Nat} {o : Option V} {vs : List Nat} (hi : i ∈ vs) : L2.wipe (σ.set i o) vs = L2.wipe σ vs := by
  apply List.ext_getElem?
  intro j
  by_cases hj : j ∈ vs
  · rw [wipe_in hj, wipe_in hj, List.length_set]
  · rw [wipe_get hj, wipe_get hj, List.getElem?_set_ne fun z => hj (by rw [← z]; exact hi)]
theorem wipe_idem (σ : L2.St) (vs : List Nat) : L2.wipe (L2.wipe σ vs) vs = L2.wipe σ vs := by
  apply List.ext_getElem?
  intro j
  by_cases hj : j ∈ vs
  · rw [wipe_in hj, wipe_in hj, wipe_len]
  · rw [wipe_get hj]
theorem comp_name {A : Amb} {Y : Yc} {i : Nat} {vs : List Nat} (hi : i ∈ vs) : CompTg A Y vs (tgName i) (gName i) := fun F P σ G H ρ x v ρ' Q er e ro hm hQ => by
  obtain ⟨G', s, e'⟩ := tgName_ok e ro hm
  exact hQ _ G' H s e' (wipe_set hi)
theorem comps_nil {A : Amb} {Y : Yc} {vs : List Nat} : CompTgs A Y vs tgNil gNil := fun F P σ G H ρ ds us ρ' Q er e ro hm hQ => by
  cases ro with
  | nil =>
    cases hm
    exact ⟨rfl, hQ σ G H (Same.refl G) e rfl⟩
  | cons _ _ => cases hm
theorem comps_cons {A : Amb} {Y : Yc} {vs : List Nat} {t : Tg} {g : TG} {u : Tgs} {h : TGs} (h1 : CompTg A Y vs t g) (h2 : CompTgs A Y vs u h) : CompTgs A Y vs (tgCons t u) (gCons g h) := fun F P σ G H ρ ds us ρ' Q er e ro hm hQ => by
  cases ro with
  | nil => cases hm
  | @cons v d us ds ho r =>
    unfold tgCons at hm
    simp only at hm
    cases q : t (.dat d) ρ with
    | none =>
      rw [q] at hm
      cases hm
    | some ρ1 =>
      rw [q] at hm
      exact ⟨v, us, rfl, h1 F P σ G H ρ (.dat d) v ρ1 _ er e ho q fun σ1 G1 H1 s1 e1 w1 => h2 F P σ1 G1 H1 ρ1 ds us ρ' Q er e1 (r.mono s1) hm fun σ2 G2 H2 s2 e2 w2 => hQ σ2 G2 H2 (s1.trans s2) e2 (w2.trans w1)⟩
theorem comp_tup {A : Amb} {Y : Yc} {vs : List Nat} {n : Nat} {u : Tgs} {h : TGs} (hu : CompTgs A Y vs u h) : CompTg A Y vs (tgTup n u) (gTup A.K n h) := fun F P σ G H ρ x v ρ' Q er e ro hm hQ => by
  cases x with
  | cel i => cases hm
  | new ds => cases hm
  | dat d =>
    unfold tgTup at hm
    cases q : d.unp with
    | none =>
      simp only [q] at hm
      cases hm
    | some ds =>
      simp only [q] at hm
      by_cases hl : ds.length = n
      · rw [if_pos hl] at hm
        obtain ⟨a, us, rfl, h, r⟩ := Im.unp (show Im A G v d from ro) q
        exact ⟨_, _, rfl, same_sqT e.gh h, r.length.trans hl, hu F P σ G H ρ ds _ ρ' Q er e r hm hQ⟩
      · rw [if_neg hl] at hm
        cases hm
/-- the turns of a comprehension -/
def compL (t : Tg) (tt : M Bool) (el : M Rf) (vs : List Nat) : List D → E → Option (List D × E)
  | [], ρ => some ([], ρ)
  | d :: ds, ρ => match t (.dat d) ρ with
    | none => none
    | some ρ1 => match tt ρ1 with
      | some (.ok true ρ2) => match el ρ2 with
        | some (.ok x ρ3) => match frz (stl x) ρ3 with
          | some (.ok e ρ4) => if okSlots ρ4 vs = true then (match compL t tt el vs ds (wipeE ρ4 vs) with
            | some (es, ρ5) => some (e :: es, ρ5)
            | none => none) else none
          | _ => none
        | _ => none
      | some (.ok false ρ2) => if okSlots ρ2 vs = true then compL t tt el vs ds (wipeE ρ2 vs) else none
      | _ => none
def eComp (mi : M (List D)) (t : Tg) (tt : M Bool) (el : M Rf) (vs : List Nat) : M Rf := bindM mi fun ds ρ => if okSlots ρ vs = true then (match compL t tt el vs ds (wipeE ρ vs) with
  | some (es, ρ') => if es.length ≤ sizeLine then some (.ok (.new es) ρ') else none
  | none => none) else none
def tTrue : M Bool := pureM true
theorem no_of_wipe {ρ : E} {vs : List Nat} : ∀ (i : Nat) s, (wipeE ρ vs)[i]? = some s → s ≠ .no → i ∉ vs := fun i s q n => by
  rcases wipeE_get q with h | h
  · exact absurd h n
  · exact h.2
theorem compL_no {t : Tg} {tt : M Bool} {el : M Rf} {vs : List Nat} : ∀ {ds : List D} {ρ : E} {es : List D} {ρ' : E}, (∀ (i : Nat) s, ρ[i]? = some s → s ≠ .no → i ∉ vs) → compL t tt el vs ds ρ = some (es, ρ') → ∀ (i : Nat) s, ρ'[i]? = some s → s ≠ .no → i ∉ vs
  | [], ρ, es, ρ', h, hm => by
    cases hm
    exact h
  | d :: ds, ρ, es, ρ', h, hm => by
    unfold compL at hm
    split at hm
    · cases hm
    · split at hm
      · split at hm
        · split at hm
          · split at hm
            · split at hm
              · rename_i q
                cases hm
                exact compL_no no_of_wipe q
              · cases hm
            · cases hm
          · cases hm
        · cases hm
      · split at hm
        · exact compL_no no_of_wipe hm
        · cases hm
      · cases hm
end Z

set_option Elab.async false
set_option linter.all false
set_option maxRecDepth 100000
set_option maxHeartbeats 4000000
/-! ZH: comprehensions; raise, try. -/
namespace Z
open PySem PySem.Spec PyProof.Rows L2

/-- the frame within a comprehension: its list at D stands as it is -/
abbrev Fx.sub (F : Fx) (D : Addr) (acc : List V) (G : Hp) : Fx := ⟨upd F.H D (.lst acc), G, F.C, F.er⟩
section
variable {A : Amb} {F : Fx} {P : List (Nat × Addr)} {σ : L2.St} {G G2 H H2 : Hp} {ρ : E} {D : Addr} {acc acc' : List V}
theorem EnvG.subIn (e : EnvG A F P σ G H ρ) (n : H D = none) : EnvG A (F.sub D acc G) P σ G (upd H D (.lst acc)) ρ := by
  have e' := e.more (same_new (o := .lst acc) n)
  have nF := e.free n
  refine ⟨fun a o hc q => ?_, Same.refl G, e'.gh, fun a o q => .inl q, e'.ca, e'.len, e'.val, fun i p c q => ?_, e'.ap, e'.pin, e'.err⟩
  · have q : upd F.H D (.lst acc) a = some o := q
    by_cases h : a = D
    · subst h
      rw [upd_same] at q ⊢
      exact q
    · rw [upd_ne h] at q
      exact e'.fr a o hc q
  · obtain ⟨l, h1, h2, h3, h4⟩ := e'.cel i p c q
    refine ⟨l, h1, h2, h3, ?_⟩
    cases p with
    | true => exact h4
    | false =>
      have h4 : F.H l = none := h4
      show upd F.H D (.lst acc) l = none
      have ne : l ≠ D := fun z => by
        obtain ⟨l', k1, k2, _⟩ := e.cel i false c q
        rw [h1] at k1
        cases k1
        obtain ⟨o, ho⟩ := k2.some
        rw [z, n] at ho
        cases ho
      rw [upd_ne ne]
      exact h4
theorem EnvG.subAt (e : EnvG A (F.sub D acc G) P σ G2 H2 ρ) (nC : D ∉ F.C) : H2 D = some (.lst acc) := e.fr D _ nC upd_same
theorem EnvG.subG (e : EnvG A (F.sub D acc G) P σ G2 H2 ρ) (g : G D = none) : G2 D = none := by
  cases q : G2 D with
  | none => rfl
  | some o =>
    rcases e.gn D o q with z | z
    · have z : G D = some o := z
      rw [g] at z
      cases z
    · have z : upd F.H D (.lst acc) D = none := z
      rw [upd_same] at z
      cases z
theorem EnvG.subRe (e : EnvG A (F.sub D acc G) P σ G2 H2 ρ) : EnvG A (F.sub D acc G2) P σ G2 H2 ρ :=
  ⟨e.fr, Same.refl G2, e.gh, fun a o q => .inl q, e.ca, e.len, e.val, e.cel, e.ap, e.pin, e.err⟩
theorem EnvG.subCel (e : EnvG A (F.sub D acc G) P σ G2 H2 ρ) (nC : D ∉ F.C) {i : Nat} {p : Bool} {c : Cell} (h : ρ[i]? = some (.cel p c)) : σ[i]? ≠ some (some (.ref D)) := fun z => by
  obtain ⟨l, h1, h2, h3, h4⟩ := e.cel i p c h
  rw [z] at h1
  cases h1
  cases p with
  | true => exact nC h4
  | false =>
    have h4 : upd F.H D (.lst acc) D = none := h4
    rw [upd_same] at h4
    cases h4
theorem EnvG.subPut (e : EnvG A (F.sub D acc G) P σ G2 H2 ρ) (g : G2 D = none) (nC : D ∉ F.C) : EnvG A (F.sub D acc' G2) P σ G2 (upd H2 D (.lst acc')) ρ where
  fr := fun a o hc q => by
    by_cases h : a = D
    · subst h
      have q : upd F.H a (.lst acc') a = some o := q
      rw [upd_same] at q ⊢
      exact q
    · have q : upd F.H D (.lst acc') a = some o := q
      rw [upd_ne h] at q ⊢
      exact e.fr a o hc (by show upd F.H D (.lst acc) a = some o; rw [upd_ne h]; exact q)
  gg := Same.refl G2
  gh := fun a o q => by
    have ne : a ≠ D := fun z => by
      rw [z, g] at q
      cases q
    rw [upd_ne ne]
    exact e.gh a o q
  gn := fun a o q => .inl q
  ca := fun a hc => by
    by_cases h : a = D
    · rw [h, upd_same]
      simp
    · rw [upd_ne h]
      exact e.ca a hc
  len := e.len
  val := e.val
  cel := fun i p c q => by
    obtain ⟨l, h1, h2, h3, h4⟩ := e.cel i p c q
    have ne : l ≠ D := fun z => e.subCel nC q (z ▸ h1)
    refine ⟨l, h1, h2.mono (Same.refl G2) (upd_ne ne), h3, ?_⟩
    cases p with
    | true => exact h4
    | false =>
      have h4 : upd F.H D (.lst acc) l = none := h4
      show upd F.H D (.lst acc') l = none
      rw [upd_ne ne] at h4 ⊢
      exact h4
  ap := e.ap
  pin := e.pin
  err := e.err
theorem EnvG.subOut (e : EnvG A (F.sub D acc G) P σ G2 H2 ρ) (nF : F.H D = none) (sg : Same F.G G) (gn : ∀ a o, G a = some o → F.G a = some o ∨ F.H a = none) : EnvG A F P σ G2 H2 ρ where
  fr := fun a o hc q => by
    have ne : a ≠ D := fun z => by
      rw [z, nF] at q
      cases q
    exact e.fr a o hc (by show upd F.H D (.lst acc) a = some o; rw [upd_ne ne]; exact q)
  gg := sg.trans e.gg
  gh := e.gh
  gn := fun a o q => by
    rcases e.gn a o q with z | z
    · exact gn a o z
    · refine .inr ?_
      by_cases h : a = D
      · rw [h]
        exact nF
      · have z : upd F.H D (.lst acc) a = none := z
        rw [upd_ne h] at z
        exact z
  ca := e.ca
  len := e.len
  val := e.val
  cel := fun i p c q => by
    obtain ⟨l, h1, h2, h3, h4⟩ := e.cel i p c q
    refine ⟨l, h1, h2, h3, ?_⟩
    cases p with
    | true => exact h4
    | false =>
      have h4 : upd F.H D (.lst acc) l = none := h4
      show F.H l = none
      by_cases h : l = D
      · rw [h]
        exact nF
      · rw [upd_ne h] at h4
        exact h4
  ap := e.ap
  pin := e.pin
  err := e.err
end
abbrev Yc.blk (Y : Yc) : Yc := ⟨fun _ _ _ _ => False, Y.er⟩
theorem lc_tail {A : Amb} {Y : Yc} {mi : M (List D)} {t : Tg} {g : TG} {tt : M Bool} {el : M Rf} {vs : List Nat} {σ : L2.St} {H : Hp} {Q : VK} (hg : CompTg A Y.blk vs t g) (h : tG A Y (relE A) (eComp mi t tt el vs) σ H Q) :
    tLc (tG A Y (relI A) mi) g (tG A Y.blk relB tt) (tG A Y.blk (relE A) el) vs σ H Q := by
  obtain ⟨F, P, G, ρ, r, er, e, hm, hp⟩ := h
  refine tG_bind (Re := relI A) er e hm hp fun G1 H1 ρ1 ds J s1 e1 ro hk => fun D nD => ?_
  by_cases hok : okSlots ρ1 vs = true
  · rw [if_pos hok] at hk
    cases hcl : compL t tt el vs ds (wipeE ρ1 vs) with
    | none =>
      rw [hcl] at hk
      cases hk
    | some res =>
      obtain ⟨es, ρe⟩ := res
      rw [hcl] at hk
      simp only at hk
      by_cases hz : es.length ≤ sizeLine
      · rw [if_pos hz] at hk
        cases hk
        have nC : D ∉ F.C := fun z => e1.ca D z nD
        have nF : F.H D = none := e1.free nD
        have nG : G1 D = none := e1.freeG nD
        refine ⟨fun i m H' => m = ds.length - i ∧ i ≤ ds.length ∧ ∃ G' ρi acc as rest, Same G1 G' ∧ G' D = none ∧ (∀ a o, G' a = some o → F.G a = some o ∨ F.H a = none) ∧ EnvG A (F.sub D acc G') P (L2.wipe σ vs) G' H' ρi ∧ Ims A G' acc as ∧
          compL t tt el vs (ds.drop i) ρi = some (rest, ρe) ∧ as ++ rest = es ∧ (∀ (i : Nat) s, ρi[i]? = some s → s ≠ .no → i ∉ vs),
          ⟨ds.length, by simp, Nat.zero_le _, G1, wipeE ρ1 vs, [], [], es, Same.refl G1, nG, e1.gn, (e1.wipe hok).subIn nD, .nil, hcl, rfl, no_of_wipe⟩, ?_⟩
        rintro i m H2 ⟨rfl, hi, G2, ρ2, acc, as, rest, s2, g2, gn2, e2, ia, hc, hes, hno⟩
        have sg2 : Same F.G G2 := e1.gg.trans s2
        by_cases hlt : i < ds.length
        · have hd : ds[i]? = some ds[i] := by simp [hlt]
          have hdrop : ds.drop i = ds[i] :: ds.drop (i + 1) := List.drop_eq_getElem_cons hlt
          rw [hdrop] at hc
          unfold compL at hc
          refine .inr ⟨ro.go i H2 (s2.trans e2.gh) hlt, fun H' => i + 1 ≤ ds.length ∧ ∃ G' ρi acc as rest, Same G1 G' ∧ G' D = none ∧ (∀ a o, G' a = some o → F.G a = some o ∨ F.H a = none) ∧ EnvG A (F.sub D acc G') P (L2.wipe σ vs) G' H' ρi ∧ Ims A G' acc as ∧
            compL t tt el vs (ds.drop (i + 1)) ρi = some (rest, ρe) ∧ as ++ rest = es ∧ (∀ (i : Nat) s, ρi[i]? = some s → s ≠ .no → i ∉ vs), fun H' h => ⟨ds.length - (i + 1), by omega, rfl, h.1, h.2⟩, fun x H3 y => ?_⟩
          obtain ⟨G3, s3, e3, im⟩ := ro.turn s2 e2 hd y
          cases q : t (.dat ds[i]) ρ2 with
          | none =>
            rw [q] at hc
            cases hc
          | some ρ3 =>
            rw [q] at hc
            simp only at hc
            refine hg (F.sub D acc G2) P _ G3 H3 ρ2 (.dat ds[i]) x ρ3 _ er e3 im q fun σ4 G4 H4 s4 e4 w4 => ⟨w4.trans (wipe_idem σ vs), ?_⟩
            have w4 := w4.trans (wipe_idem σ vs)
            cases qt : tt ρ3 with
            | none =>
              rw [qt] at hc
              cases hc
            | some rt =>
              rw [qt] at hc
              cases rt with
              | ex x ρ5 => cases hc
              | ok b ρ5 =>
                refine ⟨F.sub D acc G2, P, G4, ρ3, .ok b ρ5, er, e4, qt, fun b' G5 H5 s5 e5 hb => ?_⟩
                have hb : b' = b := hb
                subst hb
                -- the turn's end without an item
                have back : ∀ {G' H' ρ'}, EnvG A (F.sub D acc G2) P σ4 G' H' ρ' → okSlots ρ' vs = true → Same G2 G' ∧ G' D = none ∧ (∀ a o, G' a = some o → F.G a = some o ∨ F.H a = none) ∧ EnvG A (F.sub D acc G') P (L2.wipe σ vs) G' H' (wipeE ρ' vs) := fun {G' H' ρ'} e' ho => by
                  have w := e'.unwipe ho w4
                  exact ⟨e'.gg, e'.subG g2, (e'.subOut nF sg2 gn2).gn, w.subRe⟩
                cases b' with
                | false =>
                  dsimp only
                  rw [if_neg Bool.false_ne_true]
                  simp only at hc
                  by_cases ho : okSlots ρ5 vs = true
                  · rw [if_pos ho] at hc
                    obtain ⟨b1, b2, b3, b4⟩ := back e5 ho
                    exact ⟨hlt, G5, _, acc, as, rest, s2.trans b1, b2, b3, b4, ia.mono b1, hc, hes, no_of_wipe⟩
                  · rw [if_neg ho] at hc
                    cases hc
                | true =>
                  dsimp only
                  rw [if_pos rfl]
                  simp only at hc
                  cases qe : el ρ5 with
                  | none =>
                    rw [qe] at hc
                    cases hc
                  | some re =>
                    rw [qe] at hc
                    cases re with
                    | ex x ρ6 => cases hc
                    | ok x1 ρ6 =>
                      simp only at hc
                      refine ⟨F.sub D acc G2, P, G5, ρ5, .ok x1 ρ6, er, e5, qe, fun v G6 H6 s6 e6 ro6 => ?_⟩
                      obtain ⟨G7, s7, e7, so7⟩ := settle e6 ro6
                      cases qf : frz (stl x1) ρ6 with
                      | none =>
                        rw [qf] at hc
                        cases hc
                      | some rf =>
                        obtain ⟨d, ρ7, G8, rfl, s8, e8, im8⟩ := frz_ok e7 so7 qf
                        rw [qf] at hc
                        simp only at hc
                        by_cases ho : okSlots ρ7 vs = true
                        · rw [if_pos ho] at hc
                          cases hr : compL t tt el vs (ds.drop (i + 1)) (wipeE ρ7 vs) with
                          | none =>
                            rw [hr] at hc
                            cases hc
                          | some res =>
                            obtain ⟨rest2, ρf⟩ := res
                            rw [hr] at hc
                            cases hc
                            obtain ⟨b1, b2, b3, b4⟩ := back e8 ho
                            have hl : acc.length < sizeLine := by
                              have z : (as ++ d :: rest2).length ≤ sizeLine := by rw [hes]; exact hz
                              rw [List.length_append, List.length_cons, ← ia.length] at z
                              omega
                            refine ⟨acc, e8.subAt nC, hl, hlt, G8, _, acc ++ [v], as ++ [d], rest2, s2.trans b1, b2, b3, b4.subPut b2 nC, (ia.mono b1).append (.one im8), hr, by rw [← hes]; simp, no_of_wipe⟩
                        · rw [if_neg ho] at hc
                          cases hc
        · have ei : i = ds.length := by omega
          subst ei
          rw [List.drop_length] at hc
          cases hc
          refine .inl ⟨ro.stop H2 (s2.trans e2.gh), ?_⟩
          rw [List.append_nil] at hes
          subst hes
          have e9 := (e2.subOut nF sg2 gn2).outer hno
          refine hp (.ref D) G2 H2 (s1.trans s2) e9 ⟨D, acc, rfl, e2.subAt nC, g2, nF, ia, fun j p c z y => ?_⟩
          have hj := hno j _ z (by simp)
          exact e2.subCel nC z (by rw [wipe_get hj]; exact y)
      · rw [if_neg hz] at hk
        cases hk
  · rw [if_neg hok] at hk
    cases hk
end Z

set_option Elab.async false
set_option linter.all false
set_option maxRecDepth 100000
set_option maxHeartbeats 4000000
/-! ZI: comprehensions as expressions and stores; raise; try. -/
namespace Z
open PySem PySem.Spec PyProof.Rows L2
section
variable {X : Cx} {Y : Yc} {elt tg iter c : Expr} {ifs : List Expr} {scope : Scope} {own : List (Str × Nat)} {pos spos py : Pos} {mi : M (List D)} {t : Tg} {g : TG} {tt : M Bool} {el : M Rf}
def DTs (X : Cx) (Y : Yc) (ifs : List Expr) (m : M Bool) : Prop := PTs X ifs (tG (amb X) Y relB m)
theorem dts_nil : DTs X Y [] tTrue := ⟨fun pins s σ H Q I ⟨F, P, G, ρ, r, er, e, hm, hp⟩ => pts_nil.run pins s σ H Q I (by
  cases hm
  exact hp true G H (Same.refl G) e rfl)⟩
theorem dts_one (h : DT X Y c tt) : DTs X Y [c] tt := pts_one h
theorem de_comp (hc : X.calm = true) (hN : X.N.Nodup) (hi : DI X Y tg iter mi) (ok : BlkOk X.N X.env.scope scope own)
    (hg : ∀ (s : Shared) (H : Hp) (C : Addr) (cl : List (Str × Addr)) (fp : List Addr), PG (X.blk s H scope (compEnvC scope cl C X.env) fp) tg g) (hcg : CompTg (amb X) Y.blk (own.map (·.2)) t g)
    (ht : ∀ (s : Shared) (H : Hp) (C : Addr) (cl : List (Str × Addr)) (fp : List Addr), DTs (X.blk s H scope (compEnvC scope cl C X.env) fp) Y.blk ifs tt)
    (he : ∀ (s : Shared) (H : Hp) (C : Addr) (cl : List (Str × Addr)) (fp : List Addr), DE (X.blk s H scope (compEnvC scope cl C X.env) fp) Y.blk elt el) (hs : ∀ x, foldedSetIterable iter X.env x = pure x := by intro _; rfl) :
    DE X Y (.ListComp elt [⟨tg, iter, ifs, 0⟩] scope pos) (eComp mi t tt el (own.map (·.2))) := PE.weak (pe_lc (tt := tG (amb X) Y.blk relB tt) (te := tG (amb X) Y.blk (relE (amb X)) el) hc hN hi ok hg (fun s H C cl fp => (ht s H C cl fp : PTs _ _ _)) (fun s H C cl fp => (he s H C cl fp : PE _ _ _)) hs) fun _ _ _ h => lc_tail hcg h
theorem ds_setComp {i : Nat} {y : Str} (hc : X.calm = true) (hN : X.N.Nodup) (hy : X.N[i]? = some y) (hyl : X.env.scope.names.lookup y = some .local) (hsw : swapsWith (.ListComp elt [⟨tg, iter, ifs, 0⟩] scope pos) (some (.Name y py)) spos.line X.env = pure true)
    (hi : DI X Y tg iter mi) (ok : BlkOk X.N X.env.scope scope own)
    (hg : ∀ (s : Shared) (H : Hp) (C : Addr) (cl : List (Str × Addr)) (fp : List Addr), PG (X.blk s H scope (compEnvC scope cl C X.env) fp) tg g) (hcg : CompTg (amb X) Y.blk (own.map (·.2)) t g)
    (ht : ∀ (s : Shared) (H : Hp) (C : Addr) (cl : List (Str × Addr)) (fp : List Addr), DTs (X.blk s H scope (compEnvC scope cl C X.env) fp) Y.blk ifs tt)
    (he : ∀ (s : Shared) (H : Hp) (C : Addr) (cl : List (Str × Addr)) (fp : List Addr), DE (X.blk s H scope (compEnvC scope cl C X.env) fp) Y.blk elt el) (hs : ∀ x, foldedSetIterable iter X.env x = pure x := by intro _; rfl) :
    DS X Y (.Assign [.Name y py] (.ListComp elt [⟨tg, iter, ifs, 0⟩] scope pos) spos) (sAsg (eComp mi t tt el (own.map (·.2))) (tgName i)) :=
  PS.weak (ps_setLc (tt := tG (amb X) Y.blk relB tt) (te := tG (amb X) Y.blk (relE (amb X)) el) hc hN hy hyl hsw hi ok hg (fun s H C cl fp => (ht s H C cl fp : PTs _ _ _)) (fun s H C cl fp => (he s H C cl fp : PE _ _ _)) hs) fun D σ H h => lc_tail hcg (asg_tail (g := gName i) (fun v σ H Q ⟨F, P, G, ρ, x, ρ', er, e, ro, hm, hQ⟩ => by
    obtain ⟨G', s, e'⟩ := tgName_ok e ro hm
    exact hQ _ G' H e') h)
end

/-! raise C(e), C an own class whose __init__ stores its one argument -/
def spI (K : PySem.W.Frag) (f : Str) : Sp := fun vs H Q _ => ∃ (a C : Addr) (y : V), vs = [.ref a, y] ∧ OexC K C ∧ PySem.W.findIn K (.ref C) f = some none ∧ H a = some (exo a C none) ∧ ∀ d, H d = none → d ≠ a → Q .non (upd (upd H d (exd d [(f, y)])) a (exo a C (some d)))
def spI2 (K : PySem.W.Frag) (f g : Str) : Sp := fun vs H Q _ => ∃ (a C : Addr) (y z : V), vs = [.ref a, y, z] ∧ OexC K C ∧ PySem.W.findIn K (.ref C) f = some none ∧ PySem.W.findIn K (.ref C) g = some none ∧ H a = some (exo a C none) ∧
  ∀ d, H d = none → d ≠ a → Q .non (upd (upd (upd H d (exd d [(f, y)])) a (exo a C (some d))) d (exd d [(g, z), (f, y)]))
section
variable {P : Program} {w : World} {K : PySem.W.Frag} {mg : Str → Option Value} {base : Heap}
/-- its __init__ keeps the promise -/
theorem ok_init1 {f : Addr} {fd : FuncData} {st : Stmt} {qual s1 s2 : Str} {p1 p2 p3 p4 : Pos} {fl : Str} (F : Fun K "__init__" qual st f fd) (S : FnScope [s1, s2] [s1, s2] (defScope st)) (hb : defBody st = [.Assign [.Attribute (.Name s1 p1) fl p2] (.Name s2 p3) p4])
    (h1 : (defScope st).names.lookup s1 = some .local) (h2 : (defScope st).names.lookup s2 = some .local) (d1 : (s1 == ("__debug__" : Str)) = false) (d2 : (s2 == ("__debug__" : Str)) = false) (c1 : (s1 == ("__classdict__" : Str)) = false) (c2 : (s2 == ("__classdict__" : Str)) = false) :
    FnOk P w K mg base L2.CX0 1 f fd [s1, s2] (spI K fl) := by
  refine F.ok S (fun vs H Q E h => ?_) (fun cdv A outer s H vs Q E hr h => ?_)
  · obtain ⟨a, C, y, rfl, _⟩ := h
    rfl
  · obtain ⟨a, C, y, rfl, T, hn, ha, k⟩ := h
    rw [hb]
    refine ⟨_, pss_one (ps_ost (pe_var (i := 0) rfl (.inl h1) d1 c1) (pe_var (i := 1) rfl (.inl h2) d2 c2) rfl), ?_⟩
    exact ⟨_, rfl, _, rfl, a, C, rfl, T, hn, .inl ⟨ha, fun d n ne => k d n ne⟩⟩
end
def sRaise (c : Str) (ns : List Str) (ms : M (List Rf)) : S := liftS ms fun xs => liftS (frzs xs) fun ds ρ => if ds.length = ns.length then some (.ex ⟨c, ns, ds⟩ ρ) else none
theorem liftS_frzs {A : Amb} {F : Fx} {P : List (Nat × Addr)} {σ : L2.St} {G H : Hp} {ρ : E} {vs : List V} {xs : List Rf} {k : List D → S} {o : O} (e : EnvG A F P σ G H ρ) (h : SOks A σ G vs xs) (hm : liftS (frzs xs) k ρ = some o) :
    ∃ ds ρ' G', k ds ρ' = some o ∧ Same G G' ∧ EnvG A F P σ G' H ρ' ∧ Ims A G' vs ds := by
  cases q : frzs xs ρ with
  | none =>
    rw [liftS_none q] at hm
    cases hm
  | some r =>
    obtain ⟨ds, ρ', G', rfl, s, e', im⟩ := frzs_ok e h q
    rw [liftS_ok q] at hm
    exact ⟨ds, ρ', G', hm, s, e', im⟩
section
variable {X : Cx} {Y : Yc} {x : Str} {p pos pos2 : Pos} {a : Expr} {ms : M (List Rf)}
theorem ds_raise1 {C fI : Addr} {k : Nat} {fd : FuncData} {ps : List Str} {f : Str} (hc : X.calm = true) (T : OexC X.K C) (hno : PySem.W.findIn X.K (.ref C) f = some none) (iC : PySem.W.findIn X.K (.ref C) "__init__" = some (some (.ref fI))) (tI : PySem.W.typeIn X.K (.ref fI) = some (.type "function"))
    (F1 : FnOk X.prog X.w X.K X.mg X.base L2.CX0 k fI fd ps (spI X.K f)) (hr : Room (k + 1) X.A) (hb : Binds X.K fd ps []) (hm : X.mg x = some (.ref C)) (tk : Takes X Y.W) (ha : DA X Y [a] ms) (hg : Gl X x := by rfl)
    (hdb : (x == ("__debug__" : Str)) = false := by decide) (he : starEach (a :: []) X.env = (false, eval a X.env) :: starEach [] X.env := by rfl) (hpl : (backTo pos (starEach [] X.env)).any (·.1) = false := by rfl) :
    DS X Y (.Raise (some (.Call (.Name x p) [a] [] pos)) none pos2) (sRaise x [f] ms) :=
  PS.weak (ps_raise hc tk (pmk_oex (dvs := []) T iC tI F1 hr hb .nil pass0 hg hm ha hdb he hpl)) fun D σ H ⟨F, P, G, ρ, o, er, e, hm0, hp⟩ => tS_bind (Re := relA (amb X)) er e hm0 hp fun G1 H1 ρ1 xs vs s1 e1 so hk => by
    obtain ⟨ds, ρ2, G2, hk2, s2, e2, im⟩ := liftS_frzs e1 so hk
    by_cases hl : ds.length = [f].length
    · rw [if_pos hl] at hk2
      cases hk2
      match ds, hl with
      | [d0], _ =>
      cases im with
      | @cons v d vs ds i1 i2 =>
      cases i2
      refine ⟨by simp, fun a0 n0 => ⟨a0, C, v, rfl, T, hno, upd_same, fun dx nd ne => ⟨rfl, dx, [(f, v)], upd_same, ?_, ?_, ?_⟩⟩⟩
      · rw [upd_ne ne, upd_same]
      · rw [upd_ne ne] at nd
        exact nd
      · rw [upd_ne ne] at nd
        have eq : upd (del (upd (upd (upd H1 a0 (exo a0 C none)) dx (exd dx [(f, v)])) a0 (exo a0 C (some dx))) a0) dx (.xd [(f, v)]) = upd H1 dx (.xd [(f, v)]) := by
          funext b
          by_cases h : b = dx
          · rw [h, upd_same, upd_same]
          · rw [upd_ne h, upd_ne h]
            unfold del
            by_cases h2 : b = a0
            · rw [if_pos h2, h2, n0]
            · rw [if_neg h2, upd_ne h2, upd_ne h, upd_ne h2]
        rw [eq]
        obtain ⟨e3, s3⟩ := e2.new (o := .xd [(f, v)]) nd
        exact hp (.ref C) (some dx) σ _ _ e3 ⟨C, hm, rfl, .inr ⟨dx, [(f, v)], rfl, upd_same, rfl, .cons (i1.mono s3) .nil⟩⟩
    · rw [if_neg hl] at hk2
      cases hk2
end
end Z

set_option Elab.async false
set_option linter.all false
set_option maxRecDepth 100000
set_option maxHeartbeats 4000000
/-! ZJ: try with clauses of both kinds; the caught one's fields. -/
namespace Z
open PySem PySem.Spec PyProof.Rows L2

abbrev offE (D : Ends) (i : Nat) : Ends := ⟨fun t h => D.nx (t.set i none) h, D.rt, fun t h => D.bk (t.set i none) h, fun t h => D.ct (t.set i none) h⟩
abbrev Hm := Value × Option Nat × (Addr → Value → Option Addr → TS)
def wMx (K : PySem.W.Frag) (Wo : WX) (D : Ends) : List Hm → WX
  | [] => Wo
  | (c, none, ts) :: r => fun cls d σ H =>
    ∃ b, PySem.W.exmOne K cls c = some b ∧ (b = true → ∀ x, H x = none → ts x cls d D σ H) ∧ (b = false → wMx K Wo D r cls d σ H)
  | (c, some i, ts) :: r => fun cls d σ H =>
    ∃ b, PySem.W.exmOne K cls c = some b ∧ (b = true → ∀ x, H x = none → ts x cls d (offE D i) (σ.set i (some (.ref x))) H) ∧ (b = false → wMx K Wo D r cls d σ H)
abbrev SuOk (X : Cx) (su : List Stmt) (ts : Addr → Value → Option Addr → TS) : Prop :=
  ∀ (x : Addr) (ox : Obj) (cls : Value) (d : Option Addr) (pn : List (Addr × Obj)), Zc cls d ox → (∃ vs, ox.data = .fields vs) → PSs (X.suite x ((x, ox) :: pn)) su (ts x cls d)
inductive HdMx (X : Cx) : List ExceptHandler → List Hm → Prop
  | nil : HdMx X [] []
  | plain {x : Str} {c : Value} {ts : Addr → Value → Option Addr → TS} {s0 : Stmt} {su : List Stmt} {p q : Pos} {hs : List ExceptHandler} {l : List Hm} (hc : Names X x c) (hsu : SuOk X (s0 :: su) ts) (r : HdMx X hs l) :
      HdMx X (.ExceptHandler (some (.Name x p)) none (s0 :: su) q :: hs) ((c, none, ts) :: l)
  | named {x n : Str} {i : Nat} {c : Value} {ts : Addr → Value → Option Addr → TS} {s0 : Stmt} {su : List Stmt} {p q : Pos} {hs : List ExceptHandler} {l : List Hm} (hc : Names X x c) (hi : X.N[i]? = some n) (hl : X.env.kindOf n = some .local) (hsu : SuOk X (s0 :: su) ts)
      (r : HdMx X hs l) : HdMx X (.ExceptHandler (some (.Name x p)) (some n) (s0 :: su) q :: hs) ((c, some i, ts) :: l)
section
variable {X : Cx} {bd : List Stmt} {k0 : ExceptHandler} {ks : List ExceptHandler} {l : List Hm} {pos : Pos} {tb : WX → TS} {Wo : WX}
theorem ps_tryMx (stk : X.stack = X.env :: X.outer) (hfr : X.env.frame = some X.env.locals) (nd : X.N.Nodup) (tk : Takes X Wo)
    (hb : ∀ (W : WX) (pn : List (Addr × Obj)) (xe : Value → Shared → Prop), Takes (X.tr pn xe) W → PassesOwn (model X.prog X.w) X.A X.env xe → PSs (X.tr pn xe) bd (tb W)) (hh : HdMx X (k0 :: ks) l) :
    PS X (.Try bd (k0 :: ks) [] [] pos) (fun D σ H => tb (wMx X.K Wo D l) D σ H) := by
  refine ⟨fun pins s σ H D I goal => ?_⟩
  have ok := I.ok
  have frs_ : X.A.frames = some (X.env :: X.outer) := by rw [ok.frames, stk]
  apply wpAny_Try_except
  refine wpAny_mono ((hb (wMx X.K Wo D l) (X.pn ++ pins) (fun u t1 => wpAny (model X.prog X.w) X.A (noteFrame u X.env)
      (fun _ t2 => wpAny (model X.prog X.w) X.A (setFlight u none)
        (fun _ t3 => wpAny (model X.prog X.w) X.A (handleBy u X.env (k0 :: ks)) (SP X pins D) X.xe t3) X.xe t2) X.xe t1)
    (fun u t' caught => ?_) PassesOwn.looking).run [] s σ H D (I.toTry _) goal) (fun f t1 ended => ?_) (fun _ _ z => z)
  · obtain ⟨x, B, sI, pins', σ', H', cls, d, rfl, J0, nb, up, sky, nx, os, ag, wish⟩ := caught
    have J : Inv X pins σ' H' sI := J0.ofTry ok
    have sky2 : Sky B (X.env :: X.outer) x (Zc cls d) X.env.locals t'.heap := by
      rw [← stk]
      exact sky
    show wpAny (model X.prog X.w) X.A (noteFrame (.ref x) X.env) _ _ _
    refine Sky.land Zc.steady frs_ hfr sky2 fun g3 fly up3 => ?_
    have J3 : Inv X pins σ' H' { t' with heap := g3 } := J.landed nb fly.1 (up.trans up3) os ag
    obtain ⟨ox, vs, hox, hz, hdat⟩ := fly.there
    have out : ∀ {g : Heap} {o : Obj} {us : Array Value}, g.FunFrames B (X.env :: X.outer) → g.get? x = some o → o.data = .fields us → x ∉ frs (X.env :: X.outer) := by
      intro g o us ff e1 e2 m
      obtain ⟨_, o2, e3, nf⟩ := ff.mem m
      rw [e1] at e3
      cases e3
      exact nf _ e2
    have nfr := out fly.2.2.1 hox hdat
    have nL : x ≠ X.env.locals := fun z => nfr (List.mem_filterMap.mpr ⟨X.env, .head _, by rw [hfr, z]⟩)
    have nF : x ∉ X.fs := fun m => by
      obtain ⟨e, he, q⟩ := List.mem_filterMap.mp m
      exact nfr (List.mem_filterMap.mpr ⟨e, .tail _ he, q⟩)
    have S3 := J3.suite hox hdat nx nL nF
    have test : ∀ {y : Str} {c : Value} {p : Pos} {Q : Value → Shared → Prop} {U : Value → Shared → Prop}, Names X y c → Q c { t' with heap := g3 } → wpAny (model X.prog X.w) (X.A.mark (some (.ref x))) (eval (.Name y p) X.env) Q U { t' with heap := g3 } := by
      rintro y c p Q U ⟨gl, nd, m | ⟨m, bt, nn⟩⟩ hq
      · exact ld_glob (X := X.suite x ((x, ox) :: (X.pn ++ pins))) S3 gl m hq nd
      · exact ld_blt (X := X.suite x ((x, ox) :: (X.pn ++ pins))) S3 gl m bt hq nn nd
    have LT : PySem.W.Looks (model X.prog X.w) g3 (typeOf (.ref x)) cls := fun _ _ _ _ k q => wpAny_typeOf_ref (k _ _ hox) (by rw [hz.1]; exact q)
    have go : ∀ {ks' : List ExceptHandler} {l' : List Hm}, HdMx X ks' l' → wMx X.K Wo D l' cls d σ' H' →
        wpAny (model X.prog X.w) X.A (handleBy (.ref x) X.env ks') (SP X pins D) X.xe { t' with heap := g3 } := by
      intro ks' l' hk
      induction hk with
      | nil =>
        intro w
        apply wpAny_handleBy_nil
        obtain ⟨k1, k2, k3, oe, us, T, oT, ts', he, hz1, hd1, h1, hr⟩ := id fly
        unfold PySem.passOn
        refine wpAny_bind (wpAny_field he hd1 h1 ?_)
        rw [if_neg (show ¬ ((Value.ref T == Value.none) = true) by simp)]
        have fin : wpAny (model X.prog X.w) X.A (setFlight (.ref x) X.env.frame) (fun _ t4 => wpAny (model X.prog X.w) X.A (throw (.ref x) : Sem Flow)
            (SP X pins D) X.xe t4) X.xe { t' with heap := g3 } := by
          rw [hfr]
          refine HandSPX.setFlight_upZ fly fun g4 hh4 up4 => wpAny_throw (tk _ _ ?_)
          exact ⟨x, B, sI, pins, σ', H', cls, d, rfl, J, nb, (up.trans up3).trans up4, .inr (.inr (by rw [stk]; exact hh4)), nx, os, ag, w⟩
        first
          | exact wpAny_bind (wpAny_pure (wpAny_bind fin))
          | exact wpAny_bind fin
      | @plain y c ts s0 su p q hs2 l2 hc hsu r ih =>
        rintro ⟨b, hb1, yes, no⟩
        refine wpAny_handleBy_cons (codeAny_handlers_test ?_) (by intro q; cases q)
        refine test hc ((PySem.W.exm_one (M := model X.prog X.w) J3.kIn LT hb1).here ?_)
        cases b with
        | false =>
          show wpAny _ X.A (handleBy (.ref x) X.env hs2) _ _ _
          exact ih (no rfl)
        | true =>
          apply codeAny_handlers_suite
          refine HandSPX.lands_againZ fly fun g4 fly4 up4 => ?_
          have J4 : Inv X pins σ' H' { t' with heap := g4 } := J.landed nb fly4.1 ((up.trans up3).trans up4) os ag
          obtain ⟨o4, us4, e4, z4, d4⟩ := fly4.there
          refine wpAny_mono ((hsu x o4 cls d (X.pn ++ pins) z4 ⟨_, d4⟩).run [] _ _ H' _ (J4.suite e4 d4 nx nL nF) (yes rfl x nx)) (fun f t6 sp => ?_) (fun _ _ z => z.elim)
          cases f with
          | ret u =>
            obtain ⟨v6, σ6, H6, S6, r6, q6⟩ := sp
            exact ⟨v6, σ6, H6, S6.unsuite ok, r6, q6⟩
          | next =>
            obtain ⟨σ6, H6, S6, q6⟩ := sp
            exact ⟨σ6, H6, S6.unsuite ok, q6⟩
          | brk =>
            obtain ⟨σ6, H6, S6, q6⟩ := sp
            exact ⟨σ6, H6, S6.unsuite ok, q6⟩
          | cont =>
            obtain ⟨σ6, H6, S6, q6⟩ := sp
            exact ⟨σ6, H6, S6.unsuite ok, q6⟩
      | @named y n i c ts s0 su p q hs2 l2 hc hi hl hsu r ih =>
        rintro ⟨b, hb1, yes, no⟩
        refine wpAny_handleBy_cons (codeAny_handlers_test ?_) (by intro q; cases q)
        refine test hc ((PySem.W.exm_one (M := model X.prog X.w) J3.kIn LT hb1).here ?_)
        cases b with
        | false =>
          show wpAny _ X.A (handleBy (.ref x) X.env hs2) _ _ _
          exact ih (no rfl)
        | true =>
          apply codeAny_handlers_suite_as
          refine HandSPX.lands_againZ fly fun g4 fly4 up4 => ?_
          have J4 : Inv X pins σ' H' { t' with heap := g4 } := J.landed nb fly4.1 ((up.trans up3).trans up4) os ag
          obtain ⟨o4, us4, e4, z4, d4⟩ := fly4.there
          refine store_ok (X := X.suite x ((x, o4) :: (X.pn ++ pins))) (v := .ref x) (J4.suite e4 d4 nx nL nF) nd hi (.inl hl) rfl (fun t5 S5 => ?_) (.inr hl)
          refine wpAny_mono ((hsu x o4 cls d (X.pn ++ pins) z4 ⟨_, d4⟩).run [] t5 _ H' _ S5 (yes rfl x nx)) (fun f t6 sp => ?_) (fun _ _ z => z.elim)
          have over : ∀ {σ6 : L2.St} {H6 : Hp} {Q : Shared → Prop}, Inv (X.suite x ((x, o4) :: (X.pn ++ pins))) [] σ6 H6 t6 → (∀ t7, Inv X pins (σ6.set i none) H6 t7 → Q t7) →
              wpAny (model X.prog X.w) X.A (do bindName X.env n .none; unbindBehindTheSuite X.env n q) (fun _ t7 => Q t7) X.xe t6 := fun S6 hq => gone_ok (S6.unsuite ok) nd hi hl hq
          cases f with
          | ret u =>
            obtain ⟨v6, σ6, H6, S6, r6, q6⟩ := sp
            exact over S6 fun _ J7 => ⟨v6, _, H6, J7, r6, q6⟩
          | next =>
            obtain ⟨σ6, H6, S6, q6⟩ := sp
            exact over S6 fun _ J7 => ⟨_, H6, J7, q6⟩
          | brk =>
            obtain ⟨σ6, H6, S6, q6⟩ := sp
            exact over S6 fun _ J7 => ⟨_, H6, J7, q6⟩
          | cont =>
            obtain ⟨σ6, H6, S6, q6⟩ := sp
            exact over S6 fun _ J7 => ⟨_, H6, J7, q6⟩
    exact go hh wish
  · cases f with
    | ret u =>
      obtain ⟨v, σ', H', J', r, q⟩ := ended
      exact ⟨v, σ', H', J'.ofTry ok, r, q⟩
    | next =>
      obtain ⟨σ', H', J', q⟩ := ended
      exact wpAny_execs_nil ⟨σ', H', J'.ofTry ok, q⟩
    | brk =>
      obtain ⟨σ', H', J', q⟩ := ended
      exact ⟨σ', H', J'.ofTry ok, q⟩
    | cont =>
      obtain ⟨σ', H', J', q⟩ := ended
      exact ⟨σ', H', J'.ofTry ok, q⟩
end
end Z

set_option Elab.async false
set_option linter.all false
set_option maxRecDepth 100000
set_option maxHeartbeats 4000000
/-! ZK: the mirror of try. -/
namespace Z
open PySem PySem.Spec PyProof.Rows L2
section
variable {A : Amb} {F : Fx} {P : List (Nat × Addr)} {σ : L2.St} {G H : Hp} {ρ : E}
def noErr (ρ : E) : Bool := ρ.all fun s => match s with
  | .err _ => false
  | _ => true
theorem noErr_at {i : Nat} {x : Ex} (h : noErr ρ = true) (q : ρ[i]? = some (.err x)) : False := by
  have := List.all_eq_true.mp h _ (List.mem_of_getElem? q)
  cases this
theorem EnvG.reEr {z : Option (Addr × Value × Option Addr)} (e : EnvG A F P σ G H ρ) (h : ∀ (i : Nat) x, ρ[i]? ≠ some (.err x)) : EnvG A ⟨F.H, F.G, F.C, z⟩ P σ G H ρ :=
  ⟨e.fr, e.gg, e.gh, e.gn, e.ca, e.len, e.val, e.cel, e.ap, e.pin, fun i x q => absurd q (h i x)⟩
theorem EnvG.calm (e : EnvG A F P σ G H ρ) (hn : F.er = none) (i : Nat) (x : Ex) : ρ[i]? ≠ some (.err x) := fun q => by
  obtain ⟨_, _, _, h, _⟩ := e.err i x q
  rw [hn] at h
  cases h
/-- the caught one comes to slot i -/
theorem EnvG.catch {i : Nat} {a : Addr} {cls : Value} {d : Option Addr} {x : Ex} (e : EnvG A F P σ G H ρ) (hn : F.er = none) (hP : ∀ l, (i, l) ∉ P) (hx : ExAt A G cls d x) :
    EnvG A ⟨F.H, F.G, F.C, some (a, cls, d)⟩ P (σ.set i (some (.ref a))) G H (ρ.set i (.err x)) := by
  have f := (e.forget hP (some (.ref a))).reEr (z := some (a, cls, d)) ((e.forget hP (some (.ref a))).calm hn)
  have at_ : ∀ {j : Nat} {s : Sl}, (ρ.set i (.err x))[j]? = some s → (i = j ∧ s = .err x ∧ i < ρ.length) ∨ (i ≠ j ∧ (ρ.set i .no)[j]? = some s) := fun {j s} q => by
    by_cases hj : i = j
    · subst hj
      rw [List.getElem?_set] at q
      by_cases hl : i < ρ.length
      · rw [if_pos rfl, if_pos hl] at q
        cases q
        exact .inl ⟨rfl, rfl, hl⟩
      · rw [if_pos rfl, if_neg hl] at q
        cases q
    · refine .inr ⟨hj, ?_⟩
      rw [List.getElem?_set_ne hj] at q ⊢
      exact q
  refine ⟨f.fr, f.gg, f.gh, f.gn, f.ca, ?_, fun j d q => ?_, fun j p c q => ?_, fun j k p q c c' l h1 h2 h3 h4 => ?_, fun j l m => ?_, fun j y q => ?_⟩
  · rw [List.length_set, List.length_set]
    exact e.len
  · rcases at_ q with ⟨_, z, _⟩ | ⟨_, z⟩
    · cases z
    · exact f.val j d z
  · rcases at_ q with ⟨_, z, _⟩ | ⟨_, z⟩
    · cases z
    · exact f.cel j p c z
  · rcases at_ h1 with ⟨_, z, _⟩ | ⟨_, z1⟩
    · cases z
    · rcases at_ h2 with ⟨_, z, _⟩ | ⟨_, z2⟩
      · cases z
      · exact f.ap j k p q c c' l z1 z2 h3 h4
  · have hj : i ≠ j := fun z => hP l (z ▸ m)
    obtain ⟨h1, c, h2⟩ := f.pin j l m
    refine ⟨h1, c, ?_⟩
    rw [List.getElem?_set_ne hj] at h2 ⊢
    exact h2
  · rcases at_ q with ⟨hj, z, hl⟩ | ⟨_, z⟩
    · subst hj
      cases z
      refine ⟨a, cls, d, rfl, ?_, hx⟩
      rw [List.getElem?_set_self (e.len ▸ hl)]
    · exact f.err j y z
/-- .. and goes -/
theorem EnvG.uncatch {z : Option (Addr × Value × Option Addr)} (e : EnvG A ⟨F.H, F.G, F.C, z⟩ P σ G H ρ) (hn : F.er = none) (h : noErr ρ = true) : EnvG A F P σ G H ρ := by
  have f := e.reEr (z := none) fun i x q => noErr_at h q
  obtain ⟨fH, fG, fC, fe⟩ := F
  have hn : fe = none := hn
  subst hn
  exact f
end

abbrev Hz := List (Str × Bool) × Option Nat × S
def notCel (i : Nat) : Rf → Bool
  | .cel j => j != i
  | _ => true
/-- behind a named suite -/
def offO (i : Nat) : Option O → Option O
  | some (.nx ρ) => if okSlot ρ i = true ∧ noErr (ρ.set i .no) = true then some (.nx (ρ.set i .no)) else none
  | some (.bk ρ) => if okSlot ρ i = true ∧ noErr (ρ.set i .no) = true then some (.bk (ρ.set i .no)) else none
  | some (.ct ρ) => if okSlot ρ i = true ∧ noErr (ρ.set i .no) = true then some (.ct (ρ.set i .no)) else none
  | some (.rt x ρ) => if okSlot ρ i = true ∧ noErr (ρ.set i .no) = true ∧ notCel i x = true then some (.rt x (ρ.set i .no)) else none
  | _ => none
def offP : Option O → Option O
  | some (.ex _ _) => none
  | o => o
def hGo : List Hz → Ex → E → Option O
  | [], x, ρ => some (.ex x ρ)
  | (t, i, s) :: r, x, ρ => match t.lookup x.c with
    | none => none
    | some false => hGo r x ρ
    | some true => match i with
      | none => offP (s ρ)
      | some i => if okSlot ρ i = true then offO i (s (ρ.set i (.err x))) else none
def sTry (b : S) (hs : List Hz) : S := fun ρ => match b ρ with
  | some (.ex x ρ') => hGo hs x ρ'
  | o => o
/-- the table of names tells which classes the clause catches -/
def Tbl (K : PySem.W.Frag) (mg : Str → Option Value) (c : Value) (t : List (Str × Bool)) : Prop := ∀ p ∈ t, ∃ C, mg p.1 = some (.ref C) ∧ PySem.W.exmOne K (.ref C) c = some p.2
theorem Tbl.at_ {K : PySem.W.Frag} {mg : Str → Option Value} {c : Value} {t : List (Str × Bool)} (h : Tbl K mg c t) {n : Str} {b : Bool} {C : Addr} (q : t.lookup n = some b) (m : mg n = some (.ref C)) : PySem.W.exmOne K (.ref C) c = some b := by
  induction t with
  | nil => cases q
  | cons p t ih =>
    obtain ⟨k, v⟩ := p
    rw [List.lookup_cons] at q
    by_cases hk : (n == k) = true
    · rw [hk] at q
      cases q
      obtain ⟨C', m', e⟩ := h _ (.head _)
      have : n = k := eq_of_beq hk
      subst this
      rw [m] at m'
      cases m'
      exact e
    · rw [Bool.not_eq_true] at hk
      rw [hk] at q
      exact ih (fun p hp => h p (.tail _ hp)) q
theorem tbl_nil {K : PySem.W.Frag} {mg : Str → Option Value} {c : Value} : Tbl K mg c [] := fun _ h => by cases h
theorem tbl_cons {K : PySem.W.Frag} {mg : Str → Option Value} {c : Value} {n : Str} {b : Bool} {C : Addr} {t : List (Str × Bool)} (m : mg n = some (.ref C)) (e : PySem.W.exmOne K (.ref C) c = some b) (r : Tbl K mg c t) : Tbl K mg c ((n, b) :: t) := fun p hp => by
  rcases List.mem_cons.mp hp with z | z
  · subst z
    exact ⟨C, m, e⟩
  · exact r p z
abbrev Y0 : Yc := ⟨fun _ _ _ _ => False, none⟩
abbrev Ye (a : Addr) (cls : Value) (d : Option Addr) : Yc := ⟨fun _ _ _ _ => False, some (a, cls, d)⟩
def toHm (A : Amb) : Value × Hz → Hm
  | (c, _, none, s) => (c, none, fun _ _ _ => tS A Y0 s)
  | (c, _, some i, s) => (c, some i, fun a cls d => tS A (Ye a cls d) s)
inductive DH (X : Cx) : List ExceptHandler → List (Value × Hz) → Prop
  | nil : DH X [] []
  | plain {x : Str} {c : Value} {t : List (Str × Bool)} {m : S} {s0 : Stmt} {su : List Stmt} {p q : Pos} {hs : List ExceptHandler} {l : List (Value × Hz)} (hc : Names X x c) (ht : Tbl X.K X.mg c t)
      (hsu : ∀ (a : Addr) (oe : Obj) (cls : Value) (d : Option Addr) (pn : List (Addr × Obj)), Zc cls d oe → (∃ vs, oe.data = .fields vs) → DSs (X.suite a ((a, oe) :: pn)) Y0 (s0 :: su) m) (r : DH X hs l) :
      DH X (.ExceptHandler (some (.Name x p)) none (s0 :: su) q :: hs) ((c, t, none, m) :: l)
  | named {x n : Str} {i : Nat} {c : Value} {t : List (Str × Bool)} {m : S} {s0 : Stmt} {su : List Stmt} {p q : Pos} {hs : List ExceptHandler} {l : List (Value × Hz)} (hc : Names X x c) (ht : Tbl X.K X.mg c t) (hi : X.N[i]? = some n) (hl : X.env.kindOf n = some .local)
      (hsu : ∀ (a : Addr) (oe : Obj) (cls : Value) (d : Option Addr) (pn : List (Addr × Obj)), Zc cls d oe → (∃ vs, oe.data = .fields vs) → DSs (X.suite a ((a, oe) :: pn)) (Ye a cls d) (s0 :: su) m) (r : DH X hs l) :
      DH X (.ExceptHandler (some (.Name x p)) (some n) (s0 :: su) q :: hs) ((c, t, some i, m) :: l)
section
variable {X : Cx} {Y : Yc} {bd : List Stmt} {k0 : ExceptHandler} {ks : List ExceptHandler} {l : List (Value × Hz)} {pos : Pos} {mb : S}
theorem DH.mx (h : DH X ks l) : HdMx X ks (l.map (toHm (amb X))) := by
  induction h with
  | nil => exact .nil
  | plain hc ht hsu r ih => exact .plain hc hsu ih
  | named hc ht hi hl hsu r ih => exact .named hc hi hl hsu ih
theorem off_tail {A : Amb} {F : Fx} {P : List (Nat × Addr)} {D : Ends} {i : Nat} {z : Option (Addr × Value × Option Addr)} {W : WX} {o1 o : O} (hn : F.er = none) (h : offO i (some o1) = some o) (hp : PostS A Y F P D o) : PostS A ⟨W, z⟩ ⟨F.H, F.G, F.C, z⟩ P (offE D i) o1 := by
  cases o1 with
  | nx ρ =>
    unfold offO at h
    by_cases c : okSlot ρ i = true ∧ noErr (ρ.set i .no) = true
    · simp only [if_pos c] at h
      cases h
      exact fun σ' G' H' e => hp _ G' H' ((e.forget (okSlot_pin e c.1) none).uncatch hn c.2)
    · simp only [if_neg c] at h
      cases h
  | bk ρ =>
    unfold offO at h
    by_cases c : okSlot ρ i = true ∧ noErr (ρ.set i .no) = true
    · simp only [if_pos c] at h
      cases h
      exact fun σ' G' H' e => hp _ G' H' ((e.forget (okSlot_pin e c.1) none).uncatch hn c.2)
    · simp only [if_neg c] at h
      cases h
  | ct ρ =>
    unfold offO at h
    by_cases c : okSlot ρ i = true ∧ noErr (ρ.set i .no) = true
    · simp only [if_pos c] at h
      cases h
      exact fun σ' G' H' e => hp _ G' H' ((e.forget (okSlot_pin e c.1) none).uncatch hn c.2)
    · simp only [if_neg c] at h
      cases h
  | ex x ρ => cases h
  | rt x ρ =>
    have go : okSlot ρ i = true → noErr (ρ.set i .no) = true → (∀ j, x = .cel j → j ≠ i) → o = .rt x (ρ.set i .no) → PostS A ⟨W, z⟩ ⟨F.H, F.G, F.C, z⟩ P (offE D i) (.rt x ρ) := fun c1 c2 c3 ho => by
      subst ho
      refine fun v σ' G' H' e ro => hp v _ G' H' ((e.forget (okSlot_pin e c1) none).uncatch hn c2) ?_
      cases x with
      | dat d => exact ro
      | cel j =>
        show (σ'.set i none)[j]? = some (some v)
        rw [List.getElem?_set_ne (Ne.symm (c3 j rfl))]
        exact ro
      | new ds =>
        obtain ⟨l, vs, q1, q2, q3, q4, q5, q6⟩ := ro
        refine ⟨l, vs, q1, q2, q3, q4, q5, fun j p c q z => ?_⟩
        by_cases hj : i = j
        · subst hj
          rw [List.getElem?_set] at q
          by_cases hl : i < ρ.length
          · rw [if_pos rfl, if_pos hl] at q
            cases q
          · rw [if_pos rfl, if_neg hl] at q
            cases q
        · rw [List.getElem?_set_ne hj] at q z
          exact q6 j p c q z
    unfold offO at h
    by_cases c : okSlot ρ i = true ∧ noErr (ρ.set i .no) = true ∧ notCel i x = true
    · simp only [if_pos c] at h
      cases h
      refine go c.1 c.2.1 (fun j z y => ?_) rfl
      have c3 := c.2.2
      subst z
      subst y
      unfold notCel at c3
      simp at c3
    · simp only [if_neg c] at h
      cases h
theorem go_tail {D : Ends} {F : Fx} {P : List (Nat × Addr)} {G H : Hp} {σ : L2.St} {ρ : E} {x : Ex} {o : O} {cls : Value} {d : Option Addr} (h : DH X ks l) (hn : F.er = none) (e : EnvG (amb X) F P σ G H ρ) (hx : ExAt (amb X) G cls d x) (hm : hGo (l.map (·.2)) x ρ = some o) (hp : PostS (amb X) Y F P D o) :
    wMx X.K Y.W D (l.map (toHm (amb X))) cls d σ H := by
  obtain ⟨C, h1, rfl, h3⟩ := id hx
  have h1 : X.mg x.c = some (.ref C) := h1
  induction h with
  | nil =>
    cases hm
    exact hp _ d σ G H e hx
  | @plain y c t m s0 su p q hs l hc ht hsu r ih =>
    rw [List.map_cons] at hm ⊢
    unfold hGo at hm
    cases ql : t.lookup x.c with
    | none =>
      simp only [ql] at hm
      cases hm
    | some b =>
      simp only [ql] at hm
      refine ⟨b, ht.at_ ql h1, fun hb a na => ?_, fun hb => ?_⟩
      · subst hb
        simp only at hm
        unfold offP at hm
        cases qm : m ρ with
        | none =>
          rw [qm] at hm
          cases hm
        | some o1 =>
          rw [qm] at hm
          refine ⟨F, P, G, ρ, o1, hn, e, qm, ?_⟩
          cases o1 with
          | ex x ρ => cases hm
          | nx ρ =>
            cases hm
            exact hp
          | rt x ρ =>
            cases hm
            exact hp
          | bk ρ =>
            cases hm
            exact hp
          | ct ρ =>
            cases hm
            exact hp
      · subst hb
        exact ih hm
  | @named y n i c t m s0 su p q hs l hc ht hi hl hsu r ih =>
    rw [List.map_cons] at hm ⊢
    unfold hGo at hm
    cases ql : t.lookup x.c with
    | none =>
      simp only [ql] at hm
      cases hm
    | some b =>
      simp only [ql] at hm
      refine ⟨b, ht.at_ ql h1, fun hb a na => ?_, fun hb => ?_⟩
      · subst hb
        simp only at hm
        by_cases ho : okSlot ρ i = true
        · rw [if_pos ho] at hm
          cases qm : m (ρ.set i (.err x)) with
          | none =>
            rw [qm] at hm
            cases hm
          | some o1 =>
            rw [qm] at hm
            exact ⟨_, P, G, _, o1, rfl, e.catch hn (okSlot_pin e ho) hx, qm, off_tail hn hm hp⟩
        · rw [if_neg ho] at hm
          cases hm
      · subst hb
        exact ih hm
theorem ds_try (stk : X.stack = X.env :: X.outer) (hfr : X.env.frame = some X.env.locals) (nd : X.N.Nodup) (tk : Takes X Y.W) (hY : Y.er = none)
    (hb : ∀ (W : WX) (pn : List (Addr × Obj)) (xe : Value → Shared → Prop), Takes (X.tr pn xe) W → PassesOwn (model X.prog X.w) X.A X.env xe → DSs (X.tr pn xe) ⟨W, none⟩ bd mb) (hh : DH X (k0 :: ks) l) :
    DS X Y (.Try bd (k0 :: ks) [] [] pos) (sTry mb (l.map (·.2))) :=
  PS.weak (ps_tryMx (tb := fun W => tS (amb X) ⟨W, none⟩ mb) stk hfr nd tk hb hh.mx) fun D σ H ⟨F, P, G, ρ, o, er, e, hm, hp⟩ => by
    have hn : F.er = none := er.trans hY
    unfold sTry at hm
    cases q : mb ρ with
    | none =>
      rw [q] at hm
      cases hm
    | some o1 =>
      rw [q] at hm
      refine ⟨F, P, G, ρ, o1, hn, e, q, ?_⟩
      cases o1 with
      | ex x ρ' => exact fun cls d σ' G' H' e' hx => go_tail hh hn e' hx hm hp
      | nx ρ' =>
        cases hm
        exact hp
      | rt x ρ' =>
        cases hm
        exact hp
      | bk ρ' =>
        cases hm
        exact hp
      | ct ρ' =>
        cases hm
        exact hp
end

/-! a field of the caught one -/
def eXf (i : Nat) (c f : Str) : M Rf := fun ρ => match ρ[i]? with
  | some (.err x) => if (x.c == c) = true then match (x.ns.zip x.ds).lookup f with
    | some d => some (.ok (.dat d) ρ)
    | none => none else none
  | _ => none
theorem Ims.lookup {A : Amb} {G : Hp} {f : Str} {d : D} : ∀ {fs : List (Str × V)} {ds : List D}, Ims A G (fs.map (·.2)) ds → ((fs.map (·.1)).zip ds).lookup f = some d → ∃ v, fs.lookup f = some v ∧ Im A G v d
  | [], _, _, h => by cases h
  | (k, v) :: fs, _, .cons h r, q => by
    rw [List.map_cons, List.zip_cons_cons, List.lookup_cons] at q
    rw [List.lookup_cons]
    cases hk : f == k with
    | true =>
      simp only [hk] at q
      cases q
      exact ⟨v, rfl, h⟩
    | false =>
      simp only [hk] at q
      exact Ims.lookup r q
section
variable {X : Cx} {a C : Addr} {oe : Obj} {cls : Value} {d : Option Addr} {pn : List (Addr × Obj)} {W : WX} {x c n : Str} {i : Nat} {p pos : Pos}
theorem de_xf (T : XfC X.K C) (hno : PySem.W.findIn X.K (.ref C) n = some none) (hm : X.mg c = some (.ref C)) (hz : Zc cls d oe) (hf : ∃ vs, oe.data = .fields vs) (he : PE (X.suite a ((a, oe) :: pn)) (.Name x p) (tVar i)) :
    DE (X.suite a ((a, oe) :: pn)) (Ye a cls d) (.Attribute (.Name x p) n pos) (eXf i c n) :=
  PE.weak (pe_xf T hno hz hf he) fun σ H Q ⟨F, P, G, ρ, r, er, e, h, hp⟩ => by
    unfold eXf at h
    cases q : ρ[i]? with
    | none =>
      rw [q] at h
      cases h
    | some s =>
      rw [q] at h
      cases s with
      | err ex =>
        simp only at h
        by_cases hc : (ex.c == c) = true
        · rw [if_pos hc] at h
          cases ql : (ex.ns.zip ex.ds).lookup n with
          | none =>
            rw [ql] at h
            cases h
          | some dv =>
            rw [ql] at h
            cases h
            obtain ⟨a', cls', d', h1, h2, C', h4, h5, h6⟩ := e.err i ex q
            rw [er] at h1
            cases h1
            have hc := eq_of_beq hc
            rw [hc] at h4
            have h4 : X.mg c = some (.ref C') := h4
            rw [hm] at h4
            cases h4
            subst h5
            refine ⟨.ref a, h2, rfl, rfl, ?_⟩
            rcases h6 with ⟨z, _⟩ | ⟨dd, fs, z1, z2, z3, z4⟩
            · rw [z] at ql
              cases ql
            · rw [← z3] at ql
              obtain ⟨v, l1, l2⟩ := Ims.lookup z4 ql
              exact ⟨dd, fs, v, z1, e.gh _ _ z2, l1, hp v G H (Same.refl G) e l2⟩
        · rw [if_neg hc] at h
          cases h
      | no => cases h
      | val d => cases h
      | cel p c => cases h
end
end Z

set_option Elab.async false
set_option linter.all false
set_option maxRecDepth 100000
set_option maxHeartbeats 4000000
/-! ZL: what the operators do with data. -/
namespace Z
open PySem PySem.Spec PyProof.Rows L2

def orD {α : Type} (a b : Option α) : Option α := match a with
  | some x => some x
  | none => b
theorem orD_some {α : Type} {a b : Option α} {d : α} (h : orD a b = some d) : a = some d ∨ b = some d := by
  unfold orD at h
  cases a with
  | none => exact .inr h
  | some x => exact .inl h
/-- an operator does what f says -/
def OpD (X : Cx) (g : Value → Value → Sem Value) (f : D → D → Option D) : Prop := ∃ r, OpR X g r ∧ RO (amb X) r f
section
variable {X : Cx} {Y : Yc} {g : Value → Value → Sem Value} {f f1 f2 : D → D → Option D}
theorem OpD.or (h1 : OpD X g f1) (h2 : OpD X g f2) : OpD X g (fun p q => orD (f1 p q) (f2 p q)) := by
  obtain ⟨r1, o1, k1⟩ := h1
  obtain ⟨r2, o2, k2⟩ := h2
  refine ⟨_, o1.or o2, fun F P σ G H ρ x y p q d Q e t1 t2 hf hq => ?_⟩
  rcases orD_some hf with h | h
  · exact .inl (k1 F P σ G H ρ x y p q d Q e t1 t2 h hq)
  · exact .inr (k2 F P σ G H ρ x y p q d Q e t1 t2 h hq)
/-- ints in, a scalar out -/
def fI (k : Int → Int → Option D) : D → D → Option D
  | .int i, .int j => k i j
  | _, _ => none
theorem fI_some {k : Int → Int → Option D} {p q d : D} (h : fI k p q = some d) : ∃ i j, p = .int i ∧ q = .int j ∧ k i j = some d := by
  unfold fI at h
  split at h
  · exact ⟨_, _, rfl, rfl, h⟩
  · cases h
theorem opd_I {C : Int → Int → Prop} {v : Int → Int → V} {k : Int → Int → Option D} (ho : OpR X g (rI C v)) (hk : ∀ i j d, k i j = some d → C i j ∧ (∀ G, Im (amb X) G (v i j) d) ∧ mk d = .dat d) : OpD X g (fI k) :=
  ⟨_, ho, fun F P σ G H ρ x y p q d Q e t1 t2 hf hq => by
    obtain ⟨i, j, rfl, rfl, hd⟩ := fI_some hf
    obtain ⟨c, im, m⟩ := hk i j d hd
    refine ⟨i, j, t1.int, t2.int, c, hq _ G H (Same.refl G) e ?_⟩
    rw [m]
    exact im G⟩
theorem opd_I0 {v : Int → Int → V} {k : Int → Int → D} (ho : OpR X g (rI0 v)) (hk : ∀ i j, (∀ G, Im (amb X) G (v i j) (k i j)) ∧ mk (k i j) = .dat (k i j)) : OpD X g (fI fun i j => some (k i j)) :=
  ⟨_, ho, fun F P σ G H ρ x y p q d Q e t1 t2 hf hq => by
    obtain ⟨i, j, rfl, rfl, hd⟩ := fI_some hf
    cases hd
    obtain ⟨im, m⟩ := hk i j
    refine ⟨i, j, t1.int, t2.int, hq _ G H (Same.refl G) e ?_⟩
    rw [m]
    exact im G⟩
def kAdd (i j : Int) : Option D := some (.int (i + j))
def kSub (i j : Int) : Option D := some (.int (i - j))
def kMul (i j : Int) : Option D := if i.natAbs.log2 + j.natAbs.log2 < 1000000 then some (.int (i * j)) else none
def kDiv (i j : Int) : Option D := if 0 < j ∧ j.natAbs.log2 < 9000 then some (.int (i / j)) else none
def kMod (i j : Int) : Option D := if 0 < j then some (.int (i % j)) else none
def kPow (i j : Int) : Option D := if 0 ≤ j ∧ (Builtin.Int.intBits i : Int) * j ≤ 2 ^ 27 then some (.int (i ^ j.toNat)) else none
def kLt (i j : Int) : Option D := some (.bl (decide (i < j)))
def kLe (i j : Int) : Option D := some (.bl (decide (i ≤ j)))
def kGt (i j : Int) : Option D := some (.bl (decide (j < i)))
def kGe (i j : Int) : Option D := some (.bl (decide (j ≤ i)))
theorem op_powB : OpR X (binaryOp .Pow) (rI (fun i j => 0 ≤ j ∧ (Builtin.Int.intBits i : Int) * j ≤ 2 ^ 27) fun i j => .int (i ^ j.toNat)) := opI fun _ _ _ _ _ _ _ hc q => pow_int hc.1 hc.2 q
theorem od_addI : OpD X (binaryOp .Add) (fI kAdd) := opd_I0 op_add fun i j => ⟨fun _ => .int _, rfl⟩
theorem od_sub : OpD X (binaryOp .Sub) (fI kSub) := opd_I0 op_sub fun i j => ⟨fun _ => .int _, rfl⟩
theorem od_mulI : OpD X (binaryOp .Mult) (fI kMul) := opd_I op_mulW fun i j d h => by
  unfold kMul at h
  split at h
  · cases h
    exact ⟨‹_›, fun _ => .int _, rfl⟩
  · cases h
theorem od_div : OpD X (binaryOp .FloorDiv) (fI kDiv) := opd_I op_fdivW fun i j d h => by
  unfold kDiv at h
  split at h
  · cases h
    exact ⟨‹_›, fun _ => .int _, rfl⟩
  · cases h
theorem od_mod : OpD X (binaryOp .Mod) (fI kMod) := opd_I op_mod fun i j d h => by
  unfold kMod at h
  split at h
  · cases h
    exact ⟨‹_›, fun _ => .int _, rfl⟩
  · cases h
theorem od_pow : OpD X (binaryOp .Pow) (fI kPow) := opd_I op_powB fun i j d h => by
  unfold kPow at h
  split at h
  · cases h
    exact ⟨‹_›, fun _ => .int _, rfl⟩
  · cases h
theorem od_lt : OpD X (compareOp .Lt) (fI kLt) := opd_I0 op_lt fun i j => ⟨fun _ => .bl _, rfl⟩
theorem od_le : OpD X (compareOp .LtE) (fI kLe) := opd_I0 op_le fun i j => ⟨fun _ => .bl _, rfl⟩
theorem od_gt : OpD X (compareOp .Gt) (fI kGt) := opd_I0 op_gt fun i j => ⟨fun _ => .bl _, rfl⟩
theorem od_ge : OpD X (compareOp .GtE) (fI kGe) := opd_I0 op_ge fun i j => ⟨fun _ => .bl _, rfl⟩
/-! + of texts, lists, tuples -/
def fCatS : D → D → Option D
  | .str a, .str b => if a.length + b.length ≤ sizeLine then some (.str (a ++ b)) else none
  | _, _ => none
def fCatL : D → D → Option D
  | .lst a, .lst b => if a.length + b.length ≤ sizeLine then some (.lst (a ++ b)) else none
  | _, _ => none
def fCatT : D → D → Option D
  | .tup a, .tup b => if a.length + b.length ≤ sizeLine then some (.tup (a ++ b)) else none
  | _, _ => none
theorem Ims.append' {A : Amb} {G : Hp} : ∀ {vs ws : List V} {ds es : List D}, Ims A G vs ds → Ims A G ws es → Ims A G (vs ++ ws) (ds ++ es)
  | _, _, _, _, .nil, k => k
  | _, _, _, _, .cons h r, k => .cons h (Ims.append' r k)
theorem od_catS : OpD X (binaryOp .Add) fCatS := ⟨_, op_add_str, fun F P σ G H ρ x y p q d Q e t1 t2 hf hq => by
  unfold fCatS at hf
  split at hf
  · split at hf
    · cases hf
      exact ⟨_, _, t1.str, t2.str, ‹_›, hq _ G H (Same.refl G) e (.str _)⟩
    · cases hf
  · cases hf⟩
end
end Z
namespace PySem.AutoSeq1
open PySem PySem.Spec PyProof.Rows MeetsSeq MeetsSeq2 MeetsSeq3 SeqRoads2
theorem list_add_any (l : Addr) (xs : Array Value) (n : Nat) (sl : Array (Option Value)) (b : Addr) (ys : Array Value) (n2 : Nat) (sl2 : Array (Option Value)) (hz : xs.size + ys.size ≤ sizeLine) :
    Meets (Builtin.«list.__add__» ⟨[.ref l, .ref b], []⟩) (fun _ R s => s.heap.get? l = some { cls := .type "list", dict := none, data := .seq xs n, slots := sl } ∧ s.heap.get? b = some { cls := .type "list", dict := none, data := .seq ys n2, slots := sl2 } ∧
      R (.ok (.ret (.ref s.heap.objs.size))) { s with heap := s.heap.push { cls := .type "list", data := .seq (xs ++ ys) } }) :=
  .of_wp fun prog w A R s h => by
    obtain ⟨hp, g, d, tk, os⟩ := s
    obtain ⟨hl, hb, h⟩ := h
    have f1 := idx_int
    have f3 := sub_list_list
    wp_walk using wpAny_loadPart' hl, wpAny_loadPart' hb
    exact ⟨_, rfl, h⟩
end PySem.AutoSeq1
namespace Z
open PySem PySem.Spec PyProof.Rows L2
section
variable {X : Cx} {Y : Yc} {g : Value → Value → Sem Value} {f f1 f2 : D → D → Option D}
/-- + of two lists, laid or standing: two cases of each -/
def rCatL (K : PySem.W.Frag) : R2 := fun x y H Q => ∃ l b xs zs, x = .ref l ∧ y = .ref b ∧ SqL K H l xs ∧ SqL K H b zs ∧ xs.length + zs.length ≤ sizeLine ∧ ∀ p, H p = none → Q (.ref p) (upd H p (.lst (xs ++ zs)))
theorem op_catL : OpR X (binaryOp .Add) (rCatL X.K) := by
  intro pins s σ H x y v u Q I rx ry h
  obtain ⟨l, b, xs, zs, rfl, rfl, h1, h2, hz, q⟩ := h
  cases rx
  cases ry
  obtain ⟨its, r1, p1, _⟩ := I.list h1
  obtain ⟨its2, r2, p2, _⟩ := I.list h2
  have l1 := r1.length
  have l2 := r2.length
  obtain ⟨⟨c1, d1, t1, sl1⟩, n1, g1, a1, a2, a3⟩ := p1
  obtain ⟨⟨c2, d2, t2, sl2⟩, n2, g2, b1, b2, b3⟩ := p2
  simp only at a1 a2 a3 b1 b2 b3
  subst a1 a2 a3 b1 b2 b3
  refine concat_meets ⟨_, g1, rfl⟩ ⟨_, g2, rfl⟩ noFill_list_add seq_list_add F.slot_list_add F.entry_list_add (F.args_list_add_2 _ _) (PySem.AutoSeq1.list_add_any l its.toArray n1 sl1 b its2.toArray n2 sl2 (by simp only [List.size_toArray] <;> omega)) ⟨g1, g2, ?_⟩
  have ea : its.toArray ++ its2.toArray = (its ++ its2).toArray := by simp
  rw [ea]
  exact ⟨.ref _, _, I.lnew (t' := s.toks) (r1.append r2) (by rw [List.length_append]; omega), rfl, q _ I.fresh⟩
theorem od_catL : OpD X (binaryOp .Add) fCatL := ⟨_, op_catL, fun F P σ G H ρ x y p q d Q e t1 t2 hf hq => by
  unfold fCatL at hf
  split at hf
  · split at hf
    · rename_i a b hz
      cases hf
      obtain ⟨l, vs, rfl, h1, i1⟩ := t1.lst e.gh
      obtain ⟨m, ws, rfl, h2, i2⟩ := t2.lst e.gh
      refine ⟨l, m, vs, ws, rfl, rfl, h1, h2, by rw [i1.length, i2.length]; exact hz, fun p n => ?_⟩
      obtain ⟨e3, ro⟩ := e.newL n (Ims.append' i1 i2)
      exact hq _ G _ (Same.refl G) e3 ro
    · cases hf
  · cases hf⟩
/-- t + u, the new object known -/
def rCatF (K : PySem.W.Frag) : R2 := fun x y H Q => ∃ a b xs ys, x = .ref a ∧ y = .ref b ∧ SqT K H a xs ∧ SqT K H b ys ∧ xs.length + ys.length ≤ sizeLine ∧
  (xs = [] → Q (.ref b) H) ∧ (xs ≠ [] → ys = [] → Q (.ref a) H) ∧ ∀ (p : Addr) (o : Obj), H p = none → o.dict = none → Q (.ref p) (upd H p (.frz o (.tup (xs ++ ys))))
theorem op_catF : OpR X (binaryOp .Add) (rCatF X.K) := by
  intro pins s σ H x y v u Q I rx ry h
  obtain ⟨a, b, xs, ys, rfl, rfl, ha, hb, hz, q0, q1, q2⟩ := h
  by_cases hx : xs = []
  · exact op_catA pins s σ H _ _ v u Q I rx ry ⟨a, b, xs, ys, rfl, rfl, ha, hb, hz, q0, q1, fun z => absurd hx z⟩
  · cases rx
    cases ry
    obtain ⟨its, r1, p1, _⟩ := I.tuple ha
    obtain ⟨its2, r2, p2, _⟩ := I.tuple hb
    refine HT.cat_tup p1 p2 (fun z => hx (r1.nil_iff.mp z)) (fun z => ⟨.ref a, H, I, rfl, q1 hx (r2.nil_iff.mp z)⟩) (fun z => ?_) (by rw [← r1.length, ← r2.length]; exact hz)
    refine ⟨.ref s.heap.objs.size, _, ?_, rfl, q2 s.heap.objs.size { cls := .type "tuple", data := .seq (its ++ its2).toArray } (I.hok.fresh (Nat.le_refl _)) rfl⟩
    refine I.laid (t' := s.toks) (fun _ _ z => Heap.get?_push_of_some _ z) (Nat.le_refl _) ⟨?_, by rw [List.length_append]; exact hz, _, r1.append r2, IsTup.new _ _⟩
    exact Heap.get?_push_size _ rfl
theorem od_catT : OpD X (binaryOp .Add) fCatT := ⟨_, op_catF, fun F P σ G H ρ x y p q d Q e t1 t2 hf hq => by
  unfold fCatT at hf
  split at hf
  · split at hf
    · rename_i a b hz
      cases hf
      obtain ⟨l, vs, rfl, h1, i1⟩ := t1.tup e.gh
      obtain ⟨m, ws, rfl, h2, i2⟩ := t2.tup e.gh
      have k1 : Im (amb X) G (.ref l) (.tup a) := t1.scal (fun _ => by simp) (fun _ _ _ => by simp)
      have k2 : Im (amb X) G (.ref m) (.tup b) := t2.scal (fun _ => by simp) (fun _ _ _ => by simp)
      refine ⟨l, m, vs, ws, rfl, rfl, h1, h2, by rw [i1.length, i2.length]; exact hz, fun z => ?_, fun _ z => ?_, fun p o n dn => ?_⟩
      · subst z
        cases i1
        exact hq _ G H (Same.refl G) e k2
      · subst z
        cases i2
        rw [List.append_nil] at hq
        exact hq _ G H (Same.refl G) e k1
      · obtain ⟨G', s, e3, ro⟩ := e.newT n dn (Ims.append' i1 i2)
        exact hq _ G' _ s e3 ro
    · cases hf
  · cases hf⟩
def fAdd : D → D → Option D := fun p q => orD (fI kAdd p q) (orD (fCatL p q) (orD (fCatT p q) (fCatS p q)))
theorem od_add : OpD X (binaryOp .Add) fAdd := od_addI.or (od_catL.or (od_catT.or od_catS))
/-! a list times a number -/
def fRep : D → D → Option D
  | .lst a, .int k => if -(2 ^ 63) ≤ k ∧ k < 2 ^ 63 ∧ a.length * k.toNat ≤ sizeLine then some (.lst (List.replicate k.toNat a).flatten) else none
  | _, _ => none
theorem Ims.rep {A : Amb} {G : Hp} {vs : List V} {ds : List D} (h : Ims A G vs ds) : ∀ n, Ims A G (List.replicate n vs).flatten (List.replicate n ds).flatten
  | 0 => .nil
  | n + 1 => by
    rw [List.replicate_succ, List.replicate_succ, List.flatten_cons, List.flatten_cons]
    exact Ims.append' h (Ims.rep h n)
end
/-- the object itself, laid or ours -/
theorem Top.lstH {A : Amb} {F : Fx} {P : List (Nat × Addr)} {σ : L2.St} {G H : Hp} {ρ : E} {v : V} {ds : List D} (e : EnvG A F P σ G H ρ) (h : Top A G H v (.lst ds)) :
    ∃ l vs, v = .ref l ∧ (H l = some (.lst vs) ∨ SqL A.K H l vs) ∧ Ims A G vs ds := by
  obtain ⟨l, vs, h1, h2, h3⟩ := h.lst e.gh
  exact ⟨l, vs, h1, .inr h2, h3⟩
section
variable {X : Cx} {Y : Yc}
/-! == and != -/
mutual
def D.py : D → Option PyData
  | .non => some .none
  | .bl b => some (.bool b)
  | .int i => some (.int i)
  | .str x => some (.str x)
  | .lst ds => (D.pys ds).map .list
  | .tup ds => (D.pys ds).map .tuple
  | .pr ds => (D.pys ds).map .tuple
  | .dic _ _ => none
  | .ins _ _ _ => none
def D.pys : List D → Option (List PyData)
  | [] => some []
  | d :: ds => match D.py d, D.pys ds with
    | some x, some xs => some (x :: xs)
    | _, _ => none
end
mutual
theorem Im.dp {A : Amb} {G H : Hp} (g : Same G H) : ∀ {d : D} {v : V} {x : PyData}, Im A G v d → d.py = some x → Dp A.K H v x
  | .non, _, _, h, e => by
    cases h
    cases e
    exact .non
  | .bl b, _, _, h, e => by
    cases h
    cases e
    exact .bl b
  | .int i, _, _, h, e => by
    cases h
    cases e
    exact .int i
  | .str x, _, _, h, e => by
    cases h
    cases e
    exact .str x
  | .lst ds, _, _, h, e => by
    unfold D.py at e
    obtain ⟨xs, e1, rfl⟩ := map_some' e
    cases h with
    | lst h r => exact .lst (g.seq h) (Ims.dp g r e1)
  | .tup ds, _, _, h, e => by
    unfold D.py at e
    obtain ⟨xs, e1, rfl⟩ := map_some' e
    cases h with
    | tup h r => exact .tup (same_sqT g h.sq) (Ims.dp g r e1)
  | .pr ds, _, _, h, e => by
    unfold D.py at e
    obtain ⟨xs, e1, rfl⟩ := map_some' e
    cases h with
    | pr h r => exact .tup (same_sqT g h) (Ims.dp g r e1)
  | .dic _ _, _, _, _, e => by
    unfold D.py at e
    cases e
  | .ins _ _ _, _, _, _, e => by
    unfold D.py at e
    cases e
theorem Ims.dp {A : Amb} {G H : Hp} (g : Same G H) : ∀ {ds : List D} {vs : List V} {xs : List PyData}, Ims A G vs ds → D.pys ds = some xs → DpAll A.K H vs xs
  | [], _, _, h, e => by
    cases h
    unfold D.pys at e
    cases e
    exact .nil
  | d :: ds, _, _, h, e => by
    unfold D.pys at e
    cases h with
    | cons h r =>
      cases e1 : d.py with
      | none =>
        rw [e1] at e
        cases e
      | some x =>
        cases e2 : D.pys ds with
        | none =>
          rw [e1, e2] at e
          cases e
        | some xs =>
          rw [e1, e2] at e
          cases e
          exact .cons (Im.dp g h e1) (Ims.dp g r e2)
end
theorem Top.dp {A : Amb} {G H : Hp} (g : Same G H) {d : D} {v : V} {x : PyData} (h : Top A G H v d) (e : d.py = some x) : Dp A.K H v x := by
  rcases h with h | ⟨l, vs, ds, rfl, rfl, h1, h2⟩ | ⟨l, C, dx, fs, c, ns, ds, rfl, rfl, m, h1, h2, h3⟩
  · exact Im.dp g h e
  · unfold D.py at e
    obtain ⟨xs, e1, rfl⟩ := map_some' e
    exact .lst (SqL.of h1) (Ims.dp g h2 e1)
  · unfold D.py at e
    cases e
def eqD (p q : D) : Option Bool := match p.py, q.py with
  | some a, some b => if SeqAt.shaped a = true ∧ SeqAt.shaped b = true then some (PyData.eqv a b) else none
  | _, _ => none
theorem eqD_some {p q : D} {c : Bool} (h : eqD p q = some c) : ∃ a b, p.py = some a ∧ q.py = some b ∧ SeqAt.shaped a = true ∧ SeqAt.shaped b = true ∧ c = PyData.eqv a b := by
  unfold eqD at h
  cases h1 : p.py with
  | none =>
    rw [h1] at h
    cases h
  | some a =>
    cases h2 : q.py with
    | none =>
      rw [h1, h2] at h
      cases h
    | some b =>
      rw [h1, h2] at h
      simp only at h
      split at h
      · rename_i c
        cases h
        exact ⟨a, b, rfl, rfl, c.1, c.2, rfl⟩
      · cases h
def fEq : D → D → Option D := fun p q => (eqD p q).map .bl
def fNe : D → D → Option D := fun p q => (eqD p q).map fun c => .bl (!c)
theorem od_eq (hu : X.A.units + 64 < cLine) : OpD X (compareOp .Eq) fEq := ⟨_, op_eqD hu, fun F P σ G H ρ x y p q d Q e t1 t2 hf hq => by
  obtain ⟨c, hc, rfl⟩ := map_some' hf
  obtain ⟨a, b, h1, h2, s1, s2, rfl⟩ := eqD_some hc
  exact ⟨a, b, t1.dp e.gh h1, t2.dp e.gh h2, s1, s2, hq _ G H (Same.refl G) e (.bl _)⟩⟩
theorem od_ne (hu : X.A.units + 64 < cLine) : OpD X (compareOp .NotEq) fNe := ⟨_, op_neD hu, fun F P σ G H ρ x y p q d Q e t1 t2 hf hq => by
  obtain ⟨c, hc, rfl⟩ := map_some' hf
  obtain ⟨a, b, h1, h2, s1, s2, rfl⟩ := eqD_some hc
  exact ⟨a, b, t1.dp e.gh h1, t2.dp e.gh h2, s1, s2, hq _ G H (Same.refl G) e (.bl _)⟩⟩
/-! is, is not: None, bools -/
def D.isNon : D → Bool
  | .non => true
  | _ => false
def isD : D → D → Option Bool
  | d, .non => some d.isNon
  | .bl a, .bl b => some (decide (a = b))
  | _, _ => none
theorem Top.isNon {A : Amb} {G H : Hp} {v : V} {d : D} (h : Top A G H v d) : decide (v = .non) = d.isNon := by
  rcases h with h | ⟨l, vs, ds, rfl, rfl, h1, h2⟩ | ⟨l, C, dx, fs, c, ns, ds, rfl, rfl, m, h1, h2, h3⟩
  · cases h <;> rfl
  · rfl
  · rfl
def fIs : D → D → Option D := fun p q => (isD p q).map .bl
def fIsN : D → D → Option D := fun p q => (isD p q).map fun c => .bl (!c)
theorem isD_some {p q : D} {c : Bool} (h : isD p q = some c) : (q = .non ∧ c = p.isNon) ∨ ∃ a b, p = .bl a ∧ q = .bl b ∧ c = decide (a = b) := by
  unfold isD at h
  split at h
  · cases h
    exact .inl ⟨rfl, rfl⟩
  · cases h
    exact .inr ⟨_, _, rfl, rfl, rfl⟩
  · cases h
theorem od_is : OpD X (compareOp .Is) fIs := ⟨_, OpR.or op_isN op_isBl, fun F P σ G H ρ x y p q d Q e t1 t2 hf hq => by
  obtain ⟨c, hc, rfl⟩ := map_some' hf
  rcases isD_some hc with ⟨rfl, rfl⟩ | ⟨a, b, rfl, rfl, rfl⟩
  · refine .inl ⟨t2.non, ?_⟩
    rw [t1.isNon]
    exact hq _ G H (Same.refl G) e (.bl _)
  · exact .inr ⟨a, b, t1.bl, t2.bl, hq _ G H (Same.refl G) e (.bl _)⟩⟩
theorem od_isN : OpD X (compareOp .IsNot) fIsN := ⟨_, OpR.or op_notN op_notBl, fun F P σ G H ρ x y p q d Q e t1 t2 hf hq => by
  obtain ⟨c, hc, rfl⟩ := map_some' hf
  rcases isD_some hc with ⟨rfl, rfl⟩ | ⟨a, b, rfl, rfl, rfl⟩
  · refine .inl ⟨t2.non, ?_⟩
    rw [t1.isNon]
    exact hq _ G H (Same.refl G) e (.bl _)
  · exact .inr ⟨a, b, t1.bl, t2.bl, hq _ G H (Same.refl G) e (.bl _)⟩⟩
end
section
variable {X : Cx} {Y : Yc} {a b : Expr} {es : List Expr} {ma mb : M Rf} {ml mh : M (Option Int)} {ms : M (List Rf)} {pos : Pos} {f : D → D → Option D}
theorem de_bin {op : Operator} (h : OpD X (binaryOp op) f) (ha : DE X Y a ma) (hb : DE X Y b mb) : DE X Y (.BinOp a op b pos) (eOp2 f ma mb) := by
  obtain ⟨r, ho, hr⟩ := h
  exact de_op2 ho hr ha hb
theorem de_cp {op : CmpOp} (h : OpD X (compareOp op) f) (ha : DE X Y a ma) (hb : DE X Y b mb) (hm : behindInMarks op b = false := by rfl) : DE X Y (.Compare a [op] [b] pos) (eOp2 f ma mb) := by
  obtain ⟨r, ho, hr⟩ := h
  exact de_cmp ho hr ha hb hm
theorem dt_cp {op : CmpOp} (h : OpD X (compareOp op) f) (ha : DE X Y a ma) (hb : DE X Y b mb) (hm : behindInMarks op b = false := by rfl) : DT X Y (.Compare a [op] [b] pos) (tst (eOp2 f ma mb)) := by
  obtain ⟨r, ho, hr⟩ := h
  exact dt_cmp ho hr ha hb hm
/-! xs[i]: what stands there already -/
def fIx : D → D → Option D
  | .lst ds, .int i => atI ds i
  | .tup ds, .int i => atI ds i
  | _, _ => none
def eIx (ma mb : M Rf) : M Rf := bindM ma fun x => bindM mb fun y => bindM (drf (stl x)) fun p => bindM (drf (stl y)) fun q => optM ((fIx p q).map .dat)
theorem Ims.atI {A : Amb} {G : Hp} {vs : List V} {ds : List D} {i : Int} {d : D} (h : Ims A G vs ds) (e : L2.atI ds i = some d) : ∃ v, L2.atI vs i = some v ∧ Im A G v d := by
  unfold L2.atI at e ⊢
  rw [h.length]
  cases q : ixN ds.length i with
  | none =>
    rw [q] at e
    cases e
  | some j =>
    rw [q] at e
    exact h.get e
theorem de_ix (ha : DE X Y a ma) (hb : DE X Y b mb) (hs : PlainIx b) : DE X Y (.Subscript a b pos) (eIx ma mb) :=
  PE.weak (pe_ix ix_seq ha hb hs) fun σ H Q ⟨F, P, G, ρ, r', er, e, hm, hp⟩ => tE_bind er e hm hp fun G1 H1 ρ1 x v s1 e1 so1 hm1 hp1 => tE_bind er e1 hm1 hp1 fun G2 H2 ρ2 y u s2 e2 so2 hm2 hp2 => by
    obtain ⟨p, d1, hm3⟩ := drf_ok hm2
    obtain ⟨q, d2, hm4⟩ := drf_ok hm3
    obtain ⟨z, hz, rfl⟩ := optM_ok hm4
    obtain ⟨d, hd, rfl⟩ := map_some' hz
    have t1 := top_of e2 (so1.mono s2) d1
    have t2 := top_of e2 so2 d2
    unfold fIx at hd
    split at hd
    · obtain ⟨l, vs, rfl, h1, h2⟩ := t1.lst e2.gh
      obtain ⟨w, h3, h4⟩ := h2.atI hd
      exact .inl ⟨l, vs, _, w, rfl, t2.int, h1, h3, hp2 w G2 H2 (Same.refl G2) e2 h4⟩
    · obtain ⟨l, vs, rfl, h1, h2⟩ := t1.tup e2.gh
      obtain ⟨w, h3, h4⟩ := h2.atI hd
      exact .inr (.inl ⟨l, vs, _, w, rfl, t2.int, h1, h3, hp2 w G2 H2 (Same.refl G2) e2 h4⟩)
    · cases hd
end
end Z

set_option Elab.async false
set_option linter.all false
set_option maxRecDepth 100000
set_option maxHeartbeats 4000000
/-! ZM: calls of built-ins by data; slices; list times a number. -/
namespace Z
open PySem PySem.Spec PyProof.Rows L2

section
variable {A : Amb} {F : Fx} {P : List (Nat × Addr)} {σ : L2.St} {G H : Hp} {ρ : E}
theorem settle_new {v : V} {ds : List D} (e : EnvG A F P σ G H ρ) (h : RfOk A F σ G H ρ v (.new ds)) : ∃ G' l vs, v = .ref l ∧ Same G G' ∧ EnvG A F P σ G' H ρ ∧ G' l = some (.lst vs) ∧ Ims A G' vs ds := by
  obtain ⟨l, vs, rfl, h1, h2, h3, h4, h5⟩ := h
  have sG : Same G (upd G l (.lst vs)) := fun b u q => by
    rw [upd_ne (ne_of_none q h2)]
    exact q
  refine ⟨_, l, vs, rfl, sG, ⟨e.fr, e.gg.trans sG, fun b u q => ?_, fun b u q => ?_, e.ca, e.len, fun j d q => ?_, fun j p c q => ?_, e.ap, e.pin, fun j x q => ?_⟩, upd_same, h4.mono sG⟩
  · by_cases hb : b = l
    · subst hb
      rw [upd_same] at q
      rw [h1]
      exact q
    · rw [upd_ne hb] at q
      exact e.gh b u q
  · by_cases hb : b = l
    · subst hb
      exact .inr h3
    · rw [upd_ne hb] at q
      exact e.gn b u q
  · obtain ⟨v, k1, k2⟩ := e.val j d q
    exact ⟨v, k1, k2.mono sG⟩
  · obtain ⟨m, k1, k2, k3, k4⟩ := e.cel j p c q
    refine ⟨m, k1, k2.mono sG rfl, ?_, k4⟩
    have ne : m ≠ l := fun w => by
      subst w
      exact h5 j p c q k1
    rw [upd_ne ne]
    exact k3
  · obtain ⟨a, cls, d, k1, k2, k3⟩ := e.err j x q
    exact ⟨a, cls, d, k1, k2, k3.mono sG⟩
/-! data of one kind -/
def dInts : List D → Option (List Int)
  | [] => some []
  | .int i :: ds => (dInts ds).map (i :: ·)
  | _ :: _ => none
def dBools : List D → Option (List Bool)
  | [] => some []
  | .bl i :: ds => (dBools ds).map (i :: ·)
  | _ :: _ => none
theorem ims_ints {A : Amb} {G : Hp} : ∀ {vs : List V} {ds : List D} {ns : List Int}, Ims A G vs ds → dInts ds = some ns → vs = ns.map V.int ∧ ds = ns.map D.int
  | _, _, _, .nil, e => by
    cases e
    exact ⟨rfl, rfl⟩
  | _, .int i :: ds, _, .cons h r, e => by
    unfold dInts at e
    obtain ⟨ms, e1, rfl⟩ := map_some' e
    cases h
    obtain ⟨rfl, rfl⟩ := ims_ints r e1
    exact ⟨rfl, rfl⟩
  | _, .non :: _, _, .cons _ _, e => by cases e
  | _, .bl _ :: _, _, .cons _ _, e => by cases e
  | _, .str _ :: _, _, .cons _ _, e => by cases e
  | _, .lst _ :: _, _, .cons _ _, e => by cases e
  | _, .tup _ :: _, _, .cons _ _, e => by cases e
  | _, .pr _ :: _, _, .cons _ _, e => by cases e
  | _, .dic _ _ :: _, _, .cons _ _, e => by cases e
  | _, .ins _ _ _ :: _, _, .cons _ _, e => by cases e
theorem ims_bools {A : Amb} {G : Hp} : ∀ {vs : List V} {ds : List D} {ns : List Bool}, Ims A G vs ds → dBools ds = some ns → vs = ns.map V.bl ∧ ds = ns.map D.bl
  | _, _, _, .nil, e => by
    cases e
    exact ⟨rfl, rfl⟩
  | _, .bl i :: ds, _, .cons h r, e => by
    unfold dBools at e
    obtain ⟨ms, e1, rfl⟩ := map_some' e
    cases h
    obtain ⟨rfl, rfl⟩ := ims_bools r e1
    exact ⟨rfl, rfl⟩
  | _, .non :: _, _, .cons _ _, e => by cases e
  | _, .int _ :: _, _, .cons _ _, e => by cases e
  | _, .str _ :: _, _, .cons _ _, e => by cases e
  | _, .lst _ :: _, _, .cons _ _, e => by cases e
  | _, .tup _ :: _, _, .cons _ _, e => by cases e
  | _, .pr _ :: _, _, .cons _ _, e => by cases e
  | _, .dic _ _ :: _, _, .cons _ _, e => by cases e
  | _, .ins _ _ _ :: _, _, .cons _ _, e => by cases e
theorem ims_of_ints {A : Amb} {G : Hp} : ∀ ns : List Int, Ims A G (ns.map V.int) (ns.map D.int)
  | [] => .nil
  | n :: ns => .cons (.int n) (ims_of_ints ns)
end
def CaD (X : Cx) (v : Value) (f : List D → Option D) : Prop := ∃ r, CallR X v r ∧ RCo (amb X) r f
section
variable {X : Cx} {Y : Yc} {v : Value} {f f1 f2 : List D → Option D}
theorem CaD.or (h1 : CaD X v f1) (h2 : CaD X v f2) : CaD X v (fun xs => orD (f1 xs) (f2 xs)) := by
  obtain ⟨r1, o1, k1⟩ := h1
  obtain ⟨r2, o2, k2⟩ := h2
  refine ⟨_, o1.or o2, fun F P σ G H ρ xs ds d Q e t hf hq => ?_⟩
  rcases orD_some hf with h | h
  · exact .inl (k1 F P σ G H ρ xs ds d Q e t h hq)
  · exact .inr (k2 F P σ G H ρ xs ds d Q e t h hq)
theorem Tops.one {A : Amb} {G H : Hp} {xs : List V} {d : D} (h : Tops A G H xs [d]) : ∃ x, xs = [x] ∧ Top A G H x d := by
  cases h with
  | cons h r =>
    cases r
    exact ⟨_, rfl, h⟩
theorem Tops.two {A : Amb} {G H : Hp} {xs : List V} {d e : D} (h : Tops A G H xs [d, e]) : ∃ x y, xs = [x, y] ∧ Top A G H x d ∧ Top A G H y e := by
  cases h with
  | cons h r =>
    obtain ⟨y, rfl, k⟩ := r.one
    exact ⟨_, _, rfl, h, k⟩
/-! len -/
def fLen : List D → Option D
  | [.lst ds] => some (.int ds.length)
  | [.tup ds] => some (.int ds.length)
  | [.str x] => if x.length ≤ sizeLine then some (.int x.length) else none
  | _ => none
theorem cd_len : CaD X (.builtin "len") fLen := ⟨_, call_len, fun F P σ G H ρ xs ds d Q e t hf hq => by
  unfold fLen at hf
  split at hf
  · cases hf
    obtain ⟨x, rfl, u⟩ := t.one
    obtain ⟨l, vs, rfl, h1, h2⟩ := u.lst e.gh
    exact ⟨_, _, rfl, .inl ⟨vs, h1, h2.length.symm⟩, hq _ G H (Same.refl G) e (.int _)⟩
  · cases hf
    obtain ⟨x, rfl, u⟩ := t.one
    obtain ⟨l, vs, rfl, h1, h2⟩ := u.tup e.gh
    exact ⟨_, _, rfl, .inr ⟨vs, h1, h2.length.symm⟩, hq _ G H (Same.refl G) e (.int _)⟩
  · split at hf
    · rename_i hz
      cases hf
      obtain ⟨x, rfl, u⟩ := t.one
      rw [u.str]
      exact ⟨_, _, rfl, ⟨hz, rfl⟩, hq _ G H (Same.refl G) e (.int _)⟩
    · cases hf
  · cases hf⟩
/-! int -/
def fInt : List D → Option D
  | [.int i] => some (.int i)
  | [.bl b] => some (.int (if b then 1 else 0))
  | _ => none
theorem cd_int : CaD X (.type "int") fInt := ⟨_, call_int1, fun F P σ G H ρ xs ds d Q e t hf hq => by
  unfold fInt at hf
  split at hf
  · cases hf
    obtain ⟨x, rfl, u⟩ := t.one
    rw [u.int]
    exact .inl ⟨_, rfl, hq _ G H (Same.refl G) e (.int _)⟩
  · cases hf
    obtain ⟨x, rfl, u⟩ := t.one
    rw [u.bl]
    exact .inr ⟨_, rfl, hq _ G H (Same.refl G) e (.int _)⟩
  · cases hf⟩
/-! max, min of two -/
def fMax : List D → Option D
  | [.int i, .int j] => some (.int (if j > i then j else i))
  | _ => none
def fMin : List D → Option D
  | [.int i, .int j] => some (.int (if j < i then j else i))
  | _ => none
theorem cd_max (hc : X.calm = true) : CaD X (.builtin "max") fMax := ⟨_, call_max2 hc, fun F P σ G H ρ xs ds d Q e t hf hq => by
  unfold fMax at hf
  split at hf
  · cases hf
    obtain ⟨x, y, rfl, t1, t2⟩ := t.two
    rw [t1.int, t2.int]
    exact ⟨_, _, rfl, hq _ G H (Same.refl G) e (.int _)⟩
  · cases hf⟩
theorem cd_min (hc : X.calm = true) : CaD X (.builtin "min") fMin := ⟨_, call_min2 hc, fun F P σ G H ρ xs ds d Q e t hf hq => by
  unfold fMin at hf
  split at hf
  · cases hf
    obtain ⟨x, y, rfl, t1, t2⟩ := t.two
    rw [t1.int, t2.int]
    exact ⟨_, _, rfl, hq _ G H (Same.refl G) e (.int _)⟩
  · cases hf⟩
/-! all, sum -/
def fAll : List D → Option D
  | [.lst ds] => (dBools ds).map fun bs => .bl (bs.all id)
  | _ => none
theorem cd_all (hc : X.calm = true) : CaD X (.builtin "all") fAll := ⟨_, cr_all hc, fun F P σ G H ρ xs ds d Q e t hf hq => by
  unfold fAll at hf
  split at hf
  · obtain ⟨bs, hb, rfl⟩ := map_some' hf
    obtain ⟨x, rfl, u⟩ := t.one
    obtain ⟨l, vs, rfl, h1, h2⟩ := u.lst e.gh
    obtain ⟨rfl, rfl⟩ := ims_bools h2 hb
    exact ⟨_, _, rfl, h1, hq _ G H (Same.refl G) e (.bl _)⟩
  · cases hf⟩
def fSum : List D → Option D
  | [.lst ds] => (dInts ds).map fun bs => .int bs.sum
  | _ => none
theorem cd_sum (hc : X.calm = true) : CaD X (.builtin "sum") fSum := ⟨_, cr_sum hc, fun F P σ G H ρ xs ds d Q e t hf hq => by
  unfold fSum at hf
  split at hf
  · obtain ⟨bs, hb, rfl⟩ := map_some' hf
    obtain ⟨x, rfl, u⟩ := t.one
    obtain ⟨l, vs, rfl, h1, h2⟩ := u.lst e.gh
    obtain ⟨rfl, rfl⟩ := ims_ints h2 hb
    exact ⟨_, _, rfl, h1, hq _ G H (Same.refl G) e (.int _)⟩
  · cases hf⟩
/-! list(xs), tuple(xs) -/
def fList : List D → Option D
  | [.lst ds] => some (.lst ds)
  | [.tup ds] => some (.lst ds)
  | _ => none
def fTuple : List D → Option D
  | [.lst ds] => some (.tup ds)
  | [.tup ds] => some (.tup ds)
  | _ => none
theorem cd_list : CaD X (.type "list") fList := ⟨_, call_list_of, fun F P σ G H ρ xs ds d Q e t hf hq => by
  unfold fList at hf
  split at hf
  · cases hf
    obtain ⟨x, rfl, u⟩ := t.one
    obtain ⟨l, vs, rfl, h1, h2⟩ := u.lst e.gh
    refine ⟨_, _, rfl, .inl h1, fun p n => ?_⟩
    obtain ⟨e3, ro⟩ := e.newL n h2
    exact hq _ G _ (Same.refl G) e3 ro
  · cases hf
    obtain ⟨x, rfl, u⟩ := t.one
    obtain ⟨l, vs, rfl, h1, h2⟩ := u.tup e.gh
    refine ⟨_, _, rfl, .inr h1, fun p n => ?_⟩
    obtain ⟨e3, ro⟩ := e.newL n h2
    exact hq _ G _ (Same.refl G) e3 ro
  · cases hf⟩
/-- tuple(xs), the new object known -/
theorem call_tupleF : CallR X (.type "tuple") (fun xs H Q => ∃ p ys, xs = [.ref p] ∧ ((SqL X.K H p ys ∧ ∀ (l : Addr) (o : Obj), H l = none → o.dict = none → Q (.ref l) (upd H l (.frz o (.tup ys)))) ∨ (SqT X.K H p ys ∧ Q (.ref p) H))) := by
  intro pins s σ H xs us Q I r h
  obtain ⟨p, ys, rfl, ⟨hq, q⟩ | h⟩ := h
  · obtain ⟨u, rfl, rx⟩ := vals1 r
    cases rx
    obtain ⟨its, rv, pl, hz⟩ := I.list hq
    have hl := rv.length
    refine call_tuple_list pl.isList (fun h' kp => ?_) (by simp only [List.size_toArray] <;> omega)
    have J : Inv X pins σ H { s with heap := h' } := I.kept (t' := s.toks) kp
    refine ⟨.ref h'.objs.size, _, ?_, rfl, q h'.objs.size { cls := .type "tuple", data := .seq its.toArray } (J.hok.fresh (Nat.le_refl _)) rfl⟩
    exact J.laid (t' := s.toks) (fun _ _ e => Heap.get?_push_of_some _ e) (Nat.le_refl _) ⟨Heap.get?_push_size _ rfl, hz, its, rv, IsTup.new _ _⟩
  · exact call_tuple_of pins s σ H _ us Q I r ⟨p, ys, rfl, .inr h⟩
theorem cd_tuple : CaD X (.type "tuple") fTuple := ⟨_, call_tupleF, fun F P σ G H ρ xs ds d Q e t hf hq => by
  unfold fTuple at hf
  split at hf
  · cases hf
    obtain ⟨x, rfl, u⟩ := t.one
    obtain ⟨l, vs, rfl, h1, h2⟩ := u.lst e.gh
    refine ⟨_, _, rfl, .inl ⟨h1, fun p o n dn => ?_⟩⟩
    obtain ⟨G', s, e3, ro⟩ := e.newT n dn h2
    exact hq _ G' _ s e3 ro
  · cases hf
    obtain ⟨x, rfl, u⟩ := t.one
    have im := u.scal (fun _ => by simp) (fun _ _ _ => by simp)
    obtain ⟨l, vs, rfl, h1, h2⟩ := u.tup e.gh
    exact ⟨_, _, rfl, .inr ⟨h1, hq _ G H (Same.refl G) e im⟩⟩
  · cases hf⟩
/-! sorted of dInts, a list or a tuple -/
def insI (i : Int) : List Int → List Int
  | [] => [i]
  | j :: js => if i ≤ j then i :: j :: js else j :: insI i js
def srtI : List Int → List Int
  | [] => []
  | i :: is => insI i (srtI is)
theorem insI_perm (i : Int) : ∀ js : List Int, (insI i js).Perm (i :: js)
  | [] => .refl _
  | j :: js => by
    unfold insI
    split
    · exact .refl _
    · exact ((insI_perm i js).cons j).trans (.swap i j js)
theorem srtI_perm : ∀ is : List Int, (srtI is).Perm is
  | [] => .refl _
  | i :: is => (insI_perm i _).trans ((srtI_perm is).cons i)
theorem insI_sorted (i : Int) : ∀ {js : List Int}, js.Pairwise (· ≤ ·) → (insI i js).Pairwise (· ≤ ·)
  | [], _ => List.pairwise_singleton _ _
  | j :: js, h => by
    unfold insI
    rw [List.pairwise_cons] at h
    split
    · rename_i hij
      refine List.pairwise_cons.mpr ⟨fun x hx => ?_, List.pairwise_cons.mpr h⟩
      rcases List.mem_cons.mp hx with z | z
      · rw [z]
        exact hij
      · exact Int.le_trans hij (h.1 x z)
    · rename_i hij
      refine List.pairwise_cons.mpr ⟨fun x hx => ?_, insI_sorted i h.2⟩
      rcases List.mem_cons.mp ((insI_perm i js).mem_iff.mp hx) with z | z
      · rw [z]
        omega
      · exact h.1 x z
theorem srtI_sorted : ∀ is : List Int, (srtI is).Pairwise (· ≤ ·)
  | [] => .nil
  | i :: is => insI_sorted i (srtI_sorted is)
theorem sorted_eq : ∀ {xs ys : List Int}, xs.Perm ys → xs.Pairwise (· ≤ ·) → ys.Pairwise (· ≤ ·) → xs = ys
  | [], ys, p, _, _ => by rw [List.nil_perm.mp p]
  | x :: xs, [], p, _, _ => by cases p.length_eq
  | x :: xs, y :: ys, p, h1, h2 => by
    rw [List.pairwise_cons] at h1 h2
    have e : x = y := by
      have a : x ∈ y :: ys := p.mem_iff.mp (.head _)
      have b : y ∈ x :: xs := p.mem_iff.mpr (.head _)
      rcases List.mem_cons.mp a with a | a
      · exact a
      · rcases List.mem_cons.mp b with b | b
        · exact b.symm
        · exact Int.le_antisymm (h1.1 y b) (h2.1 x a)
    subst e
    rw [sorted_eq (List.perm_cons x |>.mp p) h1.2 h2.2]
def fSorted : List D → Option D
  | [.lst ds] => (dInts ds).map fun ns => .lst ((srtI ns).map .int)
  | _ => none
theorem cd_sorted : CaD X (.builtin "sorted") fSorted := ⟨_, cr_sortedI, fun F P σ G H ρ xs ds d Q e t hf hq => by
  unfold fSorted at hf
  split at hf
  · obtain ⟨ns, hb, rfl⟩ := map_some' hf
    obtain ⟨x, rfl, u⟩ := t.one
    obtain ⟨l, vs, rfl, h1, h2⟩ := u.lst e.gh
    obtain ⟨rfl, rfl⟩ := ims_ints h2 hb
    refine ⟨_, _, rfl, h1, fun ns' p k1 k2 n => ?_⟩
    rw [sorted_eq (k1.trans (srtI_perm ns).symm) k2 (srtI_sorted ns)]
    obtain ⟨e3, ro⟩ := e.newL n (ims_of_ints (A := amb X) (G := G) (srtI ns))
    exact hq _ G _ (Same.refl G) e3 ro
  · cases hf⟩
end
section
variable {X : Cx} {Y : Yc} {a b : Expr} {es : List Expr} {ma mb : M Rf} {ml mh : M (Option Int)} {ms : M (List Rf)} {x : Str} {p pos p2 : Pos} {f : List D → Option D} {id T : String}
theorem de_callB (h : CaD X (.builtin id) f) (hm : X.mg x = none) (ha : DA X Y (a :: es) ms) (hv : bootBuiltins x = some (.builtin id) := by rfl) (hg : Gl X x := by rfl) (hn : x ≠ "__name__" := by decide) (hdb : (x == ("__debug__" : Str)) = false := by decide)
    (he : starEach (a :: es) X.env = (false, eval a X.env) :: starEach es X.env := by rfl) (hpl : (backTo pos (starEach es X.env)).any (·.1) = false := by rfl) : DE X Y (.Call (.Name x p) (a :: es) [] pos) (eCall f ms) := by
  obtain ⟨r, hc, hr⟩ := h
  exact de_weak (pe_callB hc hg hm hv ha hn hdb he hpl) fun σ H Q q => call_tail hr q
theorem de_callT (h : CaD X (.type T) f) (hm : X.mg x = none) (ha : DA X Y (a :: es) ms) (hv : bootBuiltins x = some (.type T) := by rfl) (hg : Gl X x := by rfl) (hn : x ≠ "__name__" := by decide) (hdb : (x == ("__debug__" : Str)) = false := by decide)
    (he : starEach (a :: es) X.env = (false, eval a X.env) :: starEach es X.env := by rfl) (hpl : (backTo pos (starEach es X.env)).any (·.1) = false := by rfl) : DE X Y (.Call (.Name x p) (a :: es) [] pos) (eCall f ms) := by
  obtain ⟨r, hc, hr⟩ := h
  exact de_weak (pe_callTy hc hg hm hv ha hn hdb he hpl) fun σ H Q q => call_tail hr q
/-! -x -/
def eNeg (m : M Rf) : M Rf := bindM m fun x => match x with
  | .dat (.int i) => pureM (.dat (.int (-i)))
  | _ => failM
theorem de_neg (ha : DE X Y a ma) : DE X Y (.UnaryOp .USub a pos) (eNeg ma) :=
  PE.weak (pe_un un_neg ha) fun σ H Q ⟨F, P, G, ρ, r', er, e, hm, hp⟩ => tG_bind (Re := relE (amb X)) er e hm hp fun G1 H1 ρ1 x v s1 e1 ro hk => by
    cases x with
    | dat d =>
      cases d with
      | int i =>
        cases hk
        cases (show Im (amb X) G1 v (.int i) from ro)
        exact ⟨i, rfl, hp _ G1 H1 s1 e1 (.int _)⟩
      | _ => cases hk
    | _ => cases hk
/-! [..] * n -/
def eRep (ma mb : M Rf) : M Rf := bindM ma fun x => match x with
  | .new ds => bindM mb fun y => match y with
    | .dat (.int k) => if -(2 ^ 63) ≤ k ∧ k < 2 ^ 63 ∧ ds.length * k.toNat ≤ sizeLine then pureM (.new (List.replicate k.toNat ds).flatten) else failM
    | _ => failM
  | _ => failM
theorem de_rep (ha : DE X Y a ma) (hb : DE X Y b mb) : DE X Y (.BinOp a .Mult b pos) (eRep ma mb) :=
  PE.weak (pe_op op_rep ha hb) fun σ H Q ⟨F, P, G, ρ, r', er, e, hm, hp⟩ => tG_bind (Re := relE (amb X)) er e hm hp fun G1 H1 ρ1 x v s1 e1 ro hk => by
    cases x with
    | new ds =>
      obtain ⟨G2, l, vs, rfl, s2, e2, g2, i2⟩ := settle_new e1 ro
      refine tG_bind (Re := relE (amb X)) er e2 hk (hp.mono (s1.trans s2)) fun G3 H3 ρ3 y u s3 e3 ro3 hk3 => ?_
      cases y with
      | dat d =>
        cases d with
        | int k =>
          simp only at hk3
          split at hk3
          · rename_i c
            cases hk3
            cases (show Im (amb X) G3 u (.int k) from ro3)
            refine ⟨l, k, vs, rfl, rfl, e3.gh _ _ (s3 _ _ g2), c.1, c.2.1, by rw [i2.length]; exact c.2.2, fun p n => ?_⟩
            obtain ⟨e4, ro4⟩ := e3.newL n ((i2.mono s3).rep k.toNat)
            exact hp _ G3 _ ((s1.trans s2).trans s3) e4 ro4
          · cases hk3
        | _ => cases hk3
      | _ => cases hk3
    | _ => cases hk
/-! parts -/
def oNone : M (Option Int) := pureM none
def oSome (m : M Rf) : M (Option Int) := bindM m fun x => match x with
  | .dat (.int i) => pureM (some i)
  | _ => failM
theorem do_none : DO X Y none oNone := PO.weak po_none fun σ H Q ⟨F, P, G, ρ, r, er, e, hm, hp⟩ => by
  cases hm
  exact hp none G H (Same.refl G) e rfl
theorem do_some (h : DE X Y a ma) : DO X Y (some a) (oSome ma) := PO.weak (po_some h) fun σ H Q ⟨F, P, G, ρ, r, er, e, hm, hp⟩ => tG_bind (Re := relE (amb X)) er e hm hp fun G1 H1 ρ1 x v s1 e1 ro hk => by
    cases x with
    | dat d =>
      cases d with
      | int i =>
        cases hk
        cases (show Im (amb X) G1 v (.int i) from ro)
        exact ⟨i, rfl, hp _ G1 H1 s1 e1 rfl⟩
      | _ => cases hk
    | _ => cases hk
def cutD (xs : List D) (lo hi : Option Int) : List D := (xs.drop (HT.sIx xs.length 0 lo)).take (HT.sIx xs.length xs.length hi - HT.sIx xs.length 0 lo)
theorem Ims.cut {A : Amb} {G : Hp} {vs : List V} {ds : List D} (h : Ims A G vs ds) (lo hi : Option Int) : Ims A G (cutV vs lo hi) (cutD ds lo hi) := by
  unfold cutV cutD
  rw [h.length]
  exact (h.drop _).take _
def fCut : D → Option Int → Option Int → Option D
  | .lst ds, lo, hi => some (.lst (cutD ds lo hi))
  | .tup ds, lo, hi => some (.tup (cutD ds lo hi))
  | _, _, _ => none
def eCut (ma : M Rf) (ml mh : M (Option Int)) : M Rf := bindM ma fun x => bindM ml fun lo => bindM mh fun hi => bindM (drf (stl x)) fun d => optM ((fCut d lo hi).map mk)
theorem cut_all {n : Nat} {lo hi : Option Int} {α : Type} {xs : List α} (hn : xs.length = n) (h : HT.sIx n 0 lo = 0 ∧ HT.sIx n n hi = n) : (xs.drop (HT.sIx n 0 lo)).take (HT.sIx n n hi - HT.sIx n 0 lo) = xs := by
  rw [h.1, h.2, List.drop_zero, Nat.sub_zero, ← hn, List.take_length]
/-- t[lo:hi], the new object known -/
def rSlF (K : PySem.W.Frag) : V → Option Int → Option Int → Hp → VK → Prop := fun x lo hi H Q => ∃ a xs, x = .ref a ∧ SqT K H a xs ∧
  (HT.sIx xs.length 0 lo = 0 ∧ HT.sIx xs.length xs.length hi = xs.length → Q (.ref a) H) ∧ ∀ (p : Addr) (o : Obj), H p = none → o.dict = none → Q (.ref p) (upd H p (.frz o (.tup (cutV xs lo hi))))
theorem sl_tupF : SlR X (rSlF X.K) := by
  intro pins s σ H x v vl vu lo hi sl Q I rx hs pl pu h
  obtain ⟨a, xs, rfl, hx, q1, q2⟩ := h
  by_cases hw : HT.sIx xs.length 0 lo = 0 ∧ HT.sIx xs.length xs.length hi = xs.length
  · exact sl_tupA pins s σ H _ v vl vu lo hi sl Q I rx hs pl pu ⟨a, xs, rfl, hx, q1, fun z => absurd hw z⟩
  · cases rx
    obtain ⟨its, r, ht, hz⟩ := I.tuple hx
    have hn : its.toArray.size = xs.length := by rw [List.size_toArray]; exact r.length.symm
    refine ⟨"tuple", _, PyProof.Rows.slot_tuple_getitem.lookup, ht.typeIs, HT.getItem_tuple_cut ht hs pl pu (by rw [hn]; exact hw) ?_ (by rw [hn]; exact hz)⟩
    rw [hn]
    refine ⟨.ref s.heap.objs.size, _, ?_, rfl, q2 s.heap.objs.size { cls := .type "tuple", data := .seq ((its.drop (HT.sIx xs.length 0 lo)).take (HT.sIx xs.length xs.length hi - HT.sIx xs.length 0 lo)).toArray } (I.hok.fresh (Nat.le_refl _)) rfl⟩
    refine I.laid (t' := s.toks) (fun _ _ z => Heap.get?_push_of_some _ z) (Nat.le_refl _) ⟨Heap.get?_push_size _ rfl, Nat.le_trans (cutV_length xs lo hi) hz, _, (r.drop (HT.sIx xs.length 0 lo)).take (HT.sIx xs.length xs.length hi - HT.sIx xs.length 0 lo), IsTup.new _ _⟩
theorem de_cut {lo hi : Option Expr} (ha : DE X Y a ma) (hl : DO X Y lo ml) (hh : DO X Y hi mh) : DE X Y (.Subscript a (.Slice lo hi none p2) pos) (eCut ma ml mh) :=
  PE.weak (pe_slice (sl_list.or sl_tupF) ha hl hh) fun σ H Q ⟨F, P, G, ρ, r', er, e, hm, hp⟩ => tE_bind er e hm hp fun G1 H1 ρ1 x v s1 e1 so1 hm1 hp1 =>
    tG_bind (Re := relO) er e1 hm1 hp1 fun G2 H2 ρ2 lo l s2 e2 (r2 : l = lo) hm2 => by
      subst r2
      refine tG_bind (Re := relO) er e2 hm2 (hp1.mono s2) fun G3 H3 ρ3 hi h s3 e3 (r3 : h = hi) hm3 => ?_
      subst r3
      obtain ⟨d, hd, hm4⟩ := drf_ok hm3
      obtain ⟨z, hz, rfl⟩ := optM_ok hm4
      obtain ⟨c, hc, rfl⟩ := map_some' hz
      have t := top_of e3 ((so1.mono s2).mono s3) hd
      unfold fCut at hc
      split at hc
      · cases hc
        obtain ⟨p, vs, rfl, h1, h2⟩ := t.lst e3.gh
        refine .inl ⟨p, vs, rfl, h1, fun q n => ?_⟩
        obtain ⟨e4, ro⟩ := e3.newL n (h2.cut l h)
        exact hp1 _ G3 _ (s2.trans s3) e4 ro
      · cases hc
        have im := t.scal (fun _ => by simp) (fun _ _ _ => by simp)
        obtain ⟨p, vs, rfl, h1, h2⟩ := t.tup e3.gh
        refine .inr ⟨p, vs, rfl, h1, fun c => hp1 _ G3 _ (s2.trans s3) e3 ?_, fun q o n dn => ?_⟩
        · rename_i ds
          show Im (amb X) G3 (.ref p) (.tup (cutD ds l h))
          have : cutD ds l h = ds := cut_all rfl (by rw [← h2.length]; exact c)
          rw [this]
          exact im
        · obtain ⟨G4, s4, e4, ro⟩ := e3.newT n dn (h2.cut l h)
          exact hp1 _ G4 _ ((s2.trans s3).trans s4) e4 ro
      · cases hc
end
end Z

set_option Elab.async false
set_option linter.all false
set_option maxRecDepth 100000
set_option maxHeartbeats 4000000
/-! ZN: slices backwards; methods; isinstance; list(range ..); str; sorted of a tuple. -/
namespace PySem.AutoSeq1
open PySem PySem.Spec PyProof.Rows HT
section
variable {prog : Program} {w : World} {A : Around} {E : Value → Shared → Prop} {s : Shared}
theorem rev_pick (xs : Array Value) : ((List.range xs.size).filterMap fun (k : Nat) => xs[(((xs.size : Int) - 1) + (k : Int) * (-1)).toNat]?).toArray = xs.toList.reverse.toArray := by
  have e : (fun (k : Nat) => xs[(((xs.size : Int) - 1) + (k : Int) * (-1)).toNat]?) = (fun (j : Nat) => xs[j]?) ∘ fun k => xs.size - 1 - k := by
    funext k
    have : (((xs.size : Int) - 1) + (k : Int) * (-1)).toNat = xs.size - 1 - k := by omega
    rw [this]
    rfl
  have hr : (List.range xs.size).map (fun k => xs.size - 1 - k) = (List.range xs.size).reverse := by
    apply List.ext_getElem
    · simp
    · intro i h1 h2
      simp
  rw [e, ← List.filterMap_map, hr, List.filterMap_reverse]
  have h := pick_run xs 0 xs.size
  rw [List.drop_zero, List.take_of_length_le (by simp)] at h
  simp only [Nat.zero_add, List.map_id'] at h
  rw [← h]
theorem rev_applied {sl : Addr} {vs : Value} {n : Nat} {Q : Int × Int × Nat → Shared → Prop} (hs : s.heap.IsSliceOf sl .none .none vs) (ps : IsPart vs (some (-1))) (h : Q ((n : Int) - 1, -1, n) s) :
    wpAny (model prog w) A (Builtin.Slice.sliceApplied (.ref sl) (pure (n : Int))) Q E s := by
  obtain ⟨os, hos, hcs, hds⟩ := id hs
  unfold Builtin.Slice.sliceApplied Builtin.Slice.sliceFields
  refine wpAny_bind (wpAny_bind (wpAny_field hos hds (x := .none) rfl (wpAny_bind (wpAny_field hos hds (x := .none) rfl (wpAny_bind (wpAny_field hos hds (x := vs) rfl (wpAny_pure ?_)))))))
  refine wpAny_bind (slicePart_ ps ?_)
  show wpAny _ _ (if ((-1 : Int) == 0) = true then _ else _) _ _ s
  rw [if_neg (by decide)]
  refine wpAny_bind (slicePart_none (wpAny_bind (slicePart_none (wpAny_bind (wpAny_pure ?_)))))
  have e : Builtin.Slice.slicePlaces ((n : Int) - 1) (-1) (-1) = n := by
    unfold Builtin.Slice.slicePlaces
    rw [if_neg (by decide)]
    by_cases hn : (n : Int) - 1 > -1
    · rw [if_pos hn]
      have : ((n : Int) - 1 - -1 - 1) / (- -1) + 1 = n := by
        rw [show (- -1 : Int) = 1 by decide, Int.ediv_one]
        omega
      rw [this]
      simp
    · rw [if_neg hn]
      omega
  show wpAny _ _ (pure ((n : Int) - 1, -1, Builtin.Slice.slicePlaces ((n : Int) - 1) (-1) (-1))) _ _ s
  rw [e]
  exact wpAny_pure h
theorem tuple_rev {t sl : Addr} {xs : Array Value} {vs : Value} {Q : Value → Shared → Prop} (ht : IsTup s.heap t xs) (hs : s.heap.IsSliceOf sl .none .none vs) (ps : IsPart vs (some (-1)))
    (h : Q (.ref s.heap.objs.size) { s with heap := s.heap.push { cls := .type "tuple", data := .seq xs.toList.reverse.toArray } }) (hsz : xs.size ≤ sizeLine) : wpAny (model prog w) A (getItem (.ref t) (.ref sl)) Q E s := by
  have hz : sizeOk (.seq xs.toList.reverse.toArray) := by
    show xs.toList.reverse.toArray.size ≤ sizeLine
    simpa using hsz
  obtain ⟨os, hos, hcs, hds⟩ := id hs
  have hT : s.TypeIs (.ref sl) "slice" := ⟨os, hos, hcs⟩
  unfold getItem
  try with_reducible refine wpAny_holding ?_
  first | refine wpAny_bind (wpAny_pure ?_) | skip
  refine wpAny_bind (wpAny_sequenceKey ht.typeIs (by decide) ?_)
  refine wpAny_bind (wpAny_callSpecial?_slot (name := Str.ofString "__getitem__") ht.typeIs PyProof.Rows.slot_tuple_getitem
      (wpAny_call_entry PyProof.Rows.slot_tuple_getitem ht.typeIs entry_tuple_getitem ?_ (args_tuple_getitem _ _)))
  show wpAny _ _ (Builtin.Tuple.tupleItemsOf (.ref t) >>= _) _ _ s
  refine wpAny_bind (tupleItemsOf_ ht (wpAny_bind (wpAny_typeOf hT ?_)))
  rw [if_pos (by decide)]
  refine wpAny_bind (rev_applied hs ps ?_)
  show wpAny _ _ (if (((xs.size : Int) - 1) == 0 && (-1 : Int) == 1 && xs.size == xs.size) = true then _ else _) _ _ s
  rw [if_neg (by simp), rev_pick]
  first
    | exact wpAny_bind (m := Builtin.Tuple.tupleExact _) (wpAny_newObj_type (wpAny_pure ⟨_, rfl, wpAny_pure h⟩) hz)
    | exact wpAny_bind (m := Builtin.Tuple.tupleExact _) (wpAny_newObj_type (wpAny_bind (wpAny_pure (wpAny_pure ⟨_, rfl, wpAny_pure h⟩))) hz)
    | exact wpAny_bind (wpAny_bind (m := Builtin.Tuple.tupleExact _) (wpAny_newObj_type (wpAny_pure (wpAny_pure ⟨_, rfl, wpAny_pure h⟩)) hz))
    | exact wpAny_bind (wpAny_bind (m := Builtin.Tuple.tupleExact _) (wpAny_newObj_type (wpAny_pure ⟨_, rfl, wpAny_pure h⟩) hz))
end
end PySem.AutoSeq1
namespace Z
open PySem PySem.Spec PyProof.Rows L2
section
variable {X : Cx} {Y : Yc} {a b : Expr} {es : List Expr} {ma mb : M Rf} {ms : M (List Rf)} {pos : Pos}
/-- xs[::-1], a list or a tuple -/
def tRevF (K : PySem.W.Frag) (te : TE) : TE := fun σ H Q => te σ H fun x H1 => ∃ a xs, x = .ref a ∧
  ((SqL K H1 a xs ∧ ∀ p, H1 p = none → Q (.ref p) (upd H1 p (.lst xs.reverse))) ∨ (SqT K H1 a xs ∧ ∀ (p : Addr) (o : Obj), H1 p = none → o.dict = none → Q (.ref p) (upd H1 p (.frz o (.tup xs.reverse)))))
theorem pe_revF {e : Expr} {te : TE} {k : Nat} {p1 p2 p3 : Pos} (he : PE X e te) : PE X (.Subscript e (.Slice none none (some (.UnaryOp .USub (.Constant (.int 1) k p1) p2)) p3) pos) (tRevF X.K te) := by
  refine ⟨fun pins s σ H Q I h => Subscript_ (thn (he.run pins s σ H _ I h) ?_)⟩
  rintro v s1 ⟨x, H1, I1, r1, a, xs, rfl, hq⟩
  cases r1
  have hst : PO X (some (.UnaryOp .USub (.Constant (.int 1) k p1) p2)) (tPart (tUn (rU fun i => .int (-i)) (tC (.int 1)))) := po_some (pe_un un_neg pe_int)
  refine wpAny_Slice (thn (po_none.run pins s1 σ H1 (fun o h => o = none ∧ h = H1) I1 ⟨rfl, rfl⟩) ?_)
  rintro vl s2 ⟨l, _, I2, pl, rfl, rfl⟩
  refine thn (po_none.run pins s2 σ _ (fun o h => o = none ∧ h = _) I2 ⟨rfl, rfl⟩) ?_
  rintro vu s3 ⟨u, _, I3, pu, rfl, rfl⟩
  refine thn (hst.run pins s3 σ _ (fun o h => o = some (-1) ∧ h = _) I3 ⟨1, rfl, -1, rfl, rfl, rfl⟩) ?_
  rintro vs s4 ⟨o, _, I4, ps, rfl, rfl⟩
  cases pl
  cases pu
  have I5 := I4.kept (t' := s4.toks) (h' := s4.heap.push { cls := .type "slice", data := .fields #[.none, .none, vs] }) fun _ _ z => Heap.get?_push_of_some _ z
  rcases hq with ⟨hx, q⟩ | ⟨hx, q⟩
  · obtain ⟨its, r, ht, hz⟩ := I5.list hx
    have hn := r.length
    show wpAny (model X.prog X.w) X.A (subscriptTail e (.Slice none none (some (.UnaryOp .USub (.Constant (.int 1) k p1) p2)) p3) (.ref a) (.ref s4.heap.objs.size)) _ _
      { s4 with heap := s4.heap.push { cls := .type "slice", data := .fields #[.none, .none, vs] } }
    refine tail_any (ops := [.ref a, .ref s4.heap.objs.size]) ht.isList.typeIs (PySem.slot_list_getitem.lookup) ?_ (by with_unfolding_all rfl)
    refine wpAny_getItem_list_slice ht.isList (Heap.IsSliceOf.new _ .none .none vs) .none .none ps (by decide) ?_ (by rw [List.size_toArray]; omega)
    rw [PySem.W.krv_pick]
    refine ⟨.ref _, _, I5.laid (t' := s4.toks) (o := .lst xs.reverse) (fun _ _ z => Heap.get?_push_of_some _ z) (Nat.le_refl _) ?_, rfl, q _ (I5.hok.fresh (Nat.le_refl _))⟩
    exact ⟨by rw [List.length_reverse]; exact hz, _, 0, r.reverse, Heap.get?_push_size _ rfl⟩
  · obtain ⟨its, r, ht, hz⟩ := I5.tuple hx
    have hn := r.length
    show wpAny (model X.prog X.w) X.A (subscriptTail e (.Slice none none (some (.UnaryOp .USub (.Constant (.int 1) k p1) p2)) p3) (.ref a) (.ref s4.heap.objs.size)) _ _
      { s4 with heap := s4.heap.push { cls := .type "slice", data := .fields #[.none, .none, vs] } }
    refine tail_any (ops := [.ref a, .ref s4.heap.objs.size]) ht.typeIs (PyProof.Rows.slot_tuple_getitem.lookup) ?_ (by with_unfolding_all rfl)
    refine PySem.AutoSeq1.tuple_rev ht (Heap.IsSliceOf.new _ .none .none vs) ps ?_ (by rw [List.size_toArray]; omega)
    refine ⟨.ref _, _, I5.laid (t' := s4.toks) (o := .frz { cls := .type "tuple", data := .seq its.reverse.toArray } (.tup xs.reverse)) (fun _ _ z => Heap.get?_push_of_some _ z) (Nat.le_refl _) ?_, rfl, q _ { cls := .type "tuple", data := .seq its.reverse.toArray } (I5.hok.fresh (Nat.le_refl _)) rfl⟩
    exact ⟨Heap.get?_push_size _ rfl, by rw [List.length_reverse]; exact hz, _, r.reverse, IsTup.new _ _⟩
theorem Ims.rev {A : Amb} {G : Hp} : ∀ {vs : List V} {ds : List D}, Ims A G vs ds → Ims A G vs.reverse ds.reverse
  | _, _, .nil => .nil
  | _, _, .cons h r => by
    rw [List.reverse_cons, List.reverse_cons]
    exact Ims.append' (Ims.rev r) (.cons h .nil)
def fRev : D → Option D
  | .lst ds => some (.lst ds.reverse)
  | .tup ds => some (.tup ds.reverse)
  | _ => none
def eUn (f : D → Option D) (ma : M Rf) : M Rf := bindM ma fun x => bindM (drf (stl x)) fun p => optM ((f p).map mk)
theorem de_rev {k : Nat} {p1 p2 p3 : Pos} (ha : DE X Y a ma) : DE X Y (.Subscript a (.Slice none none (some (.UnaryOp .USub (.Constant (.int 1) k p1) p2)) p3) pos) (eUn fRev ma) :=
  PE.weak (pe_revF ha) fun σ H Q ⟨F, P, G, ρ, r', er, e, hm, hp⟩ => tE_bind er e hm hp fun G1 H1 ρ1 x v s1 e1 so1 hm1 hp1 => by
    obtain ⟨d, hd, hm2⟩ := drf_ok hm1
    obtain ⟨z, hz, rfl⟩ := optM_ok hm2
    obtain ⟨c, hc, rfl⟩ := map_some' hz
    have t := top_of e1 so1 hd
    unfold fRev at hc
    split at hc
    · cases hc
      obtain ⟨p, vs, rfl, h1, h2⟩ := t.lst e1.gh
      refine ⟨p, vs, rfl, .inl ⟨h1, fun q n => ?_⟩⟩
      obtain ⟨e4, ro⟩ := e1.newL n h2.rev
      exact hp1 _ G1 _ (Same.refl G1) e4 ro
    · cases hc
      obtain ⟨p, vs, rfl, h1, h2⟩ := t.tup e1.gh
      refine ⟨p, vs, rfl, .inr ⟨h1, fun q o n dn => ?_⟩⟩
      obtain ⟨G4, s4, e4, ro⟩ := e1.newT n dn h2.rev
      exact hp1 _ G4 _ s4 e4 ro
    · cases hc
/-! {} -/
def eDic0 : M Rf := pureM (.dat (.dic [] []))
theorem de_dic0 : DE X Y (.Dict [] [] pos) eDic0 := PE.weak pe_dnewK fun σ H Q ⟨F, P, G, ρ, r', er, e, hm, hp⟩ => fun p n => by
  cases hm
  obtain ⟨e1, s1⟩ := e.new (o := .dK []) n
  exact hp _ _ _ s1 e1 (.dic upd_same rfl .nil)
/-! list(range(..)) -/
def eLRg (lo hi : M Rf) : M Rf := bindM lo fun x => bindM hi fun y => match x, y with
  | .dat (.int i), .dat (.int j) => if -(2 ^ 62) ≤ i ∧ i < 2 ^ 62 ∧ -(2 ^ 62) ≤ j ∧ j < 2 ^ 62 ∧ (j - i).toNat ≤ 2 ^ 24 then pureM (.new (rangeD i (j - i).toNat)) else failM
  | _, _ => failM
theorem ims_rg {A : Amb} {G : Hp} (i j : Int) : Ims A G (rgV i j) (rangeD i (j - i).toNat) := by
  unfold rgV rangeD
  generalize (j - i).toNat = n
  have go : ∀ xs : List Nat, Ims A G (xs.map fun k => V.int (i + (k : Nat))) (xs.map fun (k : Nat) => D.int (i + k)) := fun xs => by
    induction xs with
    | nil => exact .nil
    | cons x xs ih => exact .cons (.int _) ih
  exact go _
theorem lrg_tail {σ : L2.St} {H : Hp} {Q : VK} (h : tG (amb X) Y (relE (amb X)) (eLRg ma mb) σ H Q) : tLstRg (tRg2 (tG (amb X) Y (relE (amb X)) ma) (tG (amb X) Y (relE (amb X)) mb)) σ H Q := by
  obtain ⟨F, P, G, ρ, r', er, e, hm, hp⟩ := h
  refine tG_bind (Re := relE (amb X)) er e hm hp fun G1 H1 ρ1 x v s1 e1 ro hk => tG_bind (Re := relE (amb X)) er e1 hk (hp.mono s1) fun G2 H2 ρ2 y u s2 e2 ro2 hk2 => ?_
  cases x with
  | dat d =>
    cases d with
    | int i =>
      cases y with
      | dat d2 =>
        cases d2 with
        | int j =>
          simp only at hk2
          split at hk2
          · rename_i c
            cases hk2
            cases (show Im (amb X) G1 v (.int i) from ro)
            cases (show Im (amb X) G2 u (.int j) from ro2)
            refine ⟨i, j, rfl, rfl, c, fun p n => ?_⟩
            obtain ⟨e4, ro4⟩ := e2.newL n (ims_rg i j)
            exact hp _ G2 _ (s1.trans s2) e4 ro4
          · cases hk2
        | _ => cases hk2
      | _ => cases hk2
    | _ => cases hk2
  | _ => cases hk2
theorem de_lrg2 {p p2 pos2 : Pos} (hc : X.calm = true) (hml : X.mg "list" = none) (hm : X.mg "range" = none) (ha : DE X Y a ma) (hb : DE X Y b mb) (hgl : Gl X "list" := by rfl) (hg : Gl X "range" := by rfl)
    (na : starEach [a, b] X.env = (false, eval a X.env) :: starEach [b] X.env := by rfl) (nb : starEach [b] X.env = (false, eval b X.env) :: starEach [] X.env := by rfl) (hp : (backTo pos2 (starEach [b] X.env)).any (·.1) = false := by rfl)
    (nl : starEach [.Call (.Name "range" p2) [a, b] [] pos2] X.env = (false, eval (.Call (.Name "range" p2) [a, b] [] pos2) X.env) :: starEach [] X.env := by rfl) :
    DE X Y (.Call (.Name "list" p) [.Call (.Name "range" p2) [a, b] [] pos2] [] pos) (eLRg ma mb) :=
  PE.weak (pe_listRg hc hgl hml (prg_2 hg hm ha hb na nb hp) nl) fun _ _ _ h => lrg_tail h
end
end Z

set_option Elab.async false
set_option linter.all false
set_option maxRecDepth 100000
set_option maxHeartbeats 4000000
/-! ZO: methods; isinstance; str; sorted of a tuple. -/
namespace Z
open PySem PySem.Spec PyProof.Rows L2
section
variable {X : Cx} {Y : Yc} {a b o : Expr} {es : List Expr} {ma mb mo : M Rf} {ms : M (List Rf)} {pos apos : Pos}
/-! methods that change our own list -/
def eLM (i : Nat) (f : List D → List D → Option (D × List D)) (ms : M (List Rf)) : M Rf := fun ρ => match ρ[i]? with
  | some (.cel _ (.lst _)) => bindM ms (fun xs => bindM (frzs xs) fun ds => fun ρ2 => match ρ2[i]? with
    | some (.cel p (.lst es)) => match f es ds with
      | some (d, es') => some (.ok (.dat d) (ρ2.set i (.cel p (.lst es'))))
      | none => none
    | _ => none) ρ
  | _ => none
/-- a method's rule does what f says -/
def RM (A : Amb) (r : V → List V → Hp → VK → Prop) (f : List D → List D → Option (D × List D)) : Prop := ∀ G H l vs es xs ds d es' (Q : VK), H l = some (.lst vs) → Ims A G vs es → Ims A G xs ds → f es ds = some (d, es') →
  (∀ v vs', Im A G v d → Ims A G vs' es' → Q v (upd H l (.lst vs'))) → r (.ref l) xs H Q
theorem lm_tail {i : Nat} {r : V → List V → Hp → VK → Prop} {f : List D → List D → Option (D × List D)} (hr : RM (amb X) r f) {σ : L2.St} {H : Hp} {Q : VK} (h : tG (amb X) Y (relE (amb X)) (eLM i f ms) σ H Q) :
    tBM X.K "list" r (tVar i) (tG (amb X) Y (relA (amb X)) ms) σ H Q := by
  obtain ⟨F, P, G, ρ, r', er, e, hm, hp⟩ := h
  unfold eLM at hm
  split at hm
  · rename_i p0 es0 q0
    obtain ⟨l, h1, ⟨vs0, h2, _⟩, _⟩ := e.cel i p0 _ q0
    refine ⟨.ref l, h1, .inl ⟨rfl, vs0, SqL.of h2⟩, ?_⟩
    refine tG_bind (Re := relA (amb X)) er e hm hp fun G1 H1 ρ1 xs vs s1 e1 so1 hm1 => ?_
    cases q : frzs xs ρ1 with
    | none =>
      rw [bindM_none q] at hm1
      cases hm1
    | some r1 =>
      obtain ⟨ds, ρ2, G2, rfl, s2, e2, im⟩ := frzs_ok e1 so1 q
      rw [bindM_ok q] at hm1
      split at hm1
      · rename_i p es q2
        obtain ⟨l', k1, ⟨ws, k2, k3⟩, _⟩ := e2.cel i p _ q2
        rw [h1] at k1
        cases k1
        split at hm1
        · rename_i d es' hf
          cases hm1
          refine hr G2 H1 l ws es vs ds d es' Q k2 k3 im hf fun v vs' i1 i2 => ?_
          exact hp v G2 _ (s1.trans s2) (e2.write q2 h1 ⟨vs', upd_same, i2⟩) i1
        · cases hm1
      · cases hm1
  · cases hm
theorem lm_tail0 {i : Nat} {r : V → List V → Hp → VK → Prop} {f : List D → List D → Option (D × List D)} (hr : RM (amb X) r f) {σ : L2.St} {H : Hp} {Q : VK} (h : tG (amb X) Y (relE (amb X)) (eLM i f aNil) σ H Q) : tBM0 X.K "list" r (tVar i) σ H Q := by
  have q := lm_tail hr h
  obtain ⟨x, h1, h2, F, P, G, ρ, r', er, e, hm, hp⟩ := q
  cases hm
  exact ⟨x, h1, h2, hp [] G H (Same.refl G) e .nil⟩
def fApp : List D → List D → Option (D × List D)
  | es, [d] => if es.length < sizeLine then some (.non, es ++ [d]) else none
  | _, _ => none
theorem rm_app : RM (amb X) rAppend fApp := fun G H l vs es xs ds d es' Q hl i1 i2 hf hq => by
  unfold fApp at hf
  split at hf
  · split at hf
    · rename_i hz
      cases hf
      cases i2 with
      | cons h r =>
        cases r
        exact ⟨l, vs, _, rfl, rfl, hl, by rw [i1.length]; exact hz, hq .non _ .non (i1.append' (.cons h .nil))⟩
    · cases hf
  · cases hf
def fPop : List D → List D → Option (D × List D)
  | es, [.int i] => if -(2 ^ 63) ≤ i ∧ i < 2 ^ 63 then (match seqIndex? i es.length with
    | some k => match es[k]? with
      | some d => some (d, es.eraseIdx k)
      | none => none
    | none => none) else none
  | _, _ => none
theorem rm_pop : RM (amb X) rPopAt fPop := fun G H l vs es xs ds d es' Q hl i1 i2 hf hq => by
  unfold fPop at hf
  split at hf
  · split at hf
    · rename_i c
      split at hf
      · rename_i k hk
        split at hf
        · rename_i y hy
          cases hf
          cases i2 with
          | cons h r =>
            cases r
            cases h
            obtain ⟨v, k1, k2⟩ := i1.get hy
            exact ⟨l, vs, _, k, v, rfl, rfl, hl, c.1, c.2, by rw [i1.length]; exact hk, k1, hq v _ k2 (i1.erase k)⟩
        · cases hf
      · cases hf
    · cases hf
  · cases hf
def fPop0 : List D → List D → Option (D × List D)
  | es, [] => match es[es.length - 1]? with
    | some d => some (d, es.dropLast)
    | none => none
  | _, _ => none
theorem rm_pop0 : RM (amb X) rPop fPop0 := fun G H l vs es xs ds d es' Q hl i1 i2 hf hq => by
  unfold fPop0 at hf
  split at hf
  · split at hf
    · rename_i y hy
      cases hf
      cases i2
      obtain ⟨v, k1, k2⟩ := i1.get hy
      exact ⟨l, vs, v, rfl, rfl, hl, by rw [i1.length]; exact k1, hq v _ k2 i1.dropLast⟩
    · cases hf
  · cases hf
theorem de_lm {id : String} {name : Str} {r : V → List V → Hp → VK → Prop} {i : Nat} {x : Str} {p : Pos} {f : List D → List D → Option (D × List D)} (slot : Slot "list" name id) (hty : typeOf (.builtin id) = pure (.type "method_descriptor")) (hmt : MtM X id r) (hr : RM (amb X) r f)
    (ho : PE X (.Name x p) (tVar i)) (ha : DA X Y (a :: es) ms) (hbase : attributeBase (.Name x p) name X.env (eval (.Name x p) X.env) = eval (.Name x p) X.env := by rfl)
    (hfew : ((backTo pos (starEach (a :: es) X.env)).all (fun x => !x.1) && (backToKw pos (keywordEach [] X.env)).all (fun x => x.1.isSome)
      && decide ((a :: es).length + ([] : List Keyword).length + (if ([] : List Keyword).isEmpty then 0 else 1) < 30)) = true := by rfl)
    (hline : (apos.endLine == pos.line) = true := by rfl) (hs : starEach (a :: es) X.env = (false, eval a X.env) :: starEach es X.env := by rfl) (hplain : (backTo pos (starEach es X.env)).any (·.1) = false := by rfl) :
    DE X Y (.Call (.Attribute (.Name x p) name apos) (a :: es) [] pos) (eLM i f ms) := PE.weak (pe_bm PySem.F.plainAttrs_list slot hty hmt ho ha hbase hfew hline hs hplain) fun _ _ _ h => lm_tail hr h
theorem de_lm0 {id : String} {name : Str} {r : V → List V → Hp → VK → Prop} {i : Nat} {x : Str} {p : Pos} {f : List D → List D → Option (D × List D)} (slot : Slot "list" name id) (hty : typeOf (.builtin id) = pure (.type "method_descriptor")) (hmt : MtM X id r) (hr : RM (amb X) r f)
    (ho : PE X (.Name x p) (tVar i)) (hbase : attributeBase (.Name x p) name X.env (eval (.Name x p) X.env) = eval (.Name x p) X.env := by rfl) (hline : (apos.endLine == pos.line) = true := by rfl) :
    DE X Y (.Call (.Attribute (.Name x p) name apos) [] [] pos) (eLM i f aNil) := PE.weak (pe_bm0 PySem.F.plainAttrs_list slot hty hmt ho hbase hline) fun _ _ _ h => lm_tail0 hr h
theorem de_app {i : Nat} {x : Str} {p : Pos} (ho : PE X (.Name x p) (tVar i)) (ha : DA X Y [a] ms) (hbase : attributeBase (.Name x p) "append" X.env (eval (.Name x p) X.env) = eval (.Name x p) X.env := by rfl)
    (hfew : ((backTo pos (starEach [a] X.env)).all (fun x => !x.1) && (backToKw pos (keywordEach [] X.env)).all (fun x => x.1.isSome)
      && decide ([a].length + ([] : List Keyword).length + (if ([] : List Keyword).isEmpty then 0 else 1) < 30)) = true := by rfl)
    (hline : (apos.endLine == pos.line) = true := by rfl) (hs : starEach [a] X.env = (false, eval a X.env) :: starEach [] X.env := by rfl) (hplain : (backTo pos (starEach [] X.env)).any (·.1) = false := by rfl) :
    DE X Y (.Call (.Attribute (.Name x p) "append" apos) [a] [] pos) (eLM i fApp ms) := de_lm F.slot_list_append F.type_list_append mt_append rm_app ho ha hbase hfew hline hs hplain
theorem de_pop {i : Nat} {x : Str} {p : Pos} (ho : PE X (.Name x p) (tVar i)) (ha : DA X Y [a] ms) (hbase : attributeBase (.Name x p) "pop" X.env (eval (.Name x p) X.env) = eval (.Name x p) X.env := by rfl)
    (hfew : ((backTo pos (starEach [a] X.env)).all (fun x => !x.1) && (backToKw pos (keywordEach [] X.env)).all (fun x => x.1.isSome)
      && decide ([a].length + ([] : List Keyword).length + (if ([] : List Keyword).isEmpty then 0 else 1) < 30)) = true := by rfl)
    (hline : (apos.endLine == pos.line) = true := by rfl) (hs : starEach [a] X.env = (false, eval a X.env) :: starEach [] X.env := by rfl) (hplain : (backTo pos (starEach [] X.env)).any (·.1) = false := by rfl) :
    DE X Y (.Call (.Attribute (.Name x p) "pop" apos) [a] [] pos) (eLM i fPop ms) := de_lm F.slot_list_pop F.type_list_pop mt_popAt rm_pop ho ha hbase hfew hline hs hplain
theorem de_pop0 {i : Nat} {x : Str} {p : Pos} (ho : PE X (.Name x p) (tVar i)) (hbase : attributeBase (.Name x p) "pop" X.env (eval (.Name x p) X.env) = eval (.Name x p) X.env := by rfl) (hline : (apos.endLine == pos.line) = true := by rfl) :
    DE X Y (.Call (.Attribute (.Name x p) "pop" apos) [] [] pos) (eLM i fPop0 aNil) := de_lm0 F.slot_list_pop F.type_list_pop mt_pop rm_pop0 ho hbase hline
/-! t.index(i), ints -/
def tyTup (K : PySem.W.Frag) (x : V) (H : Hp) : Prop := ∃ a ys, x = .ref a ∧ PlT K H a ys
theorem ty_tup : TyOk X "tuple" (tyTup X.K) := by
  intro pins σ H s x v I r ty
  obtain ⟨a, ys, rfl, h⟩ := ty
  cases r
  rcases h with ⟨o, h, d⟩ | ⟨o, its, n, h1, h0, h2, h3, h4, h5⟩
  · obtain ⟨g, _, its, rv, ht⟩ := I.hok a _ h
    exact ⟨ht.typeIs, fun b e => by cases e; exact ⟨o, g, d⟩⟩
  · exact ⟨⟨o, I.kIn a o h1, h2⟩, fun b e => by cases e; exact ⟨o, I.kIn a o h1, h0⟩⟩
def rIdxT (K : PySem.W.Frag) : V → List V → Hp → VK → Prop := fun x xs H Q => ∃ (a : Addr) (ns : List Int) (k : Int), x = .ref a ∧ xs = [.int k] ∧ SqT K H a (ns.map V.int) ∧ k ∈ ns ∧ Q (.int (ns.idxOf k : Nat)) H
theorem mt_idxT : MtR X "tuple.index" (rIdxT X.K) := by
  intro pins s σ H x xs v us Q I rx rs h
  obtain ⟨a, ns, k, rfl, rfl, hq, hk, q⟩ := h
  cases rx
  obtain ⟨u, rfl, t, rfl⟩ := vals1 rs
  obtain ⟨its, r, pl, hz⟩ := I.tuple hq
  exact PySem.SeqAt.tuple_index_ints pl r.ints hk ⟨.int _, H, I.tok _, ⟨_, rfl⟩, q⟩
def fIdxT : List D → List D → Option D
  | es, [.int k] => match dInts es with
    | some ns => if k ∈ ns then some (.int (ns.idxOf k : Nat)) else none
    | none => none
  | _, _ => none
def eTM (f : List D → List D → Option D) (mo : M Rf) (ms : M (List Rf)) : M Rf := bindM mo fun x => match x with
  | .dat (.tup es) => bindM ms fun xs => bindM (drfs xs) fun ds => optM ((f es ds).map mk)
  | _ => failM
theorem de_idxT (ho : DE X Y o mo) (ha : DA X Y [a] ms) (hbase : attributeBase o "index" X.env (eval o X.env) = eval o X.env := by rfl)
    (hfew : ((backTo pos (starEach [a] X.env)).all (fun x => !x.1) && (backToKw pos (keywordEach [] X.env)).all (fun x => x.1.isSome)
      && decide ([a].length + ([] : List Keyword).length + (if ([] : List Keyword).isEmpty then 0 else 1) < 30)) = true := by rfl)
    (hline : (apos.endLine == pos.line) = true := by rfl) (hs : starEach [a] X.env = (false, eval a X.env) :: starEach [] X.env := by rfl) (hplain : (backTo pos (starEach [] X.env)).any (·.1) = false := by rfl) :
    DE X Y (.Call (.Attribute o "index" apos) [a] [] pos) (eTM fIdxT mo ms) :=
  PE.weak (pe_mG ty_tup PySem.F.plainAttrs_tuple PySem.F.slot_tuple_index PySem.F.type_tuple_index mt_idxT ho ha hbase hfew hline hs hplain) fun σ H Q ⟨F, P, G, ρ, r', er, e, hm, hp⟩ =>
    tG_bind (Re := relE (amb X)) er e hm hp fun G1 H1 ρ1 x v s1 e1 ro hk => by
      split at hk
      · rename_i es
        cases (show Im (amb X) G1 v (.tup es) from ro) with
        | @tup l vs _ hl im =>
          refine ⟨⟨l, vs, rfl, same_plT e1.gh hl⟩, tG_bind (Re := relA (amb X)) er e1 hk (hp.mono s1) fun G2 H2 ρ2 xs ws s2 e2 so hk2 => ?_⟩
          obtain ⟨ds, d1, hm2⟩ := drfs_ok hk2
          obtain ⟨z, hz, rfl⟩ := optM_ok hm2
          obtain ⟨d, hd, rfl⟩ := map_some' hz
          have t := tops_of e2 so d1
          clear hm hm2 hk hk2 hz
          unfold fIdxT at hd
          split at hd
          · split at hd
            · rename_i ns hn
              split at hd
              · rename_i hmem
                cases hd
                obtain ⟨y, rfl, u⟩ := t.one
                obtain ⟨e3, e4⟩ := ims_ints im hn
                rw [u.int]
                exact ⟨l, ns, _, rfl, rfl, e3 ▸ same_sqT e2.gh (same_sqT s2 hl.sq), hmem, hp _ G2 H2 (s1.trans s2) e2 (.int _)⟩
              · cases hd
            · cases hd
          · cases hd
      · cases hk
/-! isinstance(x, T), T a built-in type -/
inductive Ty | int | bool | str | list | tuple | dict
def Ty.nm : Ty → String
  | .int => "int"
  | .bool => "bool"
  | .str => "str"
  | .list => "list"
  | .tuple => "tuple"
  | .dict => "dict"
def isTy : D → Ty → Option Bool
  | .non, _ => some false
  | .bl _, .bool => some true
  | .bl _, .int => some true
  | .bl _, _ => some false
  | .int _, .int => some true
  | .int _, _ => some false
  | .str _, .str => some true
  | .str _, _ => some false
  | .lst _, .list => some true
  | .lst _, _ => some false
  | .tup _, .tuple => some true
  | .tup _, _ => some false
  | .pr _, .tuple => some true
  | .pr _, _ => some false
  | .dic _ _, .dict => some true
  | .dic _ _, _ => some false
  | .ins _ _ _, _ => none
def D.ty : D → Option String
  | .non => some "NoneType"
  | .bl _ => some "bool"
  | .int _ => some "int"
  | .str _ => some "str"
  | .lst _ => some "list"
  | .tup _ => some "tuple"
  | .pr _ => some "tuple"
  | .dic _ _ => some "dict"
  | .ins _ _ _ => none
theorem isTy_kit {d : D} {t : Ty} {b : Bool} (h : isTy d t = some b) : ∃ n, d.ty = some n ∧ kitB n t.nm = some b := by
  cases d <;> cases t <;> first | (cases h; done) | (cases h; exact ⟨_, rfl, by decide +kernel⟩)
theorem sqL_ty {K : PySem.W.Frag} {H : Hp} {a : Addr} {xs : List V} (h : SqL K H a xs) : TyX K H (.ref a) (.type "list") := by
  rcases h with (h | ⟨o, h⟩) | ⟨o, its, n, h1, h2, _⟩
  · exact .base (.lst h)
  · exact .base (.frz h)
  · exact .kList h1 h2
theorem sqT_ty {K : PySem.W.Frag} {H : Hp} {a : Addr} {xs : List V} (h : SqT K H a xs) : TyX K H (.ref a) (.type "tuple") := by
  rcases h with (h | ⟨o, h⟩) | ⟨o, its, n, h1, h2, _⟩
  · exact .base (.tup h)
  · exact .fTuple h
  · exact .kTuple h1 h2
theorem Top.ty {A : Amb} {G H : Hp} (g : Same G H) {d : D} {v : V} {n : String} (h : Top A G H v d) (e : d.ty = some n) : TyX A.K H v (.type n) := by
  rcases h with h | ⟨l, vs, ds, rfl, rfl, h1, h2⟩ | ⟨l, C, dx, fs, c, ns, ds, rfl, rfl, m, h1, h2, h3⟩
  · cases h with
    | non =>
      cases e
      exact .base .non
    | bl b =>
      cases e
      exact .base (.bl b)
    | int i =>
      cases e
      exact .base (.int i)
    | str x =>
      cases e
      exact .base (.str x)
    | lst h r =>
      cases e
      exact sqL_ty (g.seq h)
    | tup h r =>
      cases e
      exact sqT_ty (same_sqT g h.sq)
    | pr h r =>
      cases e
      exact sqT_ty (same_sqT g h)
    | dic h n r =>
      cases e
      exact .base (.dK (g _ _ h))
    | ins m h n r => cases e
  · cases e
    exact .base (.lst h1)
  · cases e
def eIsi (t : Ty) (ma : M Rf) : M Rf := bindM ma fun x => bindM (drf (stl x)) fun d => optM ((isTy d t).map fun b => .dat (.bl b))
theorem de_isi {t : Ty} {p p2 : Pos} (hm : X.mg "isinstance" = none) (hmt : X.mg t.nm = none) (ha : DE X Y a ma) (hv : bootBuiltins t.nm = some (.type t.nm) := by rfl) (hgt : Gl X t.nm := by rfl) (hg : Gl X "isinstance" := by rfl) (hn : (t.nm : Str) ≠ "__name__" := by decide) (hdb : ((t.nm : Str) == ("__debug__" : Str)) = false := by decide)
    (he : starEach [a, .Name t.nm p2] X.env = (false, eval a X.env) :: starEach [.Name t.nm p2] X.env := by rfl) (he2 : starEach [.Name t.nm p2] X.env = (false, eval (.Name t.nm p2) X.env) :: starEach [] X.env := by rfl)
    (hpl : (backTo pos (starEach [.Name t.nm p2] X.env)).any (·.1) = false := by rfl) : DE X Y (.Call (.Name "isinstance" p) [a, .Name t.nm p2] [] pos) (eIsi t ma) :=
  PE.weak (pe_callB call_isi hg hm rfl (pa_cons ha (pa_cons (pe_bltn (v := .ty t.nm) hgt hmt hv rfl hn hdb) pa_nil he2) he) (by decide) (by decide) he hpl) fun σ H Q ⟨F, P, G, ρ, r', er, e, hm, hp⟩ =>
    tE_bind er e hm hp fun G1 H1 ρ1 x v s1 e1 so hk hp1 => by
      obtain ⟨d, hd, hm2⟩ := drf_ok hk
      obtain ⟨z, hz, rfl⟩ := optM_ok hm2
      obtain ⟨b, hb, rfl⟩ := map_some' hz
      obtain ⟨n, h1, h2⟩ := isTy_kit hb
      exact ⟨v, .ty t.nm, _, _, b, rfl, .ty _, (top_of e1 so hd).ty e1.gh h1, kit_ty h2, hp1 _ G1 H1 (Same.refl G1) e1 (.bl b)⟩
end
end Z

set_option Elab.async false
set_option linter.all false
set_option maxRecDepth 100000
set_option maxHeartbeats 4000000
/-! ZP: str of a list; sorted of a tuple. -/
namespace Z
open PySem PySem.Spec PyProof.Rows L2
mutual
/-- as text: as for ==, and {} -/
def D.tx : D → Option PyData
  | .non => some .none
  | .bl b => some (.bool b)
  | .int i => some (.int i)
  | .str x => some (.str x)
  | .lst ds => (D.txs ds).map .list
  | .tup ds => (D.txs ds).map .tuple
  | .pr ds => (D.txs ds).map .tuple
  | .dic [] [] => some (.dict [])
  | .dic _ _ => none
  | .ins _ _ _ => none
def D.txs : List D → Option (List PyData)
  | [] => some []
  | d :: ds => match D.tx d, D.txs ds with
    | some x, some xs => some (x :: xs)
    | _, _ => none
end
section
variable {X : Cx} {pins : List (Addr × Obj)} {σ : L2.St} {H G : Hp} {s : Shared}
abbrev RpR (P : Program) (w : World) (h : Heap) (u : Value) (x : PyData) : Prop := (∃ as, Reads h u x as) ∧ ∃ bs, ReadAtMost h x.depth bs ∧ ReprK P w bs h x.depth u x.shown
abbrev RpA (P : Program) (w : World) (h : Heap) (us : List Value) (xs : List PyData) : Prop := (∃ as, ReadsAll h us xs as) ∧ ∃ bs, ReadAtMost h (PyData.depthAll xs) bs ∧ ReprAllK P w bs h (PyData.depthAll xs) us (PyData.shownAll xs)
theorem RpA.cons {P : Program} {w : World} {h : Heap} {u : Value} {us : List Value} {x : PyData} {xs : List PyData} (h1 : RpR P w h u x) (h2 : RpA P w h us xs) : RpA P w h (u :: us) (x :: xs) := by
  obtain ⟨⟨as, r1⟩, b1, l1, k1⟩ := h1
  obtain ⟨⟨bs, r2⟩, b2, l2, k2⟩ := h2
  refine ⟨⟨_, .cons r1 r2⟩, b1 ++ b2, ?_, ?_⟩
  · simp only [PyData.depthAll]
    exact (l1.mono (Nat.le_max_left _ _)).append (l2.mono (Nat.le_max_right _ _))
  · simp only [PyData.depthAll, PyData.shownAll]
    exact .cons ((k1.more fun _ m => List.mem_append_left _ m).level_le (Nat.le_max_left _ _)) (k2.more_le (fun _ m => List.mem_append_right _ m) (Nat.le_max_right _ _))
theorem rp_list {P : Program} {w : World} {h : Heap} {a : Addr} {o : Obj} {us : List Value} {n : Nat} {xs : List PyData} (g : h.get? a = some o) (c : o.cls = .type "list") (d : o.data = .seq us.toArray n) (k : RpA P w h us xs) : RpR P w h (.ref a) (.list xs) := by
  obtain ⟨⟨as, r⟩, bs, l, q⟩ := k
  have rd : Reads h (.ref a) (.list xs) (a :: as) := .list g c d r
  have na : a ∉ bs := not_mem_of_deeper rd (by simp only [PyData.depth]; omega) l
  refine ⟨⟨_, rd⟩, a :: bs, ReadAtMost.cons rd (by simp only [PyData.depth]; omega) l, ?_⟩
  simp only [PyData.depth, PyData.shown]
  cases us with
  | nil =>
    cases r
    simp only [PyData.shownAll, listText_nil]
    exact ReprK.listEmpty g c d
  | cons u us => exact ReprK.list g c d na (by simpa using q.length_eq) fun i y e => q.item i y (by simpa using e)
theorem rp_tuple {P : Program} {w : World} {h : Heap} {a : Addr} {o : Obj} {us : List Value} {n : Nat} {xs : List PyData} (g : h.get? a = some o) (c : o.cls = .type "tuple") (d : o.data = .seq us.toArray n) (k : RpA P w h us xs) : RpR P w h (.ref a) (.tuple xs) := by
  obtain ⟨⟨as, r⟩, bs, l, q⟩ := k
  have rd : Reads h (.ref a) (.tuple xs) as := .tuple g c d r
  have na : a ∉ bs := not_mem_of_deeper rd (by simp only [PyData.depth]; omega) l
  refine ⟨⟨_, rd⟩, a :: bs, ReadAtMost.cons rd (by simp only [PyData.depth]; omega) l, ?_⟩
  simp only [PyData.depth, PyData.shown]
  exact ReprK.tuple g c d na q
theorem rp_dict {P : Program} {w : World} {h : Heap} {a : Addr} {o : Obj} {n : Nat} (g : h.get? a = some o) (c : o.cls = .type "dict") (d : o.data = .dict #[] n) (ns : (a == sysModules) = false) : RpR P w h (.ref a) (.dict []) := by
  have rd : Reads h (.ref a) (.dict []) (a :: [] ++ []) := .dict g c d .nil .nil
  refine ⟨⟨_, rd⟩, [a], ReadAtMost.cons rd (Nat.zero_le _) (fun _ m => nomatch m), ?_⟩
  have k : ReprEntriesK P w [] h 0 (#[] : Array DictEntry).toList _ := ReprEntriesK.of_two [] [] [] .nil .nil
  simp only [PyData.depth, PyData.shown, PyData.shownKv]
  exact ReprK.dict g c d ns (fun m => nomatch m) k
mutual
theorem Im.rp {P' : Program} {w' : World} (I : Inv X pins σ H s) (g : Same G H) : ∀ {d : D} {v : V} {u : Value} {x : PyData}, Im (amb X) G v d → RelV v u → d.tx = some x → x.showable = true → x.shown.length ≤ sizeLine → RpR P' w' s.heap u x
  | .non, _, _, _, h, r, e, _, _ => by
    cases h
    cases e
    cases r
    exact ⟨⟨_, .none⟩, [], (fun _ h => nomatch h), by simp only [PyData.shown]; exact .of_is ReprIs.none _ _ _⟩
  | .bl b, _, _, _, h, r, e, _, _ => by
    cases h
    cases e
    cases r
    exact ⟨⟨_, .bool b⟩, [], (fun _ h => nomatch h), by simp only [PyData.shown]; exact .of_is (ReprIs.bool b) _ _ _⟩
  | .int i, _, _, _, h, r, e, hs, _ => by
    cases h
    cases e
    obtain ⟨t, rfl⟩ := r
    exact ⟨⟨_, .int i t⟩, [], (fun _ h => nomatch h), by simp only [PyData.shown]; exact .of_is (ReprIs.int t (by simpa [PyData.showable] using hs)) _ _ _⟩
  | .str x, _, _, _, h, r, e, _, hz => by
    cases h
    cases e
    obtain ⟨t, rfl⟩ := r
    exact ⟨⟨_, .str x t⟩, [], (fun _ h => nomatch h), by simp only [PyData.shown]; exact .of_is (ReprIs.str x t (by simpa only [PyData.shown] using hz)) _ _ _⟩
  | .lst ds, _, _, _, h, r, e, hs, hz => by
    unfold D.tx at e
    obtain ⟨xs, e1, rfl⟩ := map_some' e
    cases h with
    | lst h k =>
      cases r
      obtain ⟨its, rv, ⟨o, n, ho, hc, _, hd⟩, _⟩ := I.list (g.seq h)
      have hz : (listText (PyData.shownAll xs)).length ≤ sizeLine := by simpa only [PyData.shown] using hz
      exact rp_list ho hc hd (Ims.rp I g k rv e1 (by simpa [PyData.showable] using hs) fun t ht => Nat.le_trans (listText_mem_le ht) hz)
  | .tup ds, _, _, _, h, r, e, hs, hz => by
    unfold D.tx at e
    obtain ⟨xs, e1, rfl⟩ := map_some' e
    cases h with
    | tup h k =>
      cases r
      obtain ⟨its, rv, ⟨o, ho, hc, n, hd⟩, _⟩ := I.tuple (same_sqT g h.sq)
      have hz : (tupleText (PyData.shownAll xs)).length ≤ sizeLine := by simpa only [PyData.shown] using hz
      exact rp_tuple ho hc hd (Ims.rp I g k rv e1 (by simpa [PyData.showable] using hs) fun t ht => Nat.le_trans (tupleText_mem_le ht) hz)
  | .pr ds, _, _, _, h, r, e, hs, hz => by
    unfold D.tx at e
    obtain ⟨xs, e1, rfl⟩ := map_some' e
    cases h with
    | pr h k =>
      cases r
      obtain ⟨its, rv, ⟨o, ho, hc, n, hd⟩, _⟩ := I.tuple (same_sqT g h)
      have hz : (tupleText (PyData.shownAll xs)).length ≤ sizeLine := by simpa only [PyData.shown] using hz
      exact rp_tuple ho hc hd (Ims.rp I g k rv e1 (by simpa [PyData.showable] using hs) fun t ht => Nat.le_trans (tupleText_mem_le ht) hz)
  | .dic [] [], _, _, _, h, r, e, _, _ => by
    cases e
    cases h with
    | @dic a kvs _ _ h k _ =>
      cases r
      have hk : kvs = [] := List.map_eq_nil_iff.mp k
      subst hk
      obtain ⟨_, ns, vs, rel, o, es, ep, ho, ex, hd, _, hp, _⟩ := I.hok a _ (g _ _ h)
      cases rel
      cases hes : es.toList with
      | cons e0 er =>
        rw [hes] at hp
        cases hp
      | nil =>
        have : es = #[] := by
          rw [← Array.toArray_toList (xs := es), hes]
        subst this
        exact rp_dict ho ex.1 hd ns
  | .dic (_ :: _) _, _, _, _, _, _, e, _, _ => by
    unfold D.tx at e
    cases e
  | .dic [] (_ :: _), _, _, _, _, _, e, _, _ => by
    unfold D.tx at e
    cases e
  | .ins _ _ _, _, _, _, _, _, e, _, _ => by
    unfold D.tx at e
    cases e
theorem Ims.rp {P' : Program} {w' : World} (I : Inv X pins σ H s) (g : Same G H) : ∀ {ds : List D} {vs : List V} {us : List Value} {xs : List PyData}, Ims (amb X) G vs ds → Vals vs us → D.txs ds = some xs → PyData.showableAll xs = true → (∀ t ∈ PyData.shownAll xs, t.length ≤ sizeLine) → RpA P' w' s.heap us xs
  | [], _, _, _, h, r, e, _, _ => by
    unfold D.txs at e
    cases h
    cases e
    cases r
    exact ⟨⟨_, .nil⟩, [], (fun _ h => nomatch h), by simp only [PyData.shownAll]; exact .nil⟩
  | d :: ds, _, _, _, h, r, e, hs, hz => by
    unfold D.txs at e
    cases h with
    | cons h k =>
      cases r with
      | cons r1 r2 =>
        cases e1 : d.tx with
        | none =>
          rw [e1] at e
          cases e
        | some x =>
          cases e2 : D.txs ds with
          | none =>
            rw [e1, e2] at e
            cases e
          | some xs =>
            rw [e1, e2] at e
            cases e
            have hs : x.showable = true ∧ PyData.showableAll xs = true := by simpa [PyData.showableAll] using hs
            exact .cons (Im.rp I g h r1 e1 hs.1 (hz _ (by simp only [PyData.shownAll]; exact .head _))) (Ims.rp I g k r2 e2 hs.2 fun t ht => hz t (by simp only [PyData.shownAll]; exact .tail _ ht))
end
/-- str(xs) -/
def fStr : List D → Option D
  | [.lst ds] => match D.txs ds with
    | some xs => if PyData.showableAll xs = true ∧ (listText (PyData.shownAll xs)).length ≤ sizeLine ∧ PyData.depthAll xs ≤ 40 then some (.str (listText (PyData.shownAll xs))) else none
    | none => none
  | _ => none
def rStr (X : Cx) : List V → Hp → VK → Prop := fun vs H Q => ∃ (G : Hp) (a : Addr) (us : List V) (ds : List D) (xs : List PyData), vs = [.ref a] ∧ Same G H ∧ SqL X.K H a us ∧ Ims (amb X) G us ds ∧ D.txs ds = some xs ∧
  PyData.showableAll xs = true ∧ (listText (PyData.shownAll xs)).length ≤ sizeLine ∧ PyData.depthAll xs ≤ 40 ∧ Q (.str (listText (PyData.shownAll xs))) H
theorem call_strL (hg : X.A.guards = some []) (hu : X.A.units + 64 < cLine) : CallR X (.type "str") (rStr X) := by
  intro pins s σ H vs us Q I r h
  obtain ⟨G, a, ws, ds, xs, rfl, g, hq, im, e, hs, hz, hd, q⟩ := h
  obtain ⟨u, rfl, rx⟩ := vals1 r
  cases rx
  obtain ⟨its, rv, ⟨o, n, ho, hc, _, hda⟩, _⟩ := I.list hq
  have fin : ∀ h' u tk, (∀ b o, s.heap.get? b = some o → h'.get? b = some o) → EP X pins σ Q (.str (listText (PyData.shownAll xs)) u) { s with heap := h', toks := tk } := fun h' u tk hk => ⟨.str _, H, I.kept hk, ⟨u, rfl⟩, q⟩
  refine callType_new F.called_str (by decide) (F.typeCall_str_1 _) (F.newCall_str_1 _) (fun obj => F.args_object_init_2 obj _) F.entry_str_new
    (meets_str_new (S := fun A' R s' => A'.guards = some [] ∧ A'.units + 50 < cLine ∧ (∀ b o, s.heap.get? b = some o → s'.heap.get? b = some o) ∧
        ∀ h' u tk, (∀ b o, s'.heap.get? b = some o → h'.get? b = some o) → R (.ok (.ret (.str (listText (PyData.shownAll xs)) u))) { s' with heap := h', toks := tk }) ?_)
    ⟨hg, by show X.A.units + 1 + 50 < cLine; omega, fun _ _ z => z, fun h' u tk hk => ⟨typeIs_str _ _ _, fin h' u tk hk⟩⟩
  intro P' w' A' R s' ⟨h1, h2, h3, h4⟩
  refine wpAny_strOf_slot rfl (by show A'.units + 1 + 1 < cLine; omega) ⟨o, h3 _ _ ho, hc⟩ F.slot_list_str F.slot_list_repr.toG ?_
  obtain ⟨⟨as, rd⟩, bs, l, k⟩ : RpA P' w' s.heap its xs := Ims.rp I g im rv e hs fun t ht => Nat.le_trans (listText_mem_le ht) hz
  have rd' : Reads s.heap (.ref a) (.list xs) (a :: as) := .list ho hc hda rd
  have na : a ∉ bs := not_mem_of_deeper rd' (by simp only [PyData.depth]; omega) l
  cases its with
  | nil =>
    cases rd
    simp only [PyData.shownAll, listText_nil] at h4
    exact call_list_repr_empty ⟨o, h3 _ _ ho, hc⟩ (h3 _ _ ho) hda ⟨_, _, rfl, h4 s'.heap _ _ fun _ _ z => z⟩
  | cons y ys =>
    exact call_list_reprK ho hc hda na (by simpa using k.length_eq) (fun i z e => k.item i z (by simpa using e)) h1 (fun b _ => Clear.nil b) (by show A'.units + 1 + 1 + (PyData.depthAll xs + 1) < cLine; omega) h3 (fun h' u tk hk => ⟨_, _, rfl, h4 h' u tk hk⟩) hz
theorem cd_str (hg : X.A.guards = some []) (hu : X.A.units + 64 < cLine) : CaD X (.type "str") fStr := ⟨_, call_strL hg hu, fun F P σ G H ρ xs ds d Q e t hf hq => by
  unfold fStr at hf
  split at hf
  · split at hf
    · rename_i ys hy
      split at hf
      · rename_i c
        cases hf
        obtain ⟨x, rfl, u⟩ := t.one
        rcases u with im | ⟨l, vs, ds', rfl, hd, h1, h2⟩ | ⟨_, _, _, _, _, _, _, _, hd, _⟩
        · cases im with
          | lst h r => exact ⟨G, _, _, _, ys, rfl, e.gh, e.gh.seq h, r, hy, c.1, c.2.1, c.2.2, hq _ G H (Same.refl G) e (.str _)⟩
        · cases hd
          exact ⟨G, l, vs, _, ys, rfl, e.gh, SqL.of h1, h2, hy, c.1, c.2.1, c.2.2, hq _ G H (Same.refl G) e (.str _)⟩
        · cases hd
      · cases hf
    · cases hf
  · cases hf⟩
/-! sorted of a tuple -/
theorem collect_tup {prog : Program} {w : World} {A : Around} {E : Value → Shared → Prop} {a : Addr} {vs : List Value} {Q : List Value → Shared → Prop} (hl : IsTup s.heap a vs.toArray)
    (h : Q vs { s with heap := (s.heap.push (seqObj "list" #[] 0)).update s.heap.objs.size (Obj.mapSeq (· ++ vs.toArray)) }) (hsz : vs.length ≤ sizeLine) : wpAny (model prog w) A (collect (.ref a)) Q E s := by
  obtain ⟨o, ho, hc, n, hd⟩ := id hl
  unfold collect
  refine wpAny_bind (wpAny_runValue (codeAny_builtin entry_proto_collect' ?_))
  show wpAny _ _ (do again (.builtin "list.__iadd__" ⟨[← newList [], .ref a], []⟩)) _ _ s
  refine wpAny_bind (wpAny_newList (wpAny_pure ⟨Code.quiet_builtin _ (by decide +kernel), codeAny_builtin entry_list_iadd' ?_⟩))
  show wpAny _ _ (Builtin.List.listExtendWith (.ref s.heap.objs.size) (.ref a) (.ref s.heap.objs.size)) _ _
    { s with heap := s.heap.push (seqObj "list" #[] 0) }
  unfold Builtin.List.listExtendWith
  have ho2 : (s.heap.push (seqObj "list" #[] 0)).get? a = some o := Heap.get?_push_of_some _ ho
  refine wpAny_bind (wpAny_typeOf (T := "tuple") ⟨o, ho2, hc⟩ ?_)
  have ht : (Value.type "tuple" == Value.type "tuple") = true := by rfl
  rw [if_pos (by rw [ht]; simp)]
  refine wpAny_bind (listItems_at ho2 hd (wpAny_bind (listItems_at (xs := #[]) (n := 0) (Heap.get?_push_size _ rfl) rfl ?_)))
  rw [if_neg (by simp)]
  refine wpAny_bind (listUpdate_at (xs := #[]) (n := 0) (Heap.get?_push_size _ rfl) rfl ?_ (Nat.zero_le _) ?_)
  · refine wpAny_pure ?_
    show wpAny (model prog w) A (do
        let o ← load s.heap.objs.size
        match o.data with
        | .seq xs _ => pure xs.toList
        | _ => unsupported "internal:collect") Q E _
    refine wpAny_bind (wpAny_load (get?_update_seq (Heap.get?_push_size _ rfl) _) ?_)
    show wpAny _ _ (pure ((#[] : Array Value) ++ vs.toArray).toList) Q E _
    rw [show ((#[] : Array Value) ++ vs.toArray).toList = vs by simp]
    exact wpAny_pure h
  · show (#[] ++ vs.toArray).size ≤ sizeLine + 1
    simp only [Array.size_append, List.size_toArray, List.length_nil]
    omega
end
end Z

set_option Elab.async false
set_option linter.all false
set_option maxRecDepth 100000
set_option maxHeartbeats 4000000
/-! ZQ: sorted of a tuple of ints. -/
namespace SrtO
open PySem PySem.Spec PyProof.Rows
section
variable {prog : Program} {w : World} {A : Around} {E : Value → Shared → Prop} {s : Shared}
theorem sorted_tupO {l : Addr} {vs : List Value} {lt : Value → Value → Bool} {Q : Value → Shared → Prop} (O : Swo lt) (hl : IsTup s.heap l vs.toArray) (hz : vs.length ≤ sizeLine)
    (hS : 2 ≤ vs.length → ∀ (h₁ : Heap) (a : Addr), h₁.get? a = some (seqObj "list" vs.toArray 0) → (∀ b o, s.heap.get? b = some o → b ≠ a ∧ h₁.get? b = some o) → SortableO prog w A.in1.in1 { s with heap := h₁ } a vs lt)
    (h : ∀ out : List Value, Srtd lt out → Stb lt out vs → Q (.ref (s.heap.objs.size + 1)) { s with heap := sortedAll s.heap vs out.toArray }) : wpAny (model prog w) A (call (.builtin "sorted") [.ref l]) Q E s := by
  refine Calls.call_function_entry kind_sorted plain_sorted entry_sorted (args_sorted1 _) ?_
  unfold Builtin.«sorted»
  refine wpAny_bind (m := checkCount "sorted" 1 1 _) (wpAny_pure (wpAny_bind (Z.collect_tup hl (wpAny_bind (wpAny_newList ?_ hz)) hz)))
  have h1 : ((s.heap.push (seqObj "list" #[] 0)).update s.heap.objs.size (Obj.mapSeq (· ++ vs.toArray))).objs.size = s.heap.objs.size + 1 := by
    rw [Heap.size_update]
    exact size_push' ..
  have at_ : (((s.heap.push (seqObj "list" #[] 0)).update s.heap.objs.size (Obj.mapSeq (· ++ vs.toArray))).push (seqObj "list" vs.toArray 0)).get? (s.heap.objs.size + 1) = some (seqObj "list" vs.toArray 0) := by
    rw [← h1]
    exact Heap.get?_push_size _ rfl
  have old : ∀ b o, s.heap.get? b = some o → b ≠ s.heap.objs.size + 1 ∧ (((s.heap.push (seqObj "list" #[] 0)).update s.heap.objs.size (Obj.mapSeq (· ++ vs.toArray))).push (seqObj "list" vs.toArray 0)).get? b = some o := by
    intro b o q
    have lt := Heap.lt_size q
    refine ⟨Nat.ne_of_lt (Nat.lt_succ_of_lt lt), Heap.get?_push_of_some _ ?_⟩
    rw [Heap.get?_update_ne _ _ _ _ (Nat.ne_of_lt lt)]
    exact Heap.get?_push_of_some _ q
  show wpAny _ _ _ _ _ { s with heap := (((s.heap.push (seqObj "list" #[] 0)).update s.heap.objs.size (Obj.mapSeq (· ++ vs.toArray))).push (seqObj "list" vs.toArray 0)) }
  rw [h1]
  refine wpAny_bind (wpAny_holding (wpAny_call_entry slot_list_sort ⟨_, at_, rfl⟩ entry_list_sort (list_sort_ord O at_ hz (fun h2 => hS h2 _ _ at_ old) fun out k1 k2 => ⟨_, rfl, ?_⟩) (args_list_sort _)))
  exact wpAny_pure ⟨_, rfl, h out k1 k2⟩
end
end SrtO
namespace Z
open PySem PySem.Spec PyProof.Rows L2
section
variable {X : Cx}
def rSrtT (K : PySem.W.Frag) : List V → Hp → VK → Prop := fun vs H Q => ∃ (a : Addr) (ns : List Int), vs = [V.ref a] ∧ SqT K H a (ns.map V.int) ∧ ∀ (ms : List Int) (p : Addr), ms.Perm ns → ms.Pairwise (· ≤ ·) → H p = none → Q (.ref p) (upd H p (.lst (ms.map V.int)))
theorem cr_srtT : CallR X (.builtin "sorted") (rSrtT X.K) := by
  intro pins s σ H vs us Q I r h
  obtain ⟨a, ns, rfl, hs, q⟩ := h
  obtain ⟨its, rv, hl, hz⟩ := I.tuple hs
  rw [Vals.ref1 r]
  have hi := rv.ints
  refine SrtO.sorted_tupO SrtO.swo_int hl (by rw [← rv.length]; exact hz) (fun h2 _ _ _ _ => SrtO.ints_sortable hi h2) fun out h1 h2 => ?_
  obtain ⟨k1, k2, k3⟩ := SrtO.ints_out hi h1 h2
  obtain ⟨ep, he⟩ := PyProof.Rows.sortedAll_at s.heap its out.toArray
  rw [List.length_map] at hz
  have hlen : ((out.map SrtO.iv).map V.int).length ≤ sizeLine := by
    rw [List.length_map, k2.length_eq]
    exact hz
  refine ⟨.ref _, _, ?_, rfl, q _ (s.heap.objs.size + 1) k2 k3 (I.hok.fresh (Nat.le_succ _))⟩
  exact I.laid (t' := s.toks) (fun _ _ => PyProof.Rows.sortedAll_old) (Nat.le_succ _) ⟨hlen, out, ep, vals_of_ints k1, he⟩
def fSortedT : List D → Option D
  | [.tup ds] => (dInts ds).map fun ns => .lst ((srtI ns).map .int)
  | _ => none
theorem cd_sortedT : CaD X (.builtin "sorted") fSortedT := ⟨_, cr_srtT, fun F P σ G H ρ xs ds d Q e t hf hq => by
  unfold fSortedT at hf
  split at hf
  · obtain ⟨ns, hb, rfl⟩ := map_some' hf
    obtain ⟨x, rfl, u⟩ := t.one
    obtain ⟨l, vs, rfl, h1, h2⟩ := u.tup e.gh
    obtain ⟨rfl, rfl⟩ := ims_ints h2 hb
    refine ⟨_, _, rfl, h1, fun ns' p k1 k2 n => ?_⟩
    rw [sorted_eq (k1.trans (srtI_perm ns).symm) k2 (srtI_sorted ns)]
    obtain ⟨e3, ro⟩ := e.newL n (ims_of_ints (A := amb X) (G := G) (srtI ns))
    exact hq _ G _ (Same.refl G) e3 ro
  · cases hf⟩
def fSort : List D → Option D := fun xs => orD (fSorted xs) (fSortedT xs)
theorem cd_sort : CaD X (.builtin "sorted") fSort := cd_sorted.or cd_sortedT
end
end Z

set_option Elab.async false
set_option linter.all false
set_option maxRecDepth 100000
set_option maxHeartbeats 4000000
/-! ZR: the end: the law's def keeps its promise by mirror, so the law holds. -/
namespace Z
open PySem PySem.Spec PyProof.Rows L2
theorem guards0 : callerA.guards = some [] := by rfl
theorem law_callZ {P : Program} {w : World} {K : PySem.W.Frag} {mg mb : Str → Option Value} {k : Nat} {fa a : Addr} {fd : FuncData} {x : Str} {fn : Fn} {s₁ : Shared} {vs : List Value} {ns : List Int}
    (KX : K.In s₁.heap) (hns : s₁.heap.Ns mainGlobals mg) (hb : s₁.heap.Ns builtinsNs mb) (hbb : ∀ y : Str, y ≠ "__name__" → mb y = bootBuiltins y) (hlim : s₁.heap.NoLimit) (hg : s₁.gens = #[])
    (ha : s₁.heap.get? a = some { cls := .type "list", data := .seq vs.toArray }) (hi : IntsAre vs ns) (hl : ns.length ≤ sizeLine) (hr : Room k callerA)
    (F : ∀ base : Heap, K.In base → base.Ns mainGlobals mg → FnZ P w K mg base k fa fd [x] fn) (hbind : ∀ (s : Shared) (u : Value), BindsTo s fd ⟨[u], []⟩ [(x, u)])
    (hfn : fn [.val (.lst (ns.map .int))] = some (.ret false (.bl true) [])) :
    codeAny (model P w) callerA (.call (.ref fa) ⟨[.ref a], []⟩) (fun r s' => r = .ok (.ret (.bool true)) ∧ OldK s₁.heap s'.heap ∧ s'.os = s₁.os ∧ AllBare s'.gens) s₁ := by
  have rv := vals_ints hi
  have core : ∀ H : Hp, Only H → SqL K H a (ns.map V.int) → HOk P w H s₁.heap → (∀ b, H b ≠ none → b = a) → (H a ≠ none → K.lookup a = none) →
      codeAny (model P w) callerA (.call (.ref fa) ⟨[.ref a], []⟩)
        (fun r s' => r = .ok (.ret (.bool true)) ∧ OldK s₁.heap s'.heap ∧ s'.os = s₁.os ∧ AllBare s'.gens) s₁ := by
    intro H hO hS hok only hK
    have isA : ∀ {b : Addr} {u : HO}, H b = some u → b = a := fun {b u} q => only b (by rw [q]; simp)
    have dct : ∀ {b : Addr} {o : Obj} {es : Array DictEntry} {ep : Nat}, s₁.heap.get? b = some o → o.data = .dict es ep → H b = none := by
      intro b o es ep e d
      cases q : H b with
      | none => rfl
      | some u =>
        have z := isA q
        subst z
        rw [ha] at e
        cases e
        exact nomatch (show Data.seq vs.toArray _ = Data.dict es ep from d)
    have nsK : ∀ {b : Addr} {m : Str → Option Value}, s₁.heap.Ns b m → (hidT s₁.heap H).Ns b m := by
      rintro b m ⟨o, es, ep, e, d, r⟩
      exact ⟨o, es, ep, hidT_get e (dct e d), d, r⟩
    have kin : K.In (hidT s₁.heap H) := by
      intro b o e
      refine hidT_get (KX b o e) ?_
      cases q : H b with
      | none => rfl
      | some u =>
        have z := isA q
        subst z
        rw [hK (by rw [q]; simp)] at e
        cases e
    obtain ⟨mc, l1, l2⟩ := hlim
    have hM : Mod K mg (hidT s₁.heap H) := ⟨kin, nsK hns, ⟨mb, nsK hb, hbb⟩, mc, nsK l1, l2⟩
    have nil_ : ∀ b, b ∈ ([] : List Addr) → False := fun b h => nomatch h
    have e0 : Env0 P w K mg (hidT s₁.heap H) callerA [] s₁ H :=
      ⟨rfl, hM, fun b o e => of_hidT e, Nat.le_of_eq (hidT_size _ _), trivial, fun b h => (nil_ b h).elim, hok, .of_eq hg⟩
    have im : Im ⟨K, mg⟩ H (.ref a) (.lst (ns.map .int)) := .lst hS (ims_of_ints ns)
    have sp : spZ ⟨K, mg⟩ fn [.ref a] H (fun v _ => v = .bl true) (fun _ _ _ => False) := by
      refine ⟨H, [.val (.lst (ns.map .int))], _, Same.refl H, .val im .nil, List.nodup_nil, hfn, fun v G' H' _ _ ro => ?_⟩
      cases (show Im ⟨K, mg⟩ G' v (.bl true) from ro)
      rfl
    refine codeAny_mono ((F _ kin (nsK hns)).run callerA [] s₁ H ⟨[.ref a], []⟩ [.ref a] [.ref a] _ _ guards0 hr e0 (hbind s₁ (.ref a)) (.cons rfl .nil) sp) fun r s' h => ?_
    cases r with
    | error e =>
      obtain ⟨_, _, _, _, _, _, _, _, _, _, _, _, z⟩ := h
      exact z.elim
    | ok fl =>
      cases fl with
      | ret u =>
        obtain ⟨v, H', os, bare, un, hok', r', q⟩ := h
        subst q
        obtain rfl : u = Value.bool true := r'
        refine ⟨rfl, OldK.of_keep fun b o e => ?_, os, bare⟩
        cases q : H b with
        | none => exact un.keep b o e q (fun z => nil_ b z) (by simp)
        | some u =>
          rcases hO b with z | ⟨ob, xs, z⟩
          · rw [q] at z
            cases z
          · obtain ⟨e1, _⟩ := hok b _ z
            obtain ⟨e2, _⟩ := hok' b _ (un.frzs b ob _ z)
            rw [e] at e1
            cases e1
            exact e2
      | _ => exact False.elim h
  cases hk : K.lookup a with
  | some o =>
    have e := KX a o hk
    rw [ha] at e
    cases e
    have none_ : ∀ (b : Addr) (u : HO), (none : Option HO) = some u → False := fun _ _ z => nomatch z
    refine core (fun _ => none) (fun _ => .inl rfl) (.inr ⟨_, vs.toArray, _, hk, rfl, rfl, rfl, ?_, by simpa using rv⟩) (fun b u z => (none_ b u z).elim) (fun b z => absurd rfl z) (fun z => absurd rfl z)
    rw [List.size_toArray, hi.length]
    exact hl
  | none =>
    have here : (fun b => if b = a then some (HO.frz { cls := .type "list", data := .seq vs.toArray } (.lst (ns.map V.int))) else none) a = _ := if_pos rfl
    refine core (fun b => if b = a then some (.frz { cls := .type "list", data := .seq vs.toArray } (.lst (ns.map V.int))) else none) (fun b => ?_) (.inl (.inr ⟨_, here⟩)) (fun b u z => ?_) (fun b z => ?_) (fun _ => hk)
    · by_cases hb : b = a
      · exact .inr ⟨_, _, if_pos hb⟩
      · exact .inl (if_neg hb)
    · by_cases hb : b = a
      · have y := (if_pos hb).symm.trans z
        cases y
        subst hb
        exact ⟨ha, by rw [List.length_map]; exact hl, vs, _, rv, ha⟩
      · exact nomatch (if_neg hb).symm.trans z
    · by_cases hb : b = a
      · exact hb
      · exact absurd (if_neg hb) z
theorem walkZ {l : PySem.W.OpenLaw} {n k : Nat} {q : Program} {loose : List Str} {XP : (Str → Option Value) → Heap → Prop} {YP : World → Heap → Prop} {d : DefRec} {K : Params → PySem.W.Frag} {fn : Fn} {x : Str}
    (hn : l.most = some n) (hn2 : n ≤ sizeLine) (hdf : d.params.defaults = []) (hr : Room k callerA) (hY : ∀ (w : World) (h : Heap), YP w h → (K w.params).In h)
    (F : ∀ (w : World) (mg : Str → Option Value) (fa : Addr) (h : Heap), (K w.params).In h → h.Ns mainGlobals mg → mg d.name = some (.ref fa) →
      ∃ fd : FuncData, (∀ (s : Shared) (u : Value), BindsTo s fd ⟨[u], []⟩ [(x, u)]) ∧ ∀ base : Heap, (K w.params).In base → base.Ns mainGlobals mg → FnZ l.prog w (K w.params) mg base k fa fd [x] fn)
    (hfn : ∀ ns : List Int, ns.length ≤ n → fn [.val (.lst (ns.map .int))] = some (.ret false (.bl true) [])) : PySem.W.WalkO q loose XP YP l.row.toRowW d [] (fun f vs => PySem.call f vs) := by
  refine Att.attach_call hn hdf fun w s₀ s₁ mg mb fa o pm cd doc a vs ns G Y ho hd hcd hmg hobj hints hlen hg => ?_
  obtain ⟨fd, hb, hF⟩ := F w mg fa _ (hY w _ Y) G.T.g hmg
  exact law_callZ (hY w _ Y) G.T.g G.T.b G.T.builtins G.T.nolimit hg hobj hints (Nat.le_trans hlen hn2) hr hF hb (hfn ns hlen)
end Z

set_option Elab.async false
set_option linter.all false
set_option maxRecDepth 100000
set_option maxHeartbeats 4000000
/-! ZS: short words for printed derivations. -/
namespace Z
open PySem PySem.Spec PyProof.Rows L2
section
variable {X : Cx} {Y : Yc} {x : Str} {pos pos2 : Pos}
theorem pv_ (i : Nat) (h : X.N[i]? = some x := by rfl) (v : Vis X.env.scope x := by first | exact .inl rfl | exact .inr (.inl rfl) | exact .inr (.inr rfl)) (hd : (x == ("__debug__" : Str)) = false := by decide) (hc : (x == ("__classdict__" : Str)) = false := by decide) :
    PE X (.Name x pos) (tVar i) := pe_var h v hd hc
theorem de_v (i : Nat) (h : X.N[i]? = some x := by rfl) (v : Vis X.env.scope x := by first | exact .inl rfl | exact .inr (.inl rfl) | exact .inr (.inr rfl)) (hd : (x == ("__debug__" : Str)) = false := by decide) (hc : (x == ("__classdict__" : Str)) = false := by decide) :
    DE X Y (.Name x pos) (eVar i) := de_var (pe_var h v hd hc)
theorem pgn (nd : X.N.Nodup) (i : Nat) (h : X.N[i]? = some x := by rfl) (l : Loc X.env.scope x := by first | exact .inl rfl | exact .inr rfl) (hf : X.fn x = true ∨ X.env.scope.names.lookup x = some .local := by first | exact .inl rfl | exact .inr rfl) : PG X (.Name x pos) (gName i) :=
  pg_name nd h l hf
theorem ds_st {e : Expr} {me : M Rf} (nd : X.N.Nodup) (i : Nat) (he : DE X Y e me) (h : X.N[i]? = some x := by rfl) (l : Loc X.env.scope x := by first | exact .inl rfl | exact .inr rfl) (hs : swapsWith e (some (.Name x pos2)) pos.line X.env = pure false := by rfl)
    (hf : X.fn x = true ∨ X.env.scope.names.lookup x = some .local := by first | exact .inl rfl | exact .inr rfl) : DS X Y (.Assign [.Name x pos2] e pos) (sAsg me (tgName i)) := ds_set he nd h l hs hf
theorem de_ch {op op' : CmpOp} {f g : D → D → Option D} {a b c : Expr} {ma mb mc : M Rf} (h : OpD X (compareOp op) f) (h' : OpD X (compareOp op') g) (ha : DE X Y a ma) (hb : DE X Y b mb) (hc : DE X Y c mc) (hm : lastMarks [op, op'] [b, c] = false := by with_unfolding_all rfl) :
    DE X Y (.Compare a [op, op'] [b, c] pos) (eChain f g ma mb mc) := by
  obtain ⟨r, o, k⟩ := h
  obtain ⟨r', o', k'⟩ := h'
  exact de_chain o o' k k' ha hb hc hm
theorem dt_ch {op op' : CmpOp} {f g : D → D → Option D} {a b c : Expr} {ma mb mc : M Rf} (h : OpD X (compareOp op) f) (h' : OpD X (compareOp op') g) (ha : DE X Y a ma) (hb : DE X Y b mb) (hc : DE X Y c mc) (hm : lastMarks [op, op'] [b, c] = false := by with_unfolding_all rfl) :
    DT X Y (.Compare a [op, op'] [b, c] pos) (tst (eChain f g ma mb mc)) := by
  obtain ⟨r, o, k⟩ := h
  obtain ⟨r', o', k'⟩ := h'
  exact dt_chain o o' k k' ha hb hc hm
theorem names_ {c : Value} (hm : X.mg x = some c) (hg : Gl X x := by rfl) (hd : (x == ("__debug__" : Str)) = false := by decide) : Names X x c := ⟨hg, hd, .inl hm⟩
theorem blk_ok {N : List Str} {sc scope : Scope} {own : List (Str × Nat)} (a : scope.kind = .function := by rfl) (b : ∀ y ∈ scope.names, scope.names.lookup y.1 = some y.2 := by decide +kernel) (c : ∀ p ∈ own, N[p.2]? = some p.1 := by decide +kernel)
    (d : ∀ y ∈ scope.names, y.2 = .free → sc.names.lookup y.1 = some .cell ∨ sc.names.lookup y.1 = some .free := by decide +kernel) (e : ∀ y ∈ scope.names, y.2 = .local ∨ y.2 = .cell → y.1 ∈ own.map (·.1) ∨ y.1 ∉ N := by decide +kernel) : BlkOk N sc scope own := ⟨a, b, c, d, e⟩
/-- the same in a block within a block -/
theorem blk_okN (N : List Str) {sc scope : Scope} {own : List (Str × Nat)} (a : scope.kind = .function := by rfl) (b : ∀ y ∈ scope.names, scope.names.lookup y.1 = some y.2 := by decide +kernel) (c : ∀ p ∈ own, N[p.2]? = some p.1 := by decide +kernel)
    (d : ∀ y ∈ scope.names, y.2 = .free → sc.names.lookup y.1 = some .cell ∨ sc.names.lookup y.1 = some .free := by first | decide +kernel | exact of_decide_eq_true (by kernel_rfl) | exact of_decide_eq_true (by rfl))
    (e : ∀ y ∈ scope.names, y.2 = .local ∨ y.2 = .cell → y.1 ∈ own.map (·.1) ∨ y.1 ∉ N := by decide +kernel) : BlkOk N sc scope own := ⟨a, b, c, d, e⟩
theorem kb_of {K : PySem.W.Frag} {fd : FuncData} {ps : List Str} {n : Nat} {ks : List Str} {perm : List Nat} (h : ∀ us ws : List Value, us.length = n → ws.length = ks.length → bindArgs fd ⟨us, ks.zip ws⟩ = pure (ps.zip (pick perm (us ++ ws)))) : KBz K fd ps n ks perm [] :=
  ⟨[], .nil, fun s us ws _ h1 h2 => .of_eq (by rw [List.append_nil]; exact h us ws h1 h2)⟩
end
end Z

set_option Elab.async false
set_option linter.all false
set_option maxRecDepth 100000
set_option maxHeartbeats 4000000
/-! ZT: how mirrors come out, step by step. -/
namespace Z
open PySem
section
variable {ρ ρ1 ρ2 ρ3 ρ4 : E} {a b : M Rf} {ms : M (List Rf)} {x y : Rf} {xs : List Rf} {p q d : D} {ds es : List D} {t : M Bool} {m n : S} {o : O} {vs : List Nat}
theorem bind_ev {α β : Type} {m : M α} {k : α → M β} {v : α} {r : Option (R β)} (h : m ρ = some (.ok v ρ1)) (hk : k v ρ1 = r) : Z.bindM m k ρ = r := by
  rw [Z.bindM_ok h]
  exact hk
theorem op2_ev {f : D → D → Option D} (ha : a ρ = some (.ok x ρ1)) (hb : b ρ1 = some (.ok y ρ2)) (hp : deref ρ2 (stl x) = some p) (hq : deref ρ2 (stl y) = some q) (hf : f p q = some d) : eOp2 f a b ρ = some (.ok (mk d) ρ2) := by
  unfold eOp2
  refine bind_ev ha (bind_ev hb (bind_ev (v := p) (ρ1 := ρ2) ?_ (bind_ev (v := q) (ρ1 := ρ2) ?_ ?_)))
  · unfold drf
    rw [hp]
  · unfold drf
    rw [hq]
  · rw [hf]
    rfl
theorem call_ev {f : List D → Option D} (ha : ms ρ = some (.ok xs ρ1)) (hd : derefs ρ1 xs = some ds) (hf : f ds = some d) : eCall f ms ρ = some (.ok (mk d) ρ1) := by
  unfold eCall
  refine bind_ev ha (bind_ev (v := ds) (ρ1 := ρ1) ?_ ?_)
  · unfold drfs
    rw [hd]
  · rw [hf]
    rfl
theorem cons_ev (ha : a ρ = some (.ok x ρ1)) (hm : ms ρ1 = some (.ok xs ρ2)) : aCons a ms ρ = some (.ok (stl x :: xs) ρ2) := bind_ev ha (bind_ev hm rfl)
theorem nil_ev : aNil ρ = some (.ok [] ρ) := rfl
theorem tst_ev {c : Bool} (h : a ρ = some (.ok (.dat (.bl c)) ρ1)) : tst a ρ = some (.ok c ρ1) := bind_ev h rfl
theorem not_ev {c : Bool} (h : t ρ = some (.ok c ρ1)) : bNot t ρ = some (.ok (!c) ρ1) := bind_ev h rfl
theorem or_ev {u : M Bool} {r : Option (R Bool)} (h : t ρ = some (.ok false ρ1)) (hu : u ρ1 = r) : bOr t u ρ = r := bind_ev h hu
theorem orT_ev {u : M Bool} (h : t ρ = some (.ok true ρ1)) : bOr t u ρ = some (.ok true ρ1) := bind_ev h rfl
theorem and_ev {u : M Bool} {r : Option (R Bool)} (h : t ρ = some (.ok true ρ1)) (hu : u ρ1 = r) : bAnd t u ρ = r := bind_ev h hu
theorem comp_ev {mi : M (List D)} {tg : Tg} {el : M Rf} (hm : mi ρ = some (.ok ds ρ1)) (ok : okSlots ρ1 vs = true) (hc : compL tg t el vs ds (wipeE ρ1 vs) = some (es, ρ2)) (hz : es.length ≤ sizeLine) : eComp mi tg t el vs ρ = some (.ok (.new es) ρ2) := by
  refine bind_ev hm ?_
  show (if okSlots ρ1 vs = true then _ else _) = _
  rw [if_pos ok, hc]
  show (if es.length ≤ sizeLine then _ else _) = _
  rw [if_pos hz]
theorem ifT_ev {r : Option O} (h : t ρ = some (.ok true ρ1)) (k : m ρ1 = r) : sIf t m n ρ = r := by
  unfold sIf liftS
  rw [h]
  exact k
theorem ifF_ev {r : Option O} (h : t ρ = some (.ok false ρ1)) (k : n ρ1 = r) : sIf t m n ρ = r := by
  unfold sIf liftS
  rw [h]
  exact k
theorem seq_ev {r : Option O} (h : m ρ = some (.nx ρ1)) (k : n ρ1 = r) : sSeq m n ρ = r := by
  unfold sSeq
  rw [h]
  exact k
theorem seqR_ev (h : m ρ = some (.rt x ρ1)) : sSeq m n ρ = some (.rt x ρ1) := by
  unfold sSeq
  rw [h]
theorem seqX_ev {e : Ex} (h : m ρ = some (.ex e ρ1)) : sSeq m n ρ = some (.ex e ρ1) := by
  unfold sSeq
  rw [h]
theorem ret_ev (h : a ρ = some (.ok x ρ1)) : sRet a ρ = some (.rt x ρ1) := by
  unfold sRet liftS
  rw [h]
theorem expr_ev (h : a ρ = some (.ok x ρ1)) : sExpr a ρ = some (.nx ρ1) := by
  unfold sExpr liftS
  rw [h]
theorem exprX_ev {e : Ex} (h : a ρ = some (.ex e ρ1)) : sExpr a ρ = some (.ex e ρ1) := by
  unfold sExpr liftS
  rw [h]
theorem asg_ev {tg : Tg} (h : a ρ = some (.ok x ρ1)) (k : tg x ρ1 = some ρ2) : sAsg a tg ρ = some (.nx ρ2) := by
  unfold sAsg liftS
  rw [h]
  show (match tg x ρ1 with | some ρ' => some (O.nx ρ') | none => none) = _
  rw [k]
theorem for_ev {mi : M (List D)} {tg : Tg} {r : Option O} (h : mi ρ = some (.ok ds ρ1)) (k : forL tg m ds ρ1 = r) : sFor mi tg m ρ = r := by
  unfold sFor liftS
  rw [h]
  exact k
theorem body_rt {np k : Nat} {as : List Ar} {c : Bool} {cs : List Cell} (h : m (entry k as) = some (.rt x ρ)) (hl : as.length = np := by rfl) (hr : retOf ρ x = some (c, d) := by rfl) (ho : outs as ρ = some cs := by rfl) : bodyF np k m as = some (.ret c d cs) := by
  unfold bodyF
  rw [if_pos hl, h]
  show (match retOf ρ x, outs as ρ with | some (b, d), some cs => some (FR.ret b d cs) | _, _ => none) = _
  rw [hr, ho]
theorem body_nx {np k : Nat} {as : List Ar} {cs : List Cell} (h : m (entry k as) = some (.nx ρ)) (hl : as.length = np := by rfl) (ho : outs as ρ = some cs := by rfl) : bodyF np k m as = some (.ret false .non cs) := by
  unfold bodyF
  rw [if_pos hl, h]
  show (outs as ρ).map _ = _
  rw [ho]
  rfl
theorem body_ex {np k : Nat} {as : List Ar} {e : Ex} {cs : List Cell} (h : m (entry k as) = some (.ex e ρ)) (hl : as.length = np := by rfl) (ho : outs as ρ = some cs := by rfl) : bodyF np k m as = some (.exc e cs) := by
  unfold bodyF
  rw [if_pos hl, h]
  show (outs as ρ).map _ = _
  rw [ho]
  rfl
theorem fn_ev {f : Fn} {md : List Bool} {as : List Ar} {is : List (Option Nat)} {c : Bool} {cs : List Cell} (ha : ms ρ = some (.ok xs ρ1)) (h1 : toArs md xs ρ1 = some (as, is, ρ2)) (hf : f as = some (.ret c d cs)) (h2 : putBack is cs ρ2 = some ρ3) (h3 : rfOf c d = some x) (hn : (is.filterMap id).Nodup := by simp) : eFn f md ms ρ = some (.ok x ρ3) := by
  refine bind_ev ha ?_
  unfold eFnL
  rw [h1]
  show (if (is.filterMap id).Nodup then _ else _) = _
  rw [if_pos hn, hf]
  show (match putBack is cs ρ2, rfOf c d with | some ρ2, some x => some (R.ok x ρ2) | _, _ => none) = _
  rw [h2, h3]
theorem fnX_ev {f : Fn} {md : List Bool} {as : List Ar} {is : List (Option Nat)} {e : Ex} {cs : List Cell} (ha : ms ρ = some (.ok xs ρ1)) (h1 : toArs md xs ρ1 = some (as, is, ρ2)) (hf : f as = some (.exc e cs)) (h2 : putBack is cs ρ2 = some ρ3) (hn : (is.filterMap id).Nodup := by simp) : eFn f md ms ρ = some (.ex e ρ3) := by
  refine bind_ev ha ?_
  unfold eFnL
  rw [h1]
  show (if (is.filterMap id).Nodup then _ else _) = _
  rw [if_pos hn, hf]
  show (match putBack is cs ρ2 with | some ρ2 => some (R.ex e ρ2) | none => none) = _
  rw [h2]
/-- the turns of a comprehension that changes nothing -/
theorem compL_map {tg : Tg} {el : M Rf} {f : D → D} : ∀ ds : List D, (∀ d ∈ ds, ∃ ρ1 ρ2 x ρ3 ρ4, tg (.dat d) ρ = some ρ1 ∧ t ρ1 = some (.ok true ρ2) ∧ el ρ2 = some (.ok x ρ3) ∧ frz (stl x) ρ3 = some (.ok (f d) ρ4) ∧ okSlots ρ4 vs = true ∧ wipeE ρ4 vs = ρ) →
    compL tg t el vs ds ρ = some (ds.map f, ρ)
  | [], _ => rfl
  | d :: ds, h => by
    obtain ⟨ρ1, ρ2, x, ρ3, ρ4, h1, h2, h3, h4, h5, h6⟩ := h d (.head _)
    have ih := compL_map (tg := tg) (el := el) (f := f) ds fun e he => h e (.tail _ he)
    unfold compL
    simp only [h1, h2, h3, h4, h5, h6, ih, if_true, List.map_cons]
/-- .. that leaves some out -/
theorem compL_some {tg : Tg} {el : M Rf} {f : D → D} {p : D → Bool} : ∀ ds : List D, (∀ d ∈ ds, ∃ ρ1 ρ2, tg (.dat d) ρ = some ρ1 ∧ t ρ1 = some (.ok (p d) ρ2) ∧
      (p d = true → ∃ x ρ3 ρ4, el ρ2 = some (.ok x ρ3) ∧ frz (stl x) ρ3 = some (.ok (f d) ρ4) ∧ okSlots ρ4 vs = true ∧ wipeE ρ4 vs = ρ) ∧ (p d = false → okSlots ρ2 vs = true ∧ wipeE ρ2 vs = ρ)) →
    compL tg t el vs ds ρ = some ((ds.filter p).map f, ρ)
  | [], _ => rfl
  | d :: ds, h => by
    obtain ⟨ρ1, ρ2, h1, h2, h3, h4⟩ := h d (.head _)
    have ih := compL_some (tg := tg) (el := el) (f := f) (p := p) ds fun e he => h e (.tail _ he)
    unfold compL
    cases q : p d with
    | true =>
      obtain ⟨x, ρ3, ρ4, k1, k2, k3, k4⟩ := h3 q
      rw [q] at h2
      rw [List.filter_cons_of_pos q]
      simp only [h1, h2, k1, k2, k3, k4, ih, if_true, List.map_cons]
    | false =>
      obtain ⟨k1, k2⟩ := h4 q
      rw [q] at h2
      rw [List.filter_cons_of_neg (by rw [q]; simp)]
      simp only [h1, h2, k1, k2, ih, if_true]
/-- a loop by an invariant: I i ρ ahead of turn i -/
theorem forL_inv {tg : Tg} (I : Nat → E → Prop) {ρe : E} : ∀ (ds : List D) (i : Nat) (ρ : E), I i ρ → (∀ (j : Nat) d ρ, ds[j]? = some d → I (i + j) ρ → ∃ ρ1 ρ2, tg (.dat d) ρ = some ρ1 ∧ (m ρ1 = some (.nx ρ2) ∨ m ρ1 = some (.ct ρ2)) ∧ I (i + j + 1) ρ2) →
    ∃ ρ', forL tg m ds ρ = some (.nx ρ') ∧ I (i + ds.length) ρ'
  | [], i, ρ, h, _ => ⟨ρ, rfl, h⟩
  | d :: ds, i, ρ, h, k => by
    obtain ⟨ρ1, ρ2, h1, h2, h3⟩ := k 0 d ρ rfl h
    obtain ⟨ρ', h4, h5⟩ := forL_inv (ρe := ρe) I ds (i + 1) ρ2 h3 fun j e ρ hj hI => by
      have q := k (j + 1) e ρ (by simpa using hj) (by rw [show i + (j + 1) = i + 1 + j by omega]; exact hI)
      rw [show i + (j + 1) = i + 1 + j by omega] at q
      exact q
    refine ⟨ρ', ?_, by rw [List.length_cons, show i + (ds.length + 1) = i + 1 + ds.length by omega]; exact h5⟩
    unfold forL
    simp only [h1]
    rcases h2 with h2 | h2
    · simp only [h2]
      exact h4
    · simp only [h2]
      exact h4
end
end Z

set_option Elab.async false
set_option linter.all false
set_option maxRecDepth 100000
set_option maxHeartbeats 4000000
/-! ZU: instances: their fields, methods, how they are made. -/
namespace Z
open PySem PySem.Spec PyProof.Rows L2
/-- the names cs are own classes, and none has an attribute f -/
def FldOk (K : PySem.W.Frag) (mg : Str → Option Value) (cs : List Str) (f : Str) : Prop := ∀ c ∈ cs, ∃ C, mg c = some (.ref C) ∧ Cls K C ∧ NoAttr K C f
theorem Top.ins {A : Amb} {G H : Hp} {v : V} {c : Str} {ns : List Str} {ds : List D} (g : Same G H) (h : Top A G H v (.ins c ns ds)) :
    ∃ a C dx fs, v = .ref a ∧ A.mg c = some (.ref C) ∧ H a = some (.ins C dx fs) ∧ fs.map (·.1) = ns ∧ Ims A G (fs.map (·.2)) ds := by
  rcases h with h | ⟨l, vs, ds', hv, hd, h1, h2⟩ | ⟨l, C, dx, fs, c', ns', ds', hv, hd, m, h1, h2, h3⟩
  · cases h with
    | ins m h n r => exact ⟨_, _, _, _, rfl, m, g _ _ h, n, r⟩
  · cases hd
  · cases hd
    exact ⟨l, C, dx, fs, hv, m, h1, h2, h3⟩
def eFld (cs : List Str) (f : Str) (m : M Rf) : M Rf := bindM m fun x => bindM (drf (stl x)) fun d => match d with
  | .ins c ns ds => if cs.contains c = true then (match (ns.zip ds).lookup f with
    | some v => pureM (.dat v)
    | none => failM) else failM
  | _ => failM
section
variable {X : Cx} {Y : Yc} {a e : Expr} {ma me : M Rf} {pos p p' : Pos} {f x : Str} {cs : List Str}
theorem de_fld (hc : FldOk X.K X.mg cs f) (ha : DE X Y a ma) (hb : attributeBase a f X.env (eval a X.env) = eval a X.env := by rfl) : DE X Y (.Attribute a f pos) (eFld cs f ma) :=
  PE.weak (pe_fld ha hb) fun σ H Q ⟨F, P, G, ρ, r, er, e, hm, hp⟩ => tE_bind er e hm hp fun G1 H1 ρ1 x v s1 e1 so1 hm1 hp1 => by
    obtain ⟨d, hd, hm2⟩ := drf_ok hm1
    have t := top_of e1 so1 hd
    cases d with
    | ins c ns ds =>
      simp only at hm2
      by_cases hk : cs.contains c = true
      · rw [if_pos hk] at hm2
        cases q : (ns.zip ds).lookup f with
        | none =>
          rw [q] at hm2
          cases hm2
        | some d =>
          rw [q] at hm2
          cases hm2
          obtain ⟨l, C, dx, fs, rfl, m, h1, rfl, h3⟩ := t.ins e1.gh
          obtain ⟨C', m', k1, k2⟩ := hc c (by simpa using hk)
          have m : X.mg c = some (.ref C) := m
          rw [m] at m'
          cases m'
          obtain ⟨w, l1, l2⟩ := Ims.lookup h3 q
          exact ⟨l, C, dx, fs, w, rfl, h1, k1, k2, l1, hp1 w G1 H1 (Same.refl G1) e1 l2⟩
      · rw [if_neg hk] at hm2
        cases hm2
    | _ => cases hm2
/-! self.f = e -/
def putD (f : Str) (d : D) : List Str → List D → List Str × List D
  | n :: ns, x :: xs => if n = f then (n :: ns, d :: xs) else ((n :: (putD f d ns xs).1), (x :: (putD f d ns xs).2))
  | _, _ => ([f], [d])
theorem putD_ok {A : Amb} {G : Hp} {v : V} {d : D} (h : Im A G v d) : ∀ {fs : List (Str × V)} {ds : List D}, Ims A G (fs.map (·.2)) ds → (putF f v fs).map (·.1) = (putD f d (fs.map (·.1)) ds).1 ∧ Ims A G ((putF f v fs).map (·.2)) (putD f d (fs.map (·.1)) ds).2
  | [], _, .nil => ⟨rfl, .cons h .nil⟩
  | (g, y) :: fs, x :: ds, .cons k r => by
    obtain ⟨h1, h2⟩ := putD_ok h r
    rw [List.map_cons]
    unfold putF putD
    by_cases hg : g = f
    · rw [if_pos hg, if_pos hg]
      exact ⟨rfl, .cons h r⟩
    · rw [if_neg hg, if_neg hg]
      exact ⟨by rw [List.map_cons, h1], .cons k h2⟩
def sFldS (cs : List Str) (i : Nat) (f : Str) (m : M Rf) : S := liftS m fun x => liftS (frz (stl x)) fun d ρ => match ρ[i]? with
  | some (.cel p (.ins c ns ds)) => if cs.contains c = true ∧ ns.length < 1000 then some (.nx (ρ.set i (.cel p (.ins c (putD f d ns ds).1 (putD f d ns ds).2)))) else none
  | _ => none
theorem ds_fld {i : Nat} (hc : FldOk X.K X.mg cs f) (ho : PE X (.Name x p) (tVar i)) (he : DE X Y e me) (hs : swapsWith e (some (.Attribute (.Name x p) f p')) pos.line X.env = pure false := by rfl) :
    DS X Y (.Assign [.Attribute (.Name x p) f p'] e pos) (sFldS cs i f me) :=
  PS.weak (ps_fld ho he hs) fun D σ H ⟨F, P, G, ρ, o, er, e, hm, hp⟩ => tSE_bind er e hm hp fun G1 H1 ρ1 x v s1 e1 so1 hk1 => by
    obtain ⟨d, ρ2, G2, hk2, s2, e2, im⟩ := liftS_frz e1 so1 hk1
    split at hk2
    · rename_i p c ns ds q
      split at hk2
      · rename_i hcond
        cases hk2
        obtain ⟨l, h1, ⟨C, dx, fs, m, h2, rfl, h4⟩, h5, h6⟩ := e2.cel i p _ q
        obtain ⟨C', m', k1, k2⟩ := hc c (by simpa using hcond.1)
        have m : X.mg c = some (.ref C) := m
        rw [m] at m'
        cases m'
        refine ⟨.ref l, h1, l, C, dx, fs, rfl, h2, k1, k2, by have := hcond.2; rwa [List.length_map] at this, ?_⟩
        obtain ⟨q1, q2⟩ := putD_ok (f := f) im h4
        exact hp σ G2 _ (e2.write q h1 ⟨C, dx, _, m, upd_same, q1, q2⟩)
      · cases hk2
    · cases hk2
end
/-! a new instance -/
def eMkK (c : Str) (f : Fn) (n m : Nat) (perm : List Nat) (dds : List D) (ms mk : M (List Rf)) : M Rf := bindM ms fun xs => bindM mk fun zs => if xs.length = n ∧ zs.length = m then bindM (frzs (xs ++ zs)) fun ds ρ =>
  match f (.cel (.ins c [] []) :: (pick perm (ds ++ dds)).map .val) with
  | some (.ret false .non [.ins c' ns fs]) => if c' = c then some (.ok (.dat (.ins c ns fs)) ρ) else none
  | some (.exc x _) => some (.ex x ρ)
  | _ => none else failM
theorem pick_self {α : Type} (a : α) (perm : List Nat) (l : List α) : pick (0 :: perm.map (· + 1)) (a :: l) = a :: pick perm l := by
  unfold pick
  rw [List.filterMap_cons]
  show a :: _ = _
  rw [List.filterMap_map]
  rfl
theorem args_vals {A : Amb} {G H : Hp} : ∀ {vs : List V} {ds : List D}, Ims A G vs ds → ArgsOk A G H vs (ds.map .val) ∧ cads vs (ds.map .val) = []
  | [], _, .nil => ⟨.nil, rfl⟩
  | v :: vs, _, .cons h r => by
    obtain ⟨h1, h2⟩ := args_vals (H := H) r
    refine ⟨.val h h1, ?_⟩
    cases v <;> exact h2
theorem ims_pick {A : Amb} {G : Hp} {perm : List Nat} {vs : List V} {ds : List D} (h : Ims A G vs ds) : Ims A G (pick perm vs) (pick perm ds) := by
  induction perm with
  | nil => exact .nil
  | cons i perm ih =>
    unfold pick at ih ⊢
    rw [List.filterMap_cons, List.filterMap_cons]
    cases q : ds[i]? with
    | none =>
      have : vs[i]? = none := by
        rw [List.getElem?_eq_none_iff] at q ⊢
        rw [h.length]
        exact q
      rw [this]
      exact ih
    | some d =>
      obtain ⟨v, k1, k2⟩ := h.get q
      rw [k1]
      exact .cons k2 ih
section
variable {X : Cx} {Y : Yc} {k n : Nat} {f C : Addr} {fd : FuncData} {ps ks : List Str} {fn : Fn} {x c : Str} {p pos : Pos} {e : Expr} {es : List Expr} {kws : List Keyword} {ms mk_ : M (List Rf)} {perm : List Nat} {dds : List D} {dvs : List V}
theorem run_mkZ {pins : List (Addr × Obj)} {σ : L2.St} {H : Hp} {s : Shared} {Q : VK} {us : List Value} {kw : List (Str × Value)} {all : List Value} {vs : List V} (M : Mk X.K C f) (F : FnZ X.prog X.w X.K X.mg X.base k f fd ps fn) (hg : X.A.guards = some []) (hr : Room (k + 1) X.A) (tk : Takes X Y.W)
    (I : Inv X pins σ H s) (hb : ∀ (s : Shared) (self : Value), X.K.In s.heap → BindsTo s fd ⟨self :: us, kw⟩ (ps.zip (self :: all))) (r : Vals vs all)
    (h : ∀ x dx, H x = none → H dx = none → dx ≠ x → spZ (amb X) fn (.ref x :: vs) (upd (upd H dx (.own x)) x (.ins C dx [])) (fun v H2 => v = .non ∧ Q (.ref x) H2) (fun cls d H' => Y.W cls d σ H')) :
    wpAny (model X.prog X.w) X.A (call (.ref C) us kw) (EP X pins σ Q) X.xe s := by
  have hq := h (s.heap.objs.size + 1) s.heap.objs.size (I.hok.fresh (Nat.le_succ _)) (I.hok.fresh (Nat.le_refl _)) (Nat.ne_of_lt (Nat.lt_succ_self _))
  have I2 := Inv.made (C := C) I
  have r2 : Vals (V.ref (s.heap.objs.size + 1) :: vs) (Value.ref (s.heap.objs.size + 1) :: all) := .cons rfl r
  refine wpAny_call (make_map (f := f) I.kIn M.makes M.init (beq_iff_eq.mp M.fn) (codeAny_mono (F.run _ X.stack _ _ ⟨Value.ref (s.heap.objs.size + 1) :: us, kw⟩ (Value.ref (s.heap.objs.size + 1) :: all) _ _ _ hg (hr.make C us kw) (I2.env0.make C us kw) (hb _ _ I2.kIn) r2 hq) fun res s' hq' => ?_))
  cases res with
  | error ev => exact passAt tk σ pins _ _ ev s' I2 hq'
  | ok fl =>
    cases fl with
    | ret u =>
      obtain ⟨v, H', I3, rv, ev, q3⟩ := I2.after hq'
      subst ev
      exact ⟨rv, ⟨V.ref (s.heap.objs.size + 1), H', I3, rfl, q3⟩⟩
    | next => exact False.elim hq'
    | brk => exact False.elim hq'
    | cont => exact False.elim hq'
theorem mk_tail {A : Amb} {Y : Yc} {F : Fx} {P : List (Nat × Addr)} {σ : L2.St} {G H : Hp} {ρ : E} {vs : List V} {ds : List D} {r : R Rf} {Q : VK} {fn : Fn} {C : Addr} {c : Str} (e : EnvG A F P σ G H ρ) (im : Ims A G vs ds) (hc : A.mg c = some (.ref C))
    (hm : (match fn (.cel (.ins c [] []) :: ds.map .val) with
      | some (.ret false .non [.ins c' ns fs]) => if c' = c then some (R.ok (.dat (.ins c ns fs)) ρ) else none
      | some (.exc x _) => some (.ex x ρ)
      | _ => none) = some r) (hp : Post A Y (relE A) F P σ Q G r) :
    ∀ x dx, H x = none → H dx = none → dx ≠ x → spZ A fn (.ref x :: vs) (upd (upd H dx (.own x)) x (.ins C dx [])) (fun v H2 => v = .non ∧ Q (.ref x) H2) (fun cls d H' => Y.W cls d σ H') := by
  intro x dx nx ndx ne
  have sH : Same H (upd (upd H dx (.own x)) x (.ins C dx [])) := fun b o q => by
    rw [upd_ne (ne_of_none q nx), upd_ne (ne_of_none q ndx)]
    exact q
  have gx : G x = none := e.freeG nx
  obtain ⟨a1, a2⟩ := args_vals (H := upd (upd H dx (.own x)) x (.ins C dx [])) im
  cases hf : fn (.cel (.ins c [] []) :: ds.map .val) with
  | none =>
    rw [hf] at hm
    cases hm
  | some fr =>
    rw [hf] at hm
    have nd : (cads (.ref x :: vs) (.cel (.ins c [] []) :: ds.map .val)) = [x] := by
      show x :: cads vs (ds.map .val) = _
      rw [a2]
    refine ⟨G, .cel (.ins c [] []) :: ds.map .val, fr, e.gh.trans sH, .cel ⟨C, dx, [], hc, upd_same, rfl, .nil⟩ gx a1, by rw [nd]; simp, hf, ?_⟩
    rw [nd]
    have keep : ∀ {H' : Hp}, (∀ a o, a ∉ [x] → upd (upd H dx (.own x)) x (.ins C dx []) a = some o → H' a = some o) → Same H H' := fun {H'} fr b o q => fr b o (by simpa using ne_of_none q nx) (sH b o q)
    have gnn : ∀ {G' : Hp}, (∀ a o, G' a = some o → G a = some o ∨ upd (upd H dx (.own x)) x (.ins C dx []) a = none) → ∀ a o, G' a = some o → G a = some o ∨ H a = none := fun {G'} gn a o q => by
      rcases gn a o q with z | z
      · exact .inl z
      · refine .inr ?_
        cases y : H a with
        | none => rfl
        | some u =>
          rw [sH a u y] at z
          cases z
    split at hm
    · rename_i c' ns fs he
      cases he
      by_cases hcc : c' = c
      · rw [if_pos hcc] at hm
        cases hm
        subst hcc
        refine fun v G' H' b ca ro => ?_
        cases (show Im A G' v .non from ro)
        refine ⟨rfl, ?_⟩
        cases ca with
        | cons ca gn' _ =>
          obtain ⟨C2, dx2, fs2, m2, h2, n2, i2⟩ := ca
          have sG : Same G' (upd G' x (.ins C2 dx2 fs2)) := fun b o q => by
            rw [upd_ne (ne_of_none q gn')]
            exact q
          refine hp (.ref x) _ H' (b.gg.trans sG) (e.grow (keep b.fr) (b.gg.trans sG) (fun a o q => ?_) (fun a o q => ?_)) (.ins m2 upd_same n2 (i2.mono sG))
          · by_cases ha : a = x
            · subst ha
              rw [upd_same] at q
              cases q
              exact h2
            · rw [upd_ne ha] at q
              exact b.gh a o q
          · by_cases ha : a = x
            · subst ha
              exact .inr nx
            · rw [upd_ne ha] at q
              exact gnn b.gn a o q
      · rw [if_neg hcc] at hm
        cases hm
    · rename_i he
      cases he
      cases hm
      exact fun cls d G' H' b ca xa => hp cls d G' H' b.gg (e.grow (keep b.fr) b.gg b.gh (gnn b.gn)) xa
    · cases hm
/-- C(e, .., k = v, ..) -/
theorem de_mkK (M : Mk X.K C f) (F : FnZ X.prog X.w X.K X.mg X.base k f fd ps fn) (hm : X.mg c = some (.ref C)) (hb : KBz X.K fd ps (n + 1) ks (0 :: perm.map (· + 1)) dvs) (hd : ∀ G, Ims (amb X) G dvs dds) (hg : X.A.guards = some []) (hr : Room (k + 1) X.A) (tk : Takes X Y.W)
    (ha : DA X Y (e :: es) ms) (hkw : DK X Y kws mk_) (hgl : Gl X c := by rfl) (hdb : (c == ("__debug__" : Str)) = false := by decide)
    (hall : (backToKw pos (keywordEach kws X.env)).all (·.1.isSome) = true := by rfl) (hks : (backToKw pos (keywordEach kws X.env)).filterMap (·.1) = ks := by rfl)
    (he : starEach (e :: es) X.env = (false, eval e X.env) :: starEach es X.env := by rfl) (hpl : ((backTo pos (starEach (e :: es) X.env)).any (·.1) || (backToKw pos (keywordEach kws X.env)).any (·.1.isNone)) = false := by rfl) :
    DE X Y (.Call (.Name c p) (e :: es) kws pos) (eMkK c fn n ks.length perm dds ms mk_) := by
  obtain ⟨dv, rd, bind⟩ := hb
  refine ⟨fun pins s σ H Q I ⟨F0, P, G, ρ, r, er, e0, hm0, hp⟩ => ?_⟩
  refine wpAny_Call_Name_kw (ld_glob I hgl hm ?_ hdb)
  have q : tG (amb X) Y (relA (amb X)) ms σ H fun vs H1 => tG (amb X) Y (relA (amb X)) mk_ σ H1 fun zs H2 => vs.length = n ∧ zs.length = ks.length ∧
      ∀ x dx, H2 x = none → H2 dx = none → dx ≠ x → spZ (amb X) fn (.ref x :: pick perm (vs ++ zs ++ dvs)) (upd (upd H2 dx (.own x)) x (.ins C dx [])) (fun v H3 => v = .non ∧ Q (.ref x) H3) (fun cls d H' => Y.W cls d σ H') :=
    tG_bind (Re := relA (amb X)) er e0 hm0 hp fun G1 H1 ρ1 xs vs s1 e1 so hk1 => tG_bind (Re := relA (amb X)) er e1 hk1 (hp.mono s1) fun G2 H2 ρ2 zs ws s2 e2 so2 hk2 => by
      by_cases hl : xs.length = n ∧ zs.length = ks.length
      · rw [if_pos hl] at hk2
        cases qf : frzs (xs ++ zs) ρ2 with
        | none =>
          rw [bindM_none qf] at hk2
          cases hk2
        | some r1 =>
          obtain ⟨ds, ρ3, G3, rfl, s3, e3, im⟩ := frzs_ok e2 ((so.mono s2).append so2) qf
          rw [bindM_ok qf] at hk2
          exact ⟨so.get.1.trans hl.1, so2.get.1.trans hl.2, mk_tail (ds := pick perm (ds ++ dds)) e3 (ims_pick (Ims.append' im (hd G3))) hm hk2 (hp.mono ((s1.trans s2).trans s3))⟩
      · rw [if_neg hl] at hk2
        cases hk2
  refine PySem.W.callWith_KW (h₀ := X.base) I.ok.mod.kin M.kp hall (thn (ha.run pos pins s σ H _ I q) fun us s1 ⟨vs, H1, I1, rv, q1⟩ => ?_) hpl he
  refine thn (hkw.run pos pins s1 σ H1 _ I1 q1) fun ws s2 ⟨zs, H2, I2, rz, l1, l2, q2⟩ => ⟨I2.kIn, ?_⟩
  rw [hks]
  refine run_mkZ (all := pick perm (us ++ ws ++ dv)) M F hg hr tk I2 (fun s' self kin => ?_) (vals_pick ((rv.append rz).append rd)) q2
  have b := bind s' (self :: us) ws kin (by rw [List.length_cons, ← rv.length, l1]) (rz.length.symm.trans l2)
  rw [List.cons_append, List.cons_append, pick_self] at b
  exact b
end
end Z

set_option Elab.async false
set_option linter.all false
set_option maxRecDepth 100000
set_option maxHeartbeats 4000000
/-! ZV: methods; exceptions of two fields; isinstance of own classes and of two types; None as a test. -/
namespace Z
open PySem PySem.Spec PyProof.Rows L2
def eMeth (c0 m : Str) (fn : Fn) (md : List Bool) (mo : M Rf) (ms : M (List Rf)) : M Rf := bindM mo fun x ρ => match deref ρ (stl x) with
  | some (.ins c ns _) => if c = c0 ∧ ns.contains m = false then bindM ms (fun xs => eFnL fn md (stl x :: xs)) ρ else none
  | _ => none
theorem lookup_out {f : Str} : ∀ {fs : List (Str × V)}, (fs.map (·.1)).contains f = false → fs.lookup f = none
  | [], _ => rfl
  | (g, v) :: fs, h => by
    rw [List.map_cons, List.contains_cons, Bool.or_eq_false_iff] at h
    rw [List.lookup_cons]
    have h1 : (f == g) = false := h.1
    rw [h1]
    exact lookup_out h.2
section
variable {X : Cx} {Y : Yc} {k : Nat} {f C : Addr} {fd : FuncData} {ps : List Str} {fn : Fn} {m c0 : Str} {p pos apos : Pos} {o e : Expr} {es : List Expr} {mo : M Rf} {ms : M (List Rf)} {md : List Bool}
theorem meth_tail {σ : L2.St} {H : Hp} {Q : VK} (hmg : X.mg c0 = some (.ref C)) (h : tG (amb X) Y (relE (amb X)) (eMeth c0 m fn md mo ms) σ H Q) :
    tG (amb X) Y (relE (amb X)) mo σ H fun x H1 => ∃ a dx fs, x = .ref a ∧ H1 a = some (.ins C dx fs) ∧ fs.lookup m = none ∧ tG (amb X) Y (relA (amb X)) ms σ H1 fun vs H2 => spZ (amb X) fn (x :: vs) H2 Q (fun cls d H' => Y.W cls d σ H') := by
  obtain ⟨F, P, G, ρ, r, er, e, hm, hp⟩ := h
  refine tE_bind er e hm hp fun G1 H1 ρ1 x v s1 e1 so1 hm1 hp1 => ?_
  cases q : deref ρ1 (stl x) with
  | none =>
    rw [q] at hm1
    cases hm1
  | some d =>
    rw [q] at hm1
    cases d with
    | ins c ns ds =>
      simp only at hm1
      by_cases hk : c = c0 ∧ ns.contains m = false
      · rw [if_pos hk] at hm1
        obtain ⟨rfl, hk⟩ := hk
        obtain ⟨a, C', dx, fs, rfl, m1, h1, rfl, h3⟩ := (top_of e1 so1 q).ins e1.gh
        have m1 : X.mg c = some (.ref C') := m1
        rw [hmg] at m1
        cases m1
        refine ⟨a, dx, fs, rfl, h1, lookup_out hk, tG_bind (Re := relA (amb X)) er e1 hm1 hp1 fun G2 H2 ρ2 xs vs s2 e2 so2 hk2 => ?_⟩
        exact fnL_tail e2 (.cons (so1.mono s2) so2) hk2 (hp1.mono s2)
      · rw [if_neg hk] at hm1
        cases hm1
    | _ => cases hm1
/-- o.m(e, ..) -/
theorem de_meth {pl : Sem Bool} (c : Cls X.K C) (hm : Meth X.K C m f) (hmg : X.mg c0 = some (.ref C)) (F : FnZ X.prog X.w X.K X.mg X.base k f fd ps fn) (hb : Binds X.K fd ps []) (hg : X.A.guards = some []) (hr : Room k X.A) (tk : Takes X Y.W) (ho : DE X Y o mo) (ha : DA X Y (e :: es) ms)
    (hst : starEach (e :: es) X.env = (false, eval e X.env) :: starEach es X.env := by rfl) (hpl : (backTo pos (starEach es X.env)).any (·.1) = false := by rfl)
    (ht : eval (.Call (.Attribute o m apos) (e :: es) [] pos) X.env = (do
      let ov ← eval o X.env
      standAt apos.atName
      let (g, first) ← holding [ov] (getMethod ov m pl)
      callWith pos g first (backTo pos (starEach (e :: es) X.env)) (backToKw pos (keywordEach [] X.env))) := by rfl) : DE X Y (.Call (.Attribute o m apos) (e :: es) [] pos) (eMeth c0 m fn md mo ms) := by
  refine ⟨fun pins s σ H Q I h => PySem.W.methodCall_KW (pl := pl) (thn (ho.run pins s σ H _ I (meth_tail hmg h)) ?_) ht⟩
  rintro u s1 ⟨x, H1, I1, rx, a, dx, fs, rfl, ea, l, q⟩
  obtain rfl : u = Value.ref a := rx
  refine getmeth_ok I1 ea c hm l (PySem.W.callWith_K (first := [.ref a]) (h₀ := X.base) I.ok.mod.kin hm.kp (thn (ha.run pos pins s1 σ H1 _ I1 q) ?_) hst hpl)
  rintro us s2 ⟨vs, H2, I2, r, q2⟩
  refine ⟨I2.kIn, run_z (all := .ref a :: us) F hg hr tk I2 ?_ (.cons (show RelV (V.ref a) (Value.ref a) from rfl) r) q2⟩
  have hl : ((Value.ref a :: us) ++ []).length = ps.length := by
    obtain ⟨G, as, r', _, hA, _, hf, _⟩ := q2
    rw [List.append_nil, List.length_cons, ← r.length, ← F.len _ _ hf, ← hA.length, List.length_cons]
  have b := hb s2 (Value.ref a :: us) I2.kIn hl
  rw [List.append_nil] at b
  exact b
/-- o.m() -/
theorem de_meth0 {pl : Sem Bool} (c : Cls X.K C) (hm : Meth X.K C m f) (hmg : X.mg c0 = some (.ref C)) (F : FnZ X.prog X.w X.K X.mg X.base k f fd ps fn) (hb : Binds X.K fd ps []) (hg : X.A.guards = some []) (hr : Room k X.A) (tk : Takes X Y.W) (ho : DE X Y o mo)
    (ht : eval (.Call (.Attribute o m apos) [] [] pos) X.env = (do
      let ov ← eval o X.env
      standAt apos.atName
      let (g, first) ← holding [ov] (getMethod ov m pl)
      callWith pos g first (backTo pos (starEach [] X.env)) (backToKw pos (keywordEach [] X.env))) := by rfl) : DE X Y (.Call (.Attribute o m apos) [] [] pos) (eMeth c0 m fn md mo aNil) := by
  refine ⟨fun pins s σ H Q I h => PySem.W.methodCall_KW (pl := pl) (thn (ho.run pins s σ H _ I (meth_tail hmg h)) ?_) ht⟩
  rintro u s1 ⟨x, H1, I1, rx, a, dx, fs, rfl, ea, l, q⟩
  obtain rfl : u = Value.ref a := rx
  obtain ⟨F1, P1, G1, ρ1, r1, er1, e1, hm1, hp1⟩ := q
  cases hm1
  have q2 := hp1 [] G1 H1 (Same.refl G1) e1 .nil
  have hl : ((Value.ref a :: []) ++ []).length = ps.length := by
    obtain ⟨G, as, r', _, hA, _, hf, _⟩ := q2
    rw [← F.len _ _ hf, ← hA.length]
    rfl
  have b := hb s1 [Value.ref a] I1.kIn hl
  rw [List.append_nil] at b
  exact getmeth_ok I1 ea c hm l (PySem.W.callWith_K0 (first := [.ref a]) I1.kIn hm.kp (run_z (us := [.ref a]) (all := [.ref a]) F hg hr tk I1 b (.cons (show RelV (V.ref a) (Value.ref a) from rfl) .nil) q2))
end
/-! exceptions of two fields -/
section
variable {P : Program} {w : World} {K : PySem.W.Frag} {mg : Str → Option Value} {base : Heap}
theorem ok_init2 {f : Addr} {fd : FuncData} {st : Stmt} {qual s1 s2 s3 : Str} {p1 p2 p3 p4 q1 q2 q3 q4 : Pos} {fl gl : Str} (F : Fun K "__init__" qual st f fd) (S : FnScope [s1, s2, s3] [s1, s2, s3] (defScope st))
    (hb : defBody st = [.Assign [.Attribute (.Name s1 p1) fl p2] (.Name s2 p3) p4, .Assign [.Attribute (.Name s1 q1) gl q2] (.Name s3 q3) q4])
    (h1 : (defScope st).names.lookup s1 = some .local) (h2 : (defScope st).names.lookup s2 = some .local) (h3 : (defScope st).names.lookup s3 = some .local) (d1 : (s1 == ("__debug__" : Str)) = false) (d2 : (s2 == ("__debug__" : Str)) = false) (d3 : (s3 == ("__debug__" : Str)) = false)
    (c1 : (s1 == ("__classdict__" : Str)) = false) (c2 : (s2 == ("__classdict__" : Str)) = false) (c3 : (s3 == ("__classdict__" : Str)) = false) : FnOk P w K mg base L2.CX0 1 f fd [s1, s2, s3] (spI2 K fl gl) := by
  refine F.ok S (fun vs H Q E h => ?_) (fun cdv A outer s H vs Q E hr h => ?_)
  · obtain ⟨a, C, y, z, rfl, _⟩ := h
    rfl
  · obtain ⟨a, C, y, z, rfl, T, hn, hn2, ha, k⟩ := h
    rw [hb]
    refine ⟨_, pss_cons (ps_ost (pe_var (i := 0) rfl (.inl h1) d1 c1) (pe_var (i := 1) rfl (.inl h2) d2 c2) rfl) (pss_one (ps_ost (pe_var (i := 0) rfl (.inl h1) d1 c1) (pe_var (i := 2) rfl (.inl h3) d3 c3) rfl)), ?_⟩
    refine ⟨_, rfl, _, rfl, a, C, rfl, T, hn, .inl ⟨ha, fun d n ne => ?_⟩⟩
    refine ⟨_, rfl, _, rfl, a, C, rfl, T, hn2, .inr ⟨d, [(fl, y)], upd_same, ?_, by simp, k d n ne⟩⟩
    rw [upd_ne ne, upd_same]
end
def sRaise2 (c f g : Str) (ms : M (List Rf)) : S := liftS ms fun xs => liftS (frzs xs) fun ds ρ => match ds with
  | [y, z] => some (.ex ⟨c, [g, f], [z, y]⟩ ρ)
  | _ => none
section
variable {X : Cx} {Y : Yc} {x : Str} {p pos pos2 : Pos} {a b : Expr} {ms : M (List Rf)}
theorem ds_raise2 {C fI : Addr} {k : Nat} {fd : FuncData} {ps : List Str} {f g : Str} (hc : X.calm = true) (T : OexC X.K C) (hno : PySem.W.findIn X.K (.ref C) f = some none) (hno2 : PySem.W.findIn X.K (.ref C) g = some none) (iC : PySem.W.findIn X.K (.ref C) "__init__" = some (some (.ref fI))) (tI : PySem.W.typeIn X.K (.ref fI) = some (.type "function"))
    (F1 : FnOk X.prog X.w X.K X.mg X.base L2.CX0 k fI fd ps (spI2 X.K f g)) (hr : Room (k + 1) X.A) (hb : Binds X.K fd ps []) (hm : X.mg x = some (.ref C)) (tk : Takes X Y.W) (ha : DA X Y [a, b] ms) (hg : Gl X x := by rfl)
    (hdb : (x == ("__debug__" : Str)) = false := by decide) (he : starEach (a :: [b]) X.env = (false, eval a X.env) :: starEach [b] X.env := by rfl) (hpl : (backTo pos (starEach [b] X.env)).any (·.1) = false := by rfl) :
    DS X Y (.Raise (some (.Call (.Name x p) [a, b] [] pos)) none pos2) (sRaise2 x f g ms) :=
  PS.weak (ps_raise hc tk (pmk_oex (dvs := []) T iC tI F1 hr hb .nil pass0 hg hm ha hdb he hpl)) fun D σ H ⟨F, P, G, ρ, o, er, e, hm0, hp⟩ => tS_bind (Re := relA (amb X)) er e hm0 hp fun G1 H1 ρ1 xs vs s1 e1 so hk => by
    obtain ⟨ds, ρ2, G2, hk2, s2, e2, im⟩ := liftS_frzs e1 so hk
    split at hk2
    · rename_i y z
      cases hk2
      cases im with
      | @cons v1 _ vs _ i1 im =>
      cases im with
      | @cons v2 _ vs _ i2 im =>
      cases im
      refine ⟨by simp, fun a0 n0 => ⟨a0, C, v1, v2, rfl, T, hno, hno2, upd_same, fun dx nd ne => ⟨rfl, dx, [(g, v2), (f, v1)], ?_, upd_same, ?_, ?_⟩⟩⟩
      · rw [upd_ne (Ne.symm ne), upd_same]
      · rw [upd_ne ne] at nd
        exact nd
      · rw [upd_ne ne] at nd
        have eq : upd (del (upd (upd (upd (upd H1 a0 (exo a0 C none)) dx (exd dx [(f, v1)])) a0 (exo a0 C (some dx))) dx (exd dx [(g, v2), (f, v1)])) a0) dx (.xd [(g, v2), (f, v1)]) = upd H1 dx (.xd [(g, v2), (f, v1)]) := by
          funext t
          by_cases h : t = dx
          · rw [h, upd_same, upd_same]
          · rw [upd_ne h, upd_ne h]
            unfold del
            by_cases h2 : t = a0
            · rw [if_pos h2, h2, n0]
            · rw [if_neg h2, upd_ne h, upd_ne h2, upd_ne h, upd_ne h2]
        rw [eq]
        obtain ⟨e3, s3⟩ := e2.new (o := .xd [(g, v2), (f, v1)]) nd
        exact hp (.ref C) (some dx) σ _ _ e3 ⟨C, hm, rfl, .inr ⟨dx, [(g, v2), (f, v1)], rfl, upd_same, rfl, .cons (i2.mono s3) (.cons (i1.mono s3) .nil)⟩⟩
    · cases hk2
end
end Z

set_option Elab.async false
set_option linter.all false
set_option maxRecDepth 100000
set_option maxHeartbeats 4000000
/-! ZW: sets made of lists, tuples. -/
namespace L2
open PySem PySem.Spec PyProof.Rows
abbrev set0 (w : World) : Obj := { cls := .type "set", dict := none, data := .set #[] 0 (.fresh 0 0 (!w.params.followText "set-order")) }
section
variable {P : Program} {w : World} {A : Around} {E : Value → Shared → Prop} {s : Shared}
/-- set(xs), xs a list: what the update's loop makes of the new set -/
theorem set_of_list {l : Addr} {items : Array Value} {Z : Heap → Prop} {Q : Value → Shared → Prop} (hl : s.heap.IsList l items)
    (loop : ∀ (R : Result → Shared → Prop), (∀ (h' : Heap) (tk : Nat), Z h' → (∀ b o, s.heap.get? b = some o → h'.get? b = some o) → R (.ok (.ret .none)) { s with heap := h', toks := tk }) →
      codeAny (model P w) A.in1.in1 (.builtin "set.update.loop" ⟨[.ref s.heap.objs.size, .ref (s.heap.objs.size + 1)], []⟩) R { s with heap := (s.heap.push (set0 w)).push { cls := .type "list_iterator", data := .fields #[.ref l, .int 0 0] } })
    (h : ∀ (h' : Heap) (tk : Nat), Z h' → (∀ b o, s.heap.get? b = some o → h'.get? b = some o) → Q (.ref s.heap.objs.size) { s with heap := h', toks := tk }) : wpAny (model P w) A (call (.type "set") [.ref l]) Q E s := by
  obtain ⟨c, tl, hmro⟩ := F.called_set.mro
  have hmade := F.called_set.made
  have hsub := F.called_set.sub
  apply wpAny_call
  apply codeAny_of_tree
  show wpAny _ _ (callAny (.type "set") _) _ _ _
  apply wpAny_pure
  refine ⟨Code.quiet_builtin _ (by decide +kernel), codeAny_builtin F.entry_type_call ?_⟩
  rw [Around.under_plain (weight_type_call_type "set" [.ref l] []) rfl]
  have h1 := F.called_set.notType
  have h2 := F.called_set.canCreate
  have hct := F.typeCall_set_1 (.ref l)
  repeat (any_goals (first | assumption | wp_step))
  refine codeAny_mono (code_set_led1 (.ref l) (E := E) (Q₁ := fun obj s₁ => obj = .ref s.heap.objs.size ∧ s₁ = { s with heap := s.heap.push (set0 w) }) ⟨rfl, rfl⟩) fun r s₁ hr => ?_
  cases r with
  | error e => exact hr
  | ok fl =>
    cases fl with
    | ret obj =>
      obtain ⟨rfl, rfl⟩ := hr
      have hS : (s.heap.push (set0 w)).get? s.heap.objs.size = some (set0 w) := Heap.get?_push_size _ rfl
      have hT : Shared.TypeIs { s with heap := s.heap.push (set0 w) } (.ref s.heap.objs.size) "set" := ⟨_, hS, rfl⟩
      have hli := F.called_set.init.lookup
      have hbi := F.called_set.init.bind (.ref s.heap.objs.size)
      repeat (any_goals (first | assumption | wp_step))
      refine codeAny_mono (codeAny_call_builtin (R := wants (fun r s₂ => r = .none ∧ ∃ h' tk, s₂ = { s with heap := h', toks := tk } ∧ Z h' ∧ (∀ b o, s.heap.get? b = some o → h'.get? b = some o)) E) F.called_set.init.plain F.entry_set_init (check_set_init_1 hT ?_)) fun r₂ s₂ hr₂ => ?_
      · obtain ⟨⟨ocls, odict, odata, oslots⟩, hol, hcl, nl, hdl⟩ := hl
        simp only at hcl hdl
        subst hcl; subst hdl
        have hol' : (s.heap.push (set0 w)).get? l = some { cls := .type "list", dict := odict, data := .seq items nl, slots := oslots } := Heap.get?_push_of_some _ hol
        have hsls := F.sub_list_set
        have hslf := F.sub_list_frozenset
        have hne : (Value.type "list" == Value.type "dict") = false := by decide
        have hl1 : (s.heap.push (set0 w)).IsList l items := ⟨_, hol', rfl, nl, rfl⟩
        unfold Builtin.«set.__init__» noKeywords Builtin.Frozenset.updateFrom
        generalize hPI : pyIter = PI
        wp_walk
        subst hPI
        refine wpAny_pyIter_list hl1 (wpAny_bind (wpAny_runValue ?_))
        have sz : (s.heap.push (set0 w)).objs.size = s.heap.objs.size + 1 := Heap.size_push ..
        show codeAny _ _ (.builtin "set.update.loop" ⟨[.ref s.heap.objs.size, .ref (s.heap.push (set0 w)).objs.size], []⟩) _ _
        rw [sz]
        refine loop _ fun h' tk z kp => ?_
        show wpAny _ _ _ _ _ _
        apply wpAny_pure
        show wpAny _ _ (ret Value.none) _ _ _
        exact wpAny_pure ⟨rfl, h', tk, rfl, z, kp⟩
      · cases r₂ with
        | error e => exact hr₂
        | ok fl₂ =>
          cases fl₂ with
          | ret r =>
            obtain ⟨rfl, h', tk, rfl, z, kp⟩ := hr₂
            repeat (any_goals (first | assumption | wp_step))
            exact h _ _ z kp
          | _ => exact hr₂.elim
    | _ => exact hr.elim
/-- set(xs), xs a tuple: what the update's loop makes of the new set -/
theorem set_of_tuple {l : Addr} {items : Array Value} {Z : Heap → Prop} {Q : Value → Shared → Prop} (hl : s.heap.IsTuple l items)
    (loop : ∀ (R : Result → Shared → Prop), (∀ (h' : Heap) (tk : Nat), Z h' → (∀ b o, s.heap.get? b = some o → h'.get? b = some o) → R (.ok (.ret .none)) { s with heap := h', toks := tk }) →
      codeAny (model P w) A.in1.in1 (.builtin "set.update.loop" ⟨[.ref s.heap.objs.size, .ref (s.heap.objs.size + 1)], []⟩) R { s with heap := (s.heap.push (set0 w)).push { cls := .type "tuple_iterator", data := .fields #[.ref l, .int 0 0] } })
    (h : ∀ (h' : Heap) (tk : Nat), Z h' → (∀ b o, s.heap.get? b = some o → h'.get? b = some o) → Q (.ref s.heap.objs.size) { s with heap := h', toks := tk }) : wpAny (model P w) A (call (.type "set") [.ref l]) Q E s := by
  obtain ⟨c, tl, hmro⟩ := F.called_set.mro
  have hmade := F.called_set.made
  have hsub := F.called_set.sub
  apply wpAny_call
  apply codeAny_of_tree
  show wpAny _ _ (callAny (.type "set") _) _ _ _
  apply wpAny_pure
  refine ⟨Code.quiet_builtin _ (by decide +kernel), codeAny_builtin F.entry_type_call ?_⟩
  rw [Around.under_plain (weight_type_call_type "set" [.ref l] []) rfl]
  have h1 := F.called_set.notType
  have h2 := F.called_set.canCreate
  have hct := F.typeCall_set_1 (.ref l)
  repeat (any_goals (first | assumption | wp_step))
  refine codeAny_mono (code_set_led1 (.ref l) (E := E) (Q₁ := fun obj s₁ => obj = .ref s.heap.objs.size ∧ s₁ = { s with heap := s.heap.push (set0 w) }) ⟨rfl, rfl⟩) fun r s₁ hr => ?_
  cases r with
  | error e => exact hr
  | ok fl =>
    cases fl with
    | ret obj =>
      obtain ⟨rfl, rfl⟩ := hr
      have hS : (s.heap.push (set0 w)).get? s.heap.objs.size = some (set0 w) := Heap.get?_push_size _ rfl
      have hT : Shared.TypeIs { s with heap := s.heap.push (set0 w) } (.ref s.heap.objs.size) "set" := ⟨_, hS, rfl⟩
      have hli := F.called_set.init.lookup
      have hbi := F.called_set.init.bind (.ref s.heap.objs.size)
      repeat (any_goals (first | assumption | wp_step))
      refine codeAny_mono (codeAny_call_builtin (R := wants (fun r s₂ => r = .none ∧ ∃ h' tk, s₂ = { s with heap := h', toks := tk } ∧ Z h' ∧ (∀ b o, s.heap.get? b = some o → h'.get? b = some o)) E) F.called_set.init.plain F.entry_set_init (check_set_init_1 hT ?_)) fun r₂ s₂ hr₂ => ?_
      · obtain ⟨⟨ocls, odict, odata, oslots⟩, hol, hcl, nl, hdl⟩ := hl
        simp only at hcl hdl
        subst hcl; subst hdl
        have hol' : (s.heap.push (set0 w)).get? l = some { cls := .type "tuple", dict := odict, data := .seq items nl, slots := oslots } := Heap.get?_push_of_some _ hol
        have hsls := F.sub_tuple_set
        have hslf := F.sub_tuple_frozenset
        have hne : (Value.type "tuple" == Value.type "dict") = false := by decide
        have hl1 : (s.heap.push (set0 w)).IsTuple l items := ⟨_, hol', rfl, nl, rfl⟩
        unfold Builtin.«set.__init__» noKeywords Builtin.Frozenset.updateFrom
        generalize hPI : pyIter = PI
        wp_walk
        subst hPI
        refine wpAny_pyIter_tuple hl1 (wpAny_bind (wpAny_runValue ?_))
        have sz : (s.heap.push (set0 w)).objs.size = s.heap.objs.size + 1 := Heap.size_push ..
        show codeAny _ _ (.builtin "set.update.loop" ⟨[.ref s.heap.objs.size, .ref (s.heap.push (set0 w)).objs.size], []⟩) _ _
        rw [sz]
        refine loop _ fun h' tk z kp => ?_
        show wpAny _ _ _ _ _ _
        apply wpAny_pure
        show wpAny _ _ (ret Value.none) _ _ _
        exact wpAny_pure ⟨rfl, h', tk, rfl, z, kp⟩
      · cases r₂ with
        | error e => exact hr₂
        | ok fl₂ =>
          cases fl₂ with
          | ret r =>
            obtain ⟨rfl, h', tk, rfl, z, kp⟩ := hr₂
            repeat (any_goals (first | assumption | wp_step))
            exact h _ _ z kp
          | _ => exact hr₂.elim
    | _ => exact hr.elim
end
end L2

set_option Elab.async false
set_option linter.all false
set_option maxRecDepth 100000
set_option maxHeartbeats 4000000
/-! ZX: sorted(set(xs)) of ints, of tuples of ints. -/
namespace L2
open PySem PySem.Spec PyProof.Rows
section
variable {P : Program} {w : World} {A : Around} {E : Value → Shared → Prop} {s : Shared}
theorem none_over {b : Addr} (hb : s.heap.objs.size ≤ b) : s.heap.get? b = none := by
  cases q : s.heap.get? b with
  | none => rfl
  | some o => exact absurd (Nat.lt_of_lt_of_le (Heap.lt_size q) hb) (Nat.lt_irrefl _)
/-- the loop over ints -/
theorem loop_ints {l : Addr} {items : Array Value} {fp wr : List Addr} {St : Nat → Shared → Prop} {o : Obj} (ns : List Int) (hit : IntsAre items.toList ns) (hb : ns.length + 1 < scanBound)
    (W : WalksS P w A.in1.in1.in1 (s.heap.objs.size + 1) fp wr (fun g g' => g' = g) items.size (fun i v => items[i]? = some v) St) (hf : s.heap.objs.size ∉ fp) (hw : ∀ b ∈ wr, s.heap.objs.size ≤ b)
    (h0 : St 0 { s with heap := (s.heap.push (set0 w)).push o }) (R : Result → Shared → Prop)
    (fin : ∀ (h' : Heap) (tk : Nat), (∃ c, SetR w h' s.heap.objs.size (fun j => decide (j ∈ ns)) c ∧ c ≤ ns.length) → (∀ b o, s.heap.get? b = some o → h'.get? b = some o) → R (.ok (.ret .none)) { s with heap := h', toks := tk }) :
    codeAny (model P w) A.in1.in1 (.builtin "set.update.loop" ⟨[.ref s.heap.objs.size, .ref (s.heap.objs.size + 1)], []⟩) R { s with heap := (s.heap.push (set0 w)).push o } := by
  have hn : items.size = ns.length := by
    have q := IntsAre.length hit
    rw [Array.length_toList] at q
    exact q
  have hval : ∀ (i : Nat) (v : Value), items[i]? = some v → ∃ k t, ns[i]? = some k ∧ v = .int k t := fun i v hv => by
    have hi : i < ns.length := by
      rw [← hn]
      exact (Array.getElem?_eq_some_iff.mp hv).1
    obtain ⟨t, e⟩ := PyProof.Rows.IntsAre.int_at hit i v (by rw [Array.getElem?_toList]; exact hv)
    refine ⟨ns[i], t, List.getElem?_eq_getElem hi, ?_⟩
    rw [e, List.getD_eq_getElem?_getD, List.getElem?_eq_getElem hi]
    all_goals rfl
  have at0 : ((s.heap.push (set0 w)).push o).get? s.heap.objs.size = some (set0 w) := Heap.get?_push_of_some _ (Heap.get?_push_size _ rfl)
  refine set_update_ints W s.heap.objs.size hf ns hn hb hval (items.size - 0) 0 _ (by omega) (Nat.zero_le _) h0 ⟨0, Nat.le_refl 0, setR_new_at at0⟩ fun s' c hm hc hS => ?_
  obtain ⟨h', g2, d', tk', os'⟩ := s'
  cases hm.gens
  cases (show d' = s.drawn from hm.drawn)
  cases (show os' = s.os from hm.os)
  rw [hn] at hc
  refine fin h' tk' ⟨c, hS, hc⟩ fun b o' e => hm.heap b o' (fun z => ?_) (Heap.get?_push_of_some _ (Heap.get?_push_of_some _ e))
  have lt := Heap.lt_size e
  rcases List.mem_cons.mp z with z | z
  · rw [z] at lt
    exact Nat.lt_irrefl _ lt
  · exact absurd lt (Nat.not_lt.mpr (hw b z))
/-- the loop over tuples of ints -/
theorem loop_tups {l : Addr} {items : Array Value} {fp wr : List Addr} {St : Nat → Shared → Prop} {o : Obj} (ks : List (Addr × List Int)) (hit : items.toList = ks.map fun p => Value.ref p.1) (hk : ∀ p ∈ ks, IsT P w s.heap p.2 p.1) (few : ks.length < 64) (hu : A.units + 3 < cLine)
    (W : WalksS P w A.in1.in1.in1 (s.heap.objs.size + 1) fp wr (fun g g' => g' = g) items.size (fun i v => items[i]? = some v) St) (hf : s.heap.objs.size ∉ fp) (hw : ∀ b ∈ wr, s.heap.objs.size ≤ b)
    (h0 : St 0 { s with heap := (s.heap.push (set0 w)).push o }) (R : Result → Shared → Prop)
    (fin : ∀ (h' : Heap) (tk : Nat), (∃ L es ep t, SetTR P w h' s.heap.objs.size L es ep t ∧ Got ks ks.length L) → (∀ b o, s.heap.get? b = some o → h'.get? b = some o) → R (.ok (.ret .none)) { s with heap := h', toks := tk }) :
    codeAny (model P w) A.in1.in1 (.builtin "set.update.loop" ⟨[.ref s.heap.objs.size, .ref (s.heap.objs.size + 1)], []⟩) R { s with heap := (s.heap.push (set0 w)).push o } := by
  have hn : items.size = ks.length := by
    have q := congrArg List.length hit
    rw [Array.length_toList, List.length_map] at q
    exact q
  have hval : ∀ (i : Nat) (v : Value), items[i]? = some v → ∃ p, ks[i]? = some p ∧ v = .ref p.1 := fun i v hv => by
    have q : items.toList[i]? = some v := by rw [Array.getElem?_toList]; exact hv
    rw [hit, List.getElem?_map] at q
    cases e : ks[i]? with
    | none =>
      rw [e] at q
      cases q
    | some p =>
      rw [e] at q
      exact ⟨p, rfl, (Option.some.inj q).symm⟩
  have at0 : ((s.heap.push (set0 w)).push o).get? s.heap.objs.size = some (set0 w) := Heap.get?_push_of_some _ (Heap.get?_push_size _ rfl)
  refine set_update_tups W s.heap.objs.size hf ks hn few hval s.heap hk (none_over (Nat.le_refl _)) (fun b hb => none_over (hw b hb)) (by show A.units + 3 < cLine; exact hu) (items.size - 0) 0 _ (by omega) (Nat.zero_le _) h0
    (fun b o' e => Heap.get?_push_of_some _ (Heap.get?_push_of_some _ e)) ⟨[], #[], 0, _, setTR_fresh at0, Got.zero ks⟩ fun s' L es ep t hm hS g kp => ?_
  obtain ⟨h', g2, d', tk', os'⟩ := s'
  cases hm.gens
  cases (show d' = s.drawn from hm.drawn)
  cases (show os' = s.os from hm.os)
  rw [hn] at g
  exact fin h' tk' ⟨L, es, ep, t, hS, g⟩ kp
end
section
variable {X : Cx}
theorem ne_succ {l n : Nat} (h : l < n) : l ≠ n + 1 := by omega
theorem out_two {l n : Nat} (h : l < n) : n ∉ [n + 1, l] := by
  simp only [List.mem_cons, List.not_mem_nil, or_false, not_or]
  omega
def rSetI (X : Cx) : List V → Hp → VK → Prop := fun xs H Q => ∃ (l : Addr) (ns : List Int), xs = [.ref l] ∧ (SqL X.K H l (ns.map V.int) ∨ SqT X.K H l (ns.map V.int)) ∧ ns.length < 64 ∧
  ∀ (a : Addr) (c : Nat), H a = none → c ≤ ns.length → Q (.ref a) (upd H a (SetO X.w a (fun j => decide (j ∈ ns)) c))
theorem cr_setI (hc : X.calm = true) : CallR X (.type "set") (rSetI X) := by
  intro pins s σ H xs us Q I r h
  obtain ⟨l, ns, rfl, hq, h64, q⟩ := h
  rw [Vals.ref1 r]
  have hh : X.A.in1.in1.in1.handled = none := by simp [I.ok.hd hc]
  have big : ns.length + 1 < scanBound := Nat.lt_of_lt_of_le (Nat.succ_lt_succ h64) (by decide)
  have fin : ∀ (h' : Heap) (tk : Nat), (∃ c, SetR X.w h' s.heap.objs.size (fun j => decide (j ∈ ns)) c ∧ c ≤ ns.length) → (∀ b o, s.heap.get? b = some o → h'.get? b = some o) → EP X pins σ Q (.ref s.heap.objs.size) { s with heap := h', toks := tk } := by
    rintro h' tk ⟨c, R, le⟩ kp
    exact ⟨.ref _, _, I.laid (t' := tk) kp (Nat.le_refl _) (setO_new R), rfl, q _ c I.fresh le⟩
  rcases hq with hq | hq
  · obtain ⟨its, rv, pl, _⟩ := I.list hq
    have lt : l < s.heap.objs.size := by
      obtain ⟨o, g, _⟩ := pl.isList
      exact Heap.lt_size g
    have il : ((s.heap.push (set0 X.w)).push { cls := .type "list_iterator", data := .fields #[.ref l, .int 0 0] }).IsList l its.toArray := (pl.isList.push _).push _
    refine set_of_list pl.isList (fun R k => loop_ints (l := l) ns (by simpa using rv.ints) big (Walks.list hh (s.heap.objs.size + 1) l (ne_succ lt) its.toArray).toS (out_two lt) (fun b hb => by rw [List.mem_singleton.mp hb]; exact Nat.le_succ _) ⟨⟨{ cls := .type "list_iterator", data := .fields #[.ref l, .int 0 0] }, ?_, rfl, rfl⟩, il⟩ R k) fin
    have sz : (s.heap.push (set0 X.w)).objs.size = s.heap.objs.size + 1 := Heap.size_push ..
    rw [← sz]
    exact Heap.get?_push_size _ rfl
  · obtain ⟨its, rv, pl, _⟩ := I.tuple hq
    have lt : l < s.heap.objs.size := by
      obtain ⟨o, g, _⟩ := pl
      exact Heap.lt_size g
    have il : ((s.heap.push (set0 X.w)).push { cls := .type "tuple_iterator", data := .fields #[.ref l, .int 0 0] }).IsTuple l its.toArray := PySem.Heap.IsTuple.push (PySem.Heap.IsTuple.push pl _) _
    refine set_of_tuple pl (fun R k => loop_ints (l := l) ns (by simpa using rv.ints) big (Walks.tuple hh (s.heap.objs.size + 1) l (ne_succ lt) its.toArray).toS (out_two lt) (fun b hb => by rw [List.mem_singleton.mp hb]; exact Nat.le_succ _) ⟨⟨{ cls := .type "tuple_iterator", data := .fields #[.ref l, .int 0 0] }, ?_, rfl, rfl⟩, il⟩ R k) fin
    have sz : (s.heap.push (set0 X.w)).objs.size = s.heap.objs.size + 1 := Heap.size_push ..
    rw [← sz]
    exact Heap.get?_push_size _ rfl
def rSetP (X : Cx) : List V → Hp → VK → Prop := fun xs H Q => ∃ (l : Addr) (ks : List (Addr × List Int)), xs = [.ref l] ∧ (SqL X.K H l (ks.map fun p => V.ref p.1) ∨ SqT X.K H l (ks.map fun p => V.ref p.1)) ∧ (∀ p ∈ ks, SqT X.K H p.1 (p.2.map V.int)) ∧ ks.length < 64 ∧
  ∀ a L, H a = none → (∀ p ∈ L, p ∈ ks) → (∀ p ∈ ks, p.2 ∈ L.map (·.2)) → Q (.ref a) (upd H a (SetTO X.prog X.w a L))
theorem cr_setP (hc : X.calm = true) (hu : X.A.units + 64 < cLine) : CallR X (.type "set") (rSetP X) := by
  intro pins s σ H xs us Q I r h
  obtain ⟨l, ks, rfl, hq, hk, h64, q⟩ := h
  rw [Vals.ref1 r]
  have hh : X.A.in1.in1.in1.handled = none := by simp [I.ok.hd hc]
  have fin : ∀ (h' : Heap) (tk : Nat), (∃ L es ep t, SetTR X.prog X.w h' s.heap.objs.size L es ep t ∧ Got ks ks.length L) → (∀ b o, s.heap.get? b = some o → h'.get? b = some o) → EP X pins σ Q (.ref s.heap.objs.size) { s with heap := h', toks := tk } := by
    rintro h' tk ⟨L, es, ep, t, R, g⟩ kp
    refine ⟨.ref _, _, I.laid (t' := tk) kp (Nat.le_refl _) (setTO_new R.t0), rfl, q _ L I.fresh (fun p hp => List.mem_of_mem_take (g.sub p hp)) fun p hp => g.all p ?_⟩
    rw [List.take_length]
    exact hp
  have hT : ∀ p ∈ ks, IsT X.prog X.w s.heap p.2 p.1 := fun p hp => I.isT (hk p hp)
  rcases hq with hq | hq
  · obtain ⟨its, rv, pl, _⟩ := I.list hq
    have lt : l < s.heap.objs.size := by
      obtain ⟨o, g, _⟩ := pl.isList
      exact Heap.lt_size g
    have il : ((s.heap.push (set0 X.w)).push { cls := .type "list_iterator", data := .fields #[.ref l, .int 0 0] }).IsList l its.toArray := (pl.isList.push _).push _
    refine set_of_list pl.isList (fun R k => loop_tups (l := l) ks (by simpa using refs_of_vals rv) hT h64 (by omega) (Walks.list hh (s.heap.objs.size + 1) l (ne_succ lt) its.toArray).toS (out_two lt) (fun b hb => by rw [List.mem_singleton.mp hb]; exact Nat.le_succ _) ⟨⟨{ cls := .type "list_iterator", data := .fields #[.ref l, .int 0 0] }, ?_, rfl, rfl⟩, il⟩ R k) fin
    have sz : (s.heap.push (set0 X.w)).objs.size = s.heap.objs.size + 1 := Heap.size_push ..
    rw [← sz]
    exact Heap.get?_push_size _ rfl
  · obtain ⟨its, rv, pl, _⟩ := I.tuple hq
    have lt : l < s.heap.objs.size := by
      obtain ⟨o, g, _⟩ := pl
      exact Heap.lt_size g
    have il : ((s.heap.push (set0 X.w)).push { cls := .type "tuple_iterator", data := .fields #[.ref l, .int 0 0] }).IsTuple l its.toArray := PySem.Heap.IsTuple.push (PySem.Heap.IsTuple.push pl _) _
    refine set_of_tuple pl (fun R k => loop_tups (l := l) ks (by simpa using refs_of_vals rv) hT h64 (by omega) (Walks.tuple hh (s.heap.objs.size + 1) l (ne_succ lt) its.toArray).toS (out_two lt) (fun b hb => by rw [List.mem_singleton.mp hb]; exact Nat.le_succ _) ⟨⟨{ cls := .type "tuple_iterator", data := .fields #[.ref l, .int 0 0] }, ?_, rfl, rfl⟩, il⟩ R k) fin
    have sz : (s.heap.push (set0 X.w)).objs.size = s.heap.objs.size + 1 := Heap.size_push ..
    rw [← sz]
    exact Heap.get?_push_size _ rfl
end
end L2

set_option Elab.async false
set_option linter.all false
set_option maxRecDepth 100000
set_option maxHeartbeats 4000000
/-! ZY: x in a tuple or list; isinstance of an own class, of two types. -/
namespace Z
open PySem PySem.Spec PyProof.Rows L2
section
variable {P : Program} {w : World} {A : Around} {E : Value → Shared → Prop} {s : Shared}
theorem in_tupR {c x : Value} {xs : List PyData} {d : PyData} {as bs : List Addr} {Q : Value → Shared → Prop} (rc : PySem.Reads s.heap c (.tuple xs) as) (rx : PySem.Reads s.heap x d bs) (hxs : PyData.canLayAll0 xs = true) (hd : d.canLay0 = true)
    (hu : A.units + 1 + min (PyData.depthAll xs) d.depth < cLine) (h : Q (.bool (xs.any fun y => PyData.eqv y d)) s) : wpAny (model P w) A (compareOp .In x c) Q E s := by
  cases rc with
  | tuple h1 h2 h3 h4 => exact SeqAt.in_tupleAt _ ⟨_, h1, h2, _, h3⟩ (SeqAt.items_eqAt h4 rx hxs hd hu) (by rw [SeqAt.any_by_data h4 hxs]; exact h)
theorem notin_tupR {c x : Value} {xs : List PyData} {d : PyData} {as bs : List Addr} {Q : Value → Shared → Prop} (rc : PySem.Reads s.heap c (.tuple xs) as) (rx : PySem.Reads s.heap x d bs) (hxs : PyData.canLayAll0 xs = true) (hd : d.canLay0 = true)
    (hu : A.units + 1 + min (PyData.depthAll xs) d.depth < cLine) (h : Q (.bool (!xs.any fun y => PyData.eqv y d)) s) : wpAny (model P w) A (compareOp .NotIn x c) Q E s := by
  cases rc with
  | tuple h1 h2 h3 h4 => exact SeqAt.notIn_tupleAt _ ⟨_, h1, h2, _, h3⟩ (SeqAt.items_eqAt h4 rx hxs hd hu) (by rw [SeqAt.any_by_data h4 hxs]; exact h)
end
section
variable {X : Cx} {Y : Yc} {a : Expr} {ma : M Rf} {pos : Pos}
def rInT (K : PySem.W.Frag) (neg : Bool) : R2 := fun x y H Q => ∃ d ds, Dp K H x d ∧ Dp K H y (.tuple ds) ∧ SeqAt.shaped d = true ∧ SeqAt.shaped (.tuple ds) = true ∧ Q (.bl (if neg then !(ds.any fun z => PyData.eqv z d) else ds.any fun z => PyData.eqv z d)) H
theorem op_inT (hu : X.A.units + 65 < cLine) : OpR X (compareOp .In) (rInT X.K false) := by
  intro pins s σ H x y v u Q I rx ry h
  obtain ⟨d, ds, hd, he, sd, se, q⟩ := h
  obtain ⟨as, r1⟩ := Dp.reads I d x v hd rx
  obtain ⟨bs, r2⟩ := Dp.reads I (.tuple ds) y u he ry
  exact in_tupR r2 r1 (SeqAt.canLay_of_shaped se) (SeqAt.canLay_of_shaped sd) (room_in_shaped sd hu) ⟨.bl _, H, I, rfl, q⟩
theorem op_notinT (hu : X.A.units + 65 < cLine) : OpR X (compareOp .NotIn) (rInT X.K true) := by
  intro pins s σ H x y v u Q I rx ry h
  obtain ⟨d, ds, hd, he, sd, se, q⟩ := h
  obtain ⟨as, r1⟩ := Dp.reads I d x v hd rx
  obtain ⟨bs, r2⟩ := Dp.reads I (.tuple ds) y u he ry
  exact notin_tupR r2 r1 (SeqAt.canLay_of_shaped se) (SeqAt.canLay_of_shaped sd) (room_in_shaped sd hu) ⟨.bl _, H, I, rfl, q⟩
/-- whether d is in q -/
def inD (d q : D) : Option Bool := match d.py, q.py with
  | some x, some (.list ys) => if SeqAt.shaped x = true ∧ SeqAt.shaped (.list ys) = true then some (ys.any fun z => PyData.eqv z x) else none
  | some x, some (.tuple ys) => if SeqAt.shaped x = true ∧ SeqAt.shaped (.tuple ys) = true then some (ys.any fun z => PyData.eqv z x) else none
  | _, _ => none
theorem inD_some {d q : D} {c : Bool} (h : inD d q = some c) : ∃ x ys, d.py = some x ∧ SeqAt.shaped x = true ∧ c = (ys.any fun z => PyData.eqv z x) ∧ ((q.py = some (.list ys) ∧ SeqAt.shaped (.list ys) = true) ∨ (q.py = some (.tuple ys) ∧ SeqAt.shaped (.tuple ys) = true)) := by
  unfold inD at h
  split at h
  · rename_i x ys e1 e2
    split at h
    · rename_i g
      cases h
      exact ⟨x, ys, e1, g.1, rfl, .inl ⟨e2, g.2⟩⟩
    · cases h
  · rename_i x ys e1 e2
    split at h
    · rename_i g
      cases h
      exact ⟨x, ys, e1, g.1, rfl, .inr ⟨e2, g.2⟩⟩
    · cases h
  · cases h
def fIn : D → D → Option D := fun p q => (inD p q).map .bl
def fNin : D → D → Option D := fun p q => (inD p q).map fun c => .bl (!c)
theorem od_in (hu : X.A.units + 65 < cLine) : OpD X (compareOp .In) fIn := ⟨_, (op_inD hu).or (op_inT hu), fun F P σ G H ρ x y p q d Q e t1 t2 hf hq => by
  obtain ⟨c, hc, rfl⟩ := map_some' hf
  obtain ⟨x', ys, h1, h2, rfl, h3 | h3⟩ := inD_some hc
  · exact .inl ⟨x', ys, t1.dp e.gh h1, t2.dp e.gh h3.1, h2, h3.2, hq _ G H (Same.refl G) e (.bl _)⟩
  · exact .inr ⟨x', ys, t1.dp e.gh h1, t2.dp e.gh h3.1, h2, h3.2, hq _ G H (Same.refl G) e (.bl _)⟩⟩
theorem od_nin (hu : X.A.units + 65 < cLine) : OpD X (compareOp .NotIn) fNin := ⟨_, (op_notInD hu).or (op_notinT hu), fun F P σ G H ρ x y p q d Q e t1 t2 hf hq => by
  obtain ⟨c, hc, rfl⟩ := map_some' hf
  obtain ⟨x', ys, h1, h2, rfl, h3 | h3⟩ := inD_some hc
  · exact .inl ⟨x', ys, t1.dp e.gh h1, t2.dp e.gh h3.1, h2, h3.2, hq _ G H (Same.refl G) e (.bl _)⟩
  · exact .inr ⟨x', ys, t1.dp e.gh h1, t2.dp e.gh h3.1, h2, h3.2, hq _ G H (Same.refl G) e (.bl _)⟩⟩
/-! isinstance(x, (list, tuple)) -/
def isLT (d : D) : Option Bool := match isTy d .list, isTy d .tuple with
  | some b, some c => some (b || c)
  | _, _ => none
theorem isLT_some {d : D} {b : Bool} (h : isLT d = some b) : ∃ n, d.ty = some n ∧ ∀ K, PySem.W.kitAny K (.type n) [.type "list", .type "tuple"] = some b := by
  unfold isLT at h
  split at h
  · rename_i b1 b2 e1 e2
    cases h
    obtain ⟨n, h1, k1⟩ := isTy_kit e1
    obtain ⟨m, h2, k2⟩ := isTy_kit e2
    rw [h1] at h2
    cases h2
    refine ⟨n, h1, fun K => kitAny_cons (kit_ty k1) (fun z => kitAny_cons (kit_ty k2) (fun z2 => ?_) fun z2 => ?_) fun z => ?_⟩
    · rw [z, z2]
      rfl
    · rw [z, z2]
      rfl
    · rw [z]
      rfl
  · cases h
def eIsLT (ma : M Rf) : M Rf := bindM ma fun x => bindM (drf (stl x)) fun d => optM ((isLT d).map fun b => .dat (.bl b))
theorem de_isLT {x1 : Nat} {p p2 p3 p4 : Pos} (hm : X.mg "isinstance" = none) (hml : X.mg "list" = none) (hmt : X.mg "tuple" = none) (ha : DE X Y a ma) (hgl : Gl X "list" := by rfl) (hgt : Gl X "tuple" := by rfl) (hg : Gl X "isinstance" := by rfl)
    (he : starEach [a, .Tuple [.Name "list" p2, .Name "tuple" p3] x1 p4] X.env = (false, eval a X.env) :: starEach [.Tuple [.Name "list" p2, .Name "tuple" p3] x1 p4] X.env := by rfl)
    (he2 : starEach [.Tuple [.Name "list" p2, .Name "tuple" p3] x1 p4] X.env = (false, eval (.Tuple [.Name "list" p2, .Name "tuple" p3] x1 p4) X.env) :: starEach [] X.env := by rfl)
    (he3 : starEach [.Name "list" p2, .Name "tuple" p3] X.env = (false, eval (.Name "list" p2) X.env) :: starEach [.Name "tuple" p3] X.env := by rfl)
    (he4 : starEach [.Name "tuple" p3] X.env = (false, eval (.Name "tuple" p3) X.env) :: starEach [] X.env := by rfl)
    (hpl : (backTo pos (starEach [.Tuple [.Name "list" p2, .Name "tuple" p3] x1 p4] X.env)).any (·.1) = false := by rfl) : DE X Y (.Call (.Name "isinstance" p) [a, .Tuple [.Name "list" p2, .Name "tuple" p3] x1 p4] [] pos) (eIsLT ma) :=
  PE.weak (pe_callB call_isiT hg hm rfl (pa_cons ha (pa_cons (pe_tup (pa_cons (pe_bltn (v := .ty "list") hgl hml rfl rfl (by decide) (by decide)) (pa_cons (pe_bltn (v := .ty "tuple") hgt hmt rfl rfl (by decide) (by decide)) pa_nil he4) he3)) pa_nil he2) he) (by decide) (by decide) he hpl) fun σ H Q ⟨F, P, G, ρ, r', er, e, hm, hp⟩ =>
    tE_bind er e hm hp fun G1 H1 ρ1 x v s1 e1 so hk hp1 => by
      obtain ⟨d, hd, hm2⟩ := drf_ok hk
      obtain ⟨z, hz, rfl⟩ := optM_ok hm2
      obtain ⟨b, hb, rfl⟩ := map_some' hz
      obtain ⟨n, h1, h2⟩ := isLT_some hb
      refine ⟨by rw [sizeLine_eq]; simp, fun tp hn => ?_⟩
      have e2 := e1.more (same_new (o := .tup [V.ty "list", V.ty "tuple"]) hn)
      exact ⟨v, tp, _, _, _, b, rfl, upd_same, .cons (.ty _) (.cons (.ty _) .nil), (top_of e2 so hd).ty e2.gh h1, h2 X.K, hp1 _ G1 _ (Same.refl G1) e2 (.bl b)⟩
/-! isinstance(x, C), C an own class -/
structure OwnIs (K : PySem.W.Frag) (C : Addr) : Prop where
  c : C8.InsC K C
  ty : ∀ n ∈ ["NoneType", "bool", "int", "str", "list", "tuple", "dict"], PySem.W.kitOne K (.type n) (.ref C) = some false
def isOwn (c : Str) (d : D) : Option Bool := match d with
  | .ins c' _ _ => if c' = c then some true else none
  | _ => some false
theorem D.ty_in {d : D} {n : String} (h : d.ty = some n) : n ∈ ["NoneType", "bool", "int", "str", "list", "tuple", "dict"] := by
  cases d <;> cases h <;> decide
theorem isOwn_ty {K : PySem.W.Frag} {A : Amb} {G H : Hp} {C : Addr} {c : Str} {d : D} {b : Bool} {v : V} (o : OwnIs A.K C) (hm : A.mg c = some (.ref C)) (g : Same G H) (t : Top A G H v d) (h : isOwn c d = some b) : ∃ u, TyX A.K H v u ∧ PySem.W.kitOne A.K u (.ref C) = some b := by
  cases d with
  | ins c' ns ds =>
    unfold isOwn at h
    simp only at h
    split at h
    · rename_i ec
      cases h
      subst ec
      obtain ⟨a, C', dx, fs, rfl, m1, h1, _, _⟩ := t.ins g
      rw [hm] at m1
      cases m1
      exact ⟨.ref C, .base (.ins h1 o.c.cl o.c.ha o.c.hn o.c.htk o.c.hm), o.c.me⟩
    · cases h
  | non => cases h; exact ⟨_, t.ty g rfl, o.ty _ (by decide)⟩
  | bl b => cases h; exact ⟨_, t.ty g rfl, o.ty _ (by decide)⟩
  | int b => cases h; exact ⟨_, t.ty g rfl, o.ty _ (by decide)⟩
  | str b => cases h; exact ⟨_, t.ty g rfl, o.ty _ (by decide)⟩
  | lst b => cases h; exact ⟨_, t.ty g rfl, o.ty _ (by decide)⟩
  | tup b => cases h; exact ⟨_, t.ty g rfl, o.ty _ (by decide)⟩
  | pr b => cases h; exact ⟨_, t.ty g rfl, o.ty _ (by decide)⟩
  | dic b c => cases h; exact ⟨_, t.ty g rfl, o.ty _ (by decide)⟩
def eIsOwn (c : Str) (ma : M Rf) : M Rf := bindM ma fun x => bindM (drf (stl x)) fun d => optM ((isOwn c d).map fun b => .dat (.bl b))
theorem de_isOwn {c : Str} {C : Addr} {p p2 : Pos} (o : OwnIs X.K C) (hc : X.mg c = some (.ref C)) (hm : X.mg "isinstance" = none) (ha : DE X Y a ma) (hgc : Gl X c := by rfl) (hg : Gl X "isinstance" := by rfl) (hdb : (c == ("__debug__" : Str)) = false := by decide)
    (he : starEach [a, .Name c p2] X.env = (false, eval a X.env) :: starEach [.Name c p2] X.env := by rfl) (he2 : starEach [.Name c p2] X.env = (false, eval (.Name c p2) X.env) :: starEach [] X.env := by rfl)
    (hpl : (backTo pos (starEach [.Name c p2] X.env)).any (·.1) = false := by rfl) : DE X Y (.Call (.Name "isinstance" p) [a, .Name c p2] [] pos) (eIsOwn c ma) :=
  PE.weak (pe_callB call_isi hg hm rfl (pa_cons ha (pa_cons (pe_glob (v := .ref C) hgc hc rfl hdb) pa_nil he2) he) (by decide) (by decide) he hpl) fun σ H Q ⟨F, P, G, ρ, r', er, e, hm, hp⟩ =>
    tE_bind er e hm hp fun G1 H1 ρ1 x v s1 e1 so hk hp1 => by
      obtain ⟨d, hd, hm2⟩ := drf_ok hk
      obtain ⟨z, hz, rfl⟩ := optM_ok hm2
      obtain ⟨b, hb, rfl⟩ := map_some' hz
      obtain ⟨u, h1, h2⟩ := isOwn_ty (K := X.K) o hc e1.gh (top_of e1 so hd) hb
      exact ⟨v, .ref C, _, _, b, rfl, .own C, h1, h2, hp1 _ G1 H1 (Same.refl G1) e1 (.bl b)⟩
end
end Z

set_option Elab.async false
set_option linter.all false
set_option maxRecDepth 100000
set_option maxHeartbeats 4000000
/-! ZZ: sorted(set(xs)). -/
namespace Z
open PySem PySem.Spec PyProof.Rows L2
section
variable {α : Type} [DecidableEq α] {lt : α → α → Bool}
def insU (lt : α → α → Bool) (x : α) : List α → List α
  | [] => [x]
  | y :: ys => if x = y then y :: ys else if lt x y = true then x :: y :: ys else y :: insU lt x ys
def srtU (lt : α → α → Bool) : List α → List α
  | [] => []
  | x :: xs => insU lt x (srtU lt xs)
theorem mem_insU {x z : α} : ∀ {ys : List α}, z ∈ insU lt x ys ↔ z = x ∨ z ∈ ys
  | [] => by simp [insU]
  | y :: ys => by
    unfold insU
    by_cases h : x = y
    · subst h
      rw [if_pos rfl]
      simp
    · rw [if_neg h]
      by_cases h2 : lt x y = true
      · rw [if_pos h2]
        simp
      · rw [if_neg h2, List.mem_cons, mem_insU (ys := ys), List.mem_cons]
        constructor
        · rintro (a | a | a)
          · exact .inr (.inl a)
          · exact .inl a
          · exact .inr (.inr a)
        · rintro (a | a | a)
          · exact .inr (.inl a)
          · exact .inl a
          · exact .inr (.inr a)
theorem mem_srtU {z : α} : ∀ {xs : List α}, z ∈ srtU lt xs ↔ z ∈ xs
  | [] => by simp [srtU]
  | x :: xs => by
    unfold srtU
    rw [mem_insU, mem_srtU, List.mem_cons]
theorem insU_sorted (tr : ∀ x y z, lt x y = true → lt y z = true → lt x z = true) {x : α} : ∀ {ys : List α}, (∀ y ∈ ys, x = y ∨ lt x y = true ∨ lt y x = true) → ys.Pairwise (lt · · = true) → (insU lt x ys).Pairwise (lt · · = true)
  | [], _, _ => by simp [insU]
  | y :: ys, ht, hp => by
    obtain ⟨h1, h2⟩ := List.pairwise_cons.mp hp
    unfold insU
    by_cases h : x = y
    · rw [if_pos h]
      exact hp
    · rw [if_neg h]
      by_cases h3 : lt x y = true
      · rw [if_pos h3]
        refine List.pairwise_cons.mpr ⟨fun z hz => ?_, hp⟩
        rcases List.mem_cons.mp hz with rfl | hz
        · exact h3
        · exact tr _ _ _ h3 (h1 z hz)
      · rw [if_neg h3]
        refine List.pairwise_cons.mpr ⟨fun z hz => ?_, insU_sorted tr (fun z hz => ht z (List.mem_cons_of_mem _ hz)) h2⟩
        rcases mem_insU.mp hz with rfl | hz
        · rcases ht y (List.mem_cons_self ..) with q | q | q
          · exact absurd q h
          · exact absurd q h3
          · exact q
        · exact h1 z hz
theorem srtU_sorted (tr : ∀ x y z, lt x y = true → lt y z = true → lt x z = true) : ∀ {xs : List α}, (∀ x ∈ xs, ∀ y ∈ xs, x = y ∨ lt x y = true ∨ lt y x = true) → (srtU lt xs).Pairwise (lt · · = true)
  | [], _ => List.Pairwise.nil
  | x :: xs, h => insU_sorted tr (fun y hy => h x (List.mem_cons_self ..) y (List.mem_cons_of_mem _ (mem_srtU.mp hy))) (srtU_sorted tr fun a ha b hb => h a (List.mem_cons_of_mem _ ha) b (List.mem_cons_of_mem _ hb))
theorem strict_eq (ir : ∀ x, lt x x = false) (tr : ∀ x y z, lt x y = true → lt y z = true → lt x z = true) : ∀ {xs ys : List α}, xs.Pairwise (lt · · = true) → ys.Pairwise (lt · · = true) → (∀ z, z ∈ xs ↔ z ∈ ys) → xs = ys
  | [], [], _, _, _ => rfl
  | [], y :: ys, _, _, h => absurd ((h y).mpr (List.mem_cons_self ..)) (by simp)
  | x :: xs, [], _, _, h => absurd ((h x).mp (List.mem_cons_self ..)) (by simp)
  | x :: xs, y :: ys, hx, hy, h => by
    obtain ⟨x1, x2⟩ := List.pairwise_cons.mp hx
    obtain ⟨y1, y2⟩ := List.pairwise_cons.mp hy
    have no : ∀ a b, lt a b = true → lt b a = true → False := fun a b p q => by
      have := tr _ _ _ p q
      rw [ir] at this
      cases this
    have e : x = y := by
      rcases List.mem_cons.mp ((h x).mp (List.mem_cons_self ..)) with e | m
      · exact e
      · rcases List.mem_cons.mp ((h y).mpr (List.mem_cons_self ..)) with e | m2
        · exact e.symm
        · exact (no _ _ (y1 x m) (x1 y m2)).elim
    subst e
    have irr : ∀ z, lt x z = true → z ≠ x := fun z q e => by
      subst e
      rw [ir] at q
      cases q
    refine congrArg _ (strict_eq ir tr x2 y2 fun z => ⟨fun m => ?_, fun m => ?_⟩)
    · rcases List.mem_cons.mp ((h z).mp (List.mem_cons_of_mem _ m)) with e | m2
      · exact absurd e (irr z (x1 z m))
      · exact m2
    · rcases List.mem_cons.mp ((h z).mpr (List.mem_cons_of_mem _ m)) with e | m2
      · exact absurd e (irr z (y1 z m))
      · exact m2
end
/-! ints -/
def ltI (x y : Int) : Bool := decide (x < y)
theorem ltI_ir (x : Int) : ltI x x = false := by
  unfold ltI
  exact decide_eq_false (Int.lt_irrefl x)
theorem ltI_tr (x y z : Int) (h : ltI x y = true) (k : ltI y z = true) : ltI x z = true := by
  unfold ltI at *
  exact decide_eq_true (Int.lt_trans (of_decide_eq_true h) (of_decide_eq_true k))
theorem ltI_tri (x y : Int) : x = y ∨ ltI x y = true ∨ ltI y x = true := by
  unfold ltI
  rcases Int.lt_trichotomy x y with h | h | h
  · exact .inr (.inl (decide_eq_true h))
  · exact .inl h
  · exact .inr (.inr (decide_eq_true h))
/-! tuples of ints -/
def ltT : List Int → List Int → Bool
  | x :: xs, y :: ys => decide (x < y) || (decide (x = y) && ltT xs ys)
  | _, _ => false
theorem ltT_ir : ∀ x, ltT x x = false
  | [] => rfl
  | x :: xs => by
    unfold ltT
    rw [decide_eq_false (Int.lt_irrefl x), ltT_ir xs]
    simp
theorem ltT_tr : ∀ x y z, ltT x y = true → ltT y z = true → ltT x z = true
  | [], _, _, h, _ => by simp [ltT] at h
  | _ :: _, [], _, h, _ => by simp [ltT] at h
  | _ :: _, _ :: _, [], _, h => by simp [ltT] at h
  | x :: xs, y :: ys, z :: zs, h, k => by
    unfold ltT at *
    rw [Bool.or_eq_true, Bool.and_eq_true, decide_eq_true_iff, decide_eq_true_iff] at *
    rcases h with h | ⟨h, h'⟩
    · rcases k with k | ⟨k, _⟩
      · exact .inl (Int.lt_trans h k)
      · exact .inl (k ▸ h)
    · rcases k with k | ⟨k, k'⟩
      · exact .inl (h ▸ k)
      · exact .inr ⟨h.trans k, ltT_tr xs ys zs h' k'⟩
theorem ltT_tri : ∀ x y, x.length = y.length → x = y ∨ ltT x y = true ∨ ltT y x = true
  | [], [], _ => .inl rfl
  | [], _ :: _, h => by simp at h
  | _ :: _, [], h => by simp at h
  | x :: xs, y :: ys, h => by
    unfold ltT
    rw [Bool.or_eq_true, Bool.and_eq_true, decide_eq_true_iff, decide_eq_true_iff, Bool.or_eq_true, Bool.and_eq_true, decide_eq_true_iff, decide_eq_true_iff]
    rcases Int.lt_trichotomy x y with k | k | k
    · exact .inr (.inl (.inl k))
    · subst k
      rcases ltT_tri xs ys (by simpa using h) with q | q | q
      · exact .inl (by rw [q])
      · exact .inr (.inl (.inr ⟨rfl, q⟩))
      · exact .inr (.inr (.inr ⟨rfl, q⟩))
    · exact .inr (.inr (.inl k))
theorem code_rg {B : Int} : ∀ {xs : List Int}, TS.Bd B xs → 0 ≤ TS.code B xs ∧ TS.code B xs < B ^ xs.length
  | [], _ => by
    show (0 : Int) ≤ 0 ∧ (0 : Int) < B ^ 0
    rw [Int.pow_zero]
    exact ⟨Int.le_refl 0, by decide⟩
  | x :: xs, h => by
    obtain ⟨a, b⟩ := code_rg h.tail
    obtain ⟨c, d⟩ := h.head
    have q := TS.num1 a b c d
    show 0 ≤ x * B ^ xs.length + TS.code B xs ∧ x * B ^ xs.length + TS.code B xs < B ^ (xs.length + 1)
    rw [Int.pow_succ]
    exact q
theorem code_lt {B : Int} : ∀ {xs ys : List Int}, xs.length = ys.length → TS.Bd B xs → TS.Bd B ys → ltT xs ys = true → TS.code B xs < TS.code B ys
  | [], _, _, _, _, h => by simp [ltT] at h
  | _ :: _, [], _, _, _, h => by simp [ltT] at h
  | x :: xs, y :: ys, hl, bx, bY, h => by
    have hl' : xs.length = ys.length := by simpa using hl
    unfold ltT at h
    rw [Bool.or_eq_true, Bool.and_eq_true, decide_eq_true_iff, decide_eq_true_iff] at h
    show x * B ^ xs.length + TS.code B xs < y * B ^ ys.length + TS.code B ys
    rw [hl']
    have rx := code_rg bx.tail
    rw [hl'] at rx
    have ry := code_rg bY.tail
    rcases h with h | ⟨h, h'⟩
    · have pp : 0 ≤ B ^ ys.length := by omega
      have m : (x + 1) * B ^ ys.length ≤ y * B ^ ys.length := Int.mul_le_mul_of_nonneg_right h pp
      rw [Int.add_mul, Int.one_mul] at m
      omega
    · subst h
      have := code_lt hl' bx.tail bY.tail h'
      omega
end Z

set_option Elab.async false
set_option linter.all false
set_option maxRecDepth 100000
set_option maxHeartbeats 4000000
/-! ZZA: sorted(set(xs)), the judgement. -/
namespace Z
open PySem PySem.Spec PyProof.Rows L2
def dTups : List D → Option (List (List Int))
  | [] => some []
  | .tup ds :: r => match dInts ds, dTups r with
    | some ns, some ts => some (ns :: ts)
    | _, _ => none
  | _ => none
theorem ims_tups {A : Amb} {G : Hp} : ∀ {ds : List D} {vs : List V} {ts : List (List Int)}, Ims A G vs ds → dTups ds = some ts → ∃ ks : List (Addr × List Int), vs = (ks.map fun p => V.ref p.1) ∧ ks.map (·.2) = ts ∧ ∀ p ∈ ks, PlT A.K G p.1 (p.2.map V.int)
  | [], _, _, h, e => by
    cases h
    cases e
    exact ⟨[], rfl, rfl, fun p hp => by cases hp⟩
  | d :: ds, _, ts, h, e => by
    cases d with
    | tup es =>
      unfold dTups at e
      cases e1 : dInts es with
      | none =>
        rw [e1] at e
        cases e
      | some ns =>
        cases e2 : dTups ds with
        | none =>
          rw [e1, e2] at e
          cases e
        | some us =>
          rw [e1, e2] at e
          cases e
          cases h with
          | cons h r =>
            cases h with
            | @tup a ws _ h q =>
              obtain ⟨rfl, _⟩ := ims_ints q e1
              obtain ⟨ks, rfl, rfl, k3⟩ := ims_tups r e2
              refine ⟨(a, ns) :: ks, rfl, rfl, fun p hp => ?_⟩
              rcases List.mem_cons.mp hp with rfl | hp
              · exact h
              · exact k3 p hp
    | _ => cases e
theorem bd_ex : ∀ ts : List (List Int), (∀ t ∈ ts, ∀ i ∈ t, 0 ≤ i) → ∃ B : Int, ∀ t ∈ ts, TS.Bd B t := by
  have one : ∀ t : List Int, ∃ B : Int, ∀ i ∈ t, i < B := fun t => by
    induction t with
    | nil => exact ⟨0, fun i hi => by cases hi⟩
    | cons x xs ih =>
      obtain ⟨B, hB⟩ := ih
      refine ⟨max B (x + 1), fun i hi => ?_⟩
      rcases List.mem_cons.mp hi with rfl | hi
      · omega
      · have := hB i hi
        omega
  intro ts h
  induction ts with
  | nil => exact ⟨0, fun i hi => by cases hi⟩
  | cons t ts ih =>
    obtain ⟨B, hB⟩ := ih fun u hu => h u (List.mem_cons_of_mem _ hu)
    obtain ⟨B2, hB2⟩ := one t
    refine ⟨max B B2, fun u hu i hi => ⟨h u hu i hi, ?_⟩⟩
    rcases List.mem_cons.mp hu with rfl | hu
    · have := hB2 i hi
      omega
    · have := (hB u hu i hi).2
      omega
def sameLen (n : Nat) (ts : List (List Int)) : Bool := ts.all fun t => decide (t.length = n) && t.all fun i => decide (0 ≤ i)
/-- what sorted(set(..)) makes of items -/
def fSS (ds : List D) : Option (List D) := if ds.length < 64 then match dInts ds with
  | some ns => some ((srtU ltI ns).map .int)
  | none => match dTups ds with
    | some [] => none
    | some (t :: ts) => if 1 ≤ t.length ∧ sameLen t.length (t :: ts) = true then some ((srtU ltT (t :: ts)).map fun u => .tup (u.map .int)) else none
    | none => none
  else none
def fSSd : D → Option (List D)
  | .lst ds => fSS ds
  | .tup ds => fSS ds
  | _ => none
def eSS (ma : M Rf) : M Rf := bindM ma fun x => bindM (drf (stl x)) fun d => optM ((fSSd d).map .new)
theorem ims_of_tups {A : Amb} {G : Hp} : ∀ ks : List (Addr × List Int), (∀ p ∈ ks, PlT A.K G p.1 (p.2.map V.int)) → Ims A G (ks.map fun p => V.ref p.1) ((ks.map (·.2)).map fun u => D.tup (u.map .int))
  | [], _ => .nil
  | p :: ks, h => .cons (.tup (h p (List.mem_cons_self ..)) (ims_of_ints p.2)) (ims_of_tups ks fun q hq => h q (List.mem_cons_of_mem _ hq))
section
variable {X : Cx} {Y : Yc} {a : Expr} {ma : M Rf} {pos : Pos}
theorem ss_core {F : Fx} {P : List (Nat × Addr)} {σ : L2.St} {G H : Hp} {ρ : E} {v : V} {d : D} {zs : List D} {Q : VK} (e : EnvG (amb X) F P σ G H ρ) (t : Top (amb X) G H v d) (h : fSSd d = some zs)
    (hq : ∀ v' H', EnvG (amb X) F P σ G H' ρ → RfOk (amb X) F σ G H' ρ v' (.new zs) → Q v' H') :
    (rSetI X [v] H fun y H1 => rSortedSet X.w [y] H1 Q ∨ rSortedT X.K X.prog X.w [y] H1 Q) ∨ (rSetP X [v] H fun y H1 => rSortedSet X.w [y] H1 Q ∨ rSortedT X.K X.prog X.w [y] H1 Q) := by
  have hs : ∃ l vs ds, v = .ref l ∧ (SqL X.K H l vs ∨ SqT X.K H l vs) ∧ Ims (amb X) G vs ds ∧ fSS ds = some zs := by
    unfold fSSd at h
    split at h
    · obtain ⟨l, vs, h1, h2, h3⟩ := t.lst e.gh
      exact ⟨l, vs, _, h1, .inl h2, h3, h⟩
    · obtain ⟨l, vs, h1, h2, h3⟩ := t.tup e.gh
      exact ⟨l, vs, _, h1, .inr h2, h3, h⟩
    · cases h
  obtain ⟨l, vs, ds, rfl, sq, im, h⟩ := hs
  have hlen := im.length
  unfold fSS at h
  split at h
  · rename_i h64
    split at h
    · rename_i ns hn
      cases h
      obtain ⟨rfl, rfl⟩ := ims_ints im hn
      rw [List.length_map] at h64
      refine .inl ⟨l, ns, rfl, sq, h64, fun a c na hc => .inl ⟨a, _, c, rfl, upd_same, by omega, fun ms p sp mem _ np => ?_⟩⟩
      have e2 := e.more (same_new (o := SetO X.w a (fun j => decide (j ∈ ns)) c) na)
      have em : ms = srtU ltI ns := strict_eq (lt := ltI) ltI_ir ltI_tr (sp.imp fun q => decide_eq_true q) (srtU_sorted ltI_tr fun x _ y _ => ltI_tri x y) fun z => by
        rw [mem_srtU, mem z, decide_eq_true_iff]
      subst em
      obtain ⟨e3, ro⟩ := e2.newL np (ims_of_ints (A := amb X) (G := G) (srtU ltI ns))
      exact hq _ _ e3 ro
    · split at h
      · cases h
      · rename_i t0 ts ht
        split at h
        · rename_i hk
          cases h
          obtain ⟨k1, k2⟩ := hk
          obtain ⟨ks, rfl, hk2, k3⟩ := ims_tups im ht
          rw [← hlen, List.length_map] at h64
          have all : ∀ p ∈ ks, p.2.length = t0.length ∧ ∀ i ∈ p.2, 0 ≤ i := fun p hp => by
            have m : p.2 ∈ t0 :: ts := by
              rw [← hk2]
              exact List.mem_map_of_mem hp
            have q := List.all_eq_true.mp k2 _ m
            rw [Bool.and_eq_true, decide_eq_true_iff] at q
            exact ⟨q.1, fun i hi => of_decide_eq_true (List.all_eq_true.mp q.2 i hi)⟩
          obtain ⟨B, hB⟩ := bd_ex (t0 :: ts) fun u hu i hi => by
            rw [← hk2] at hu
            obtain ⟨p, hp, rfl⟩ := List.mem_map.mp hu
            exact (all p hp).2 i hi
          have hB' : ∀ p ∈ ks, TS.Bd B p.2 := fun p hp => hB _ (by rw [← hk2]; exact List.mem_map_of_mem hp)
          refine .inr ⟨l, ks, rfl, sq, fun p hp => same_sqT e.gh (k3 p hp).sq, h64, fun a L na sub cov => .inr ⟨a, L, t0.length, B, rfl, upd_same, fun p hp => same_sqT (e.gh.trans (same_new na)) (k3 p (sub p hp)).sq, k1, fun p hp => ⟨(all p (sub p hp)).1, hB' p (sub p hp)⟩, fun L' p pm nd _ sp np => ?_⟩⟩
          have e2 := e.more (same_new (o := SetTO X.prog X.w a L) na)
          have inL : ∀ q ∈ L', q ∈ ks := fun q hq => sub q (pm.mem_iff.mp hq)
          have em : L'.map (·.2) = srtU ltT (t0 :: ts) := strict_eq (lt := ltT) ltT_ir ltT_tr ?_ (srtU_sorted ltT_tr fun x hx y hy => ltT_tri x y ?_) fun z => ?_
          · obtain ⟨e3, ro⟩ := e2.newL np (ims_of_tups (A := amb X) (G := G) L' fun q hq => k3 q (inL q hq))
            rw [em] at ro
            exact hq _ _ e3 ro
          · rw [List.pairwise_map]
            have nd2 := List.pairwise_map.mp nd
            have both := List.Pairwise.and sp nd2
            refine List.Pairwise.imp_of_mem (fun {q r} mq mr z => ?_) both
            obtain ⟨z1, z2⟩ := z
            have aq := all q (inL q mq)
            have ar := all r (inL r mr)
            rcases ltT_tri q.2 r.2 (aq.1.trans ar.1.symm) with w | w | w
            · exact absurd w z2
            · exact w
            · have := code_lt (ar.1.trans aq.1.symm) (hB' r (inL r mr)) (hB' q (inL q mq)) w
              omega
          · rw [← hk2] at hx hy
            obtain ⟨p, hp, rfl⟩ := List.mem_map.mp hx
            obtain ⟨q, hq, rfl⟩ := List.mem_map.mp hy
            exact (all p hp).1.trans (all q hq).1.symm
          · rw [mem_srtU, ← hk2]
            constructor
            · intro hz
              obtain ⟨q, hq, rfl⟩ := List.mem_map.mp hz
              exact List.mem_map_of_mem (inL q hq)
            · intro hz
              obtain ⟨q, hq, rfl⟩ := List.mem_map.mp hz
              exact ((pm.map (·.2)).mem_iff).mpr (cov q hq)
        · cases h
      · cases h
  · cases h
theorem de_ss {p p2 pos2 : Pos} (hc : X.calm = true) (hu : X.A.units + 64 < cLine) (hm : X.mg "sorted" = none) (hms : X.mg "set" = none) (ha : DE X Y a ma) (hg : Gl X "sorted" := by rfl) (hgs : Gl X "set" := by rfl)
    (he : starEach [a] X.env = (false, eval a X.env) :: starEach [] X.env := by rfl) (he2 : starEach [.Call (.Name "set" p2) [a] [] pos2] X.env = (false, eval (.Call (.Name "set" p2) [a] [] pos2) X.env) :: starEach [] X.env := by rfl)
    (hpl : (backTo pos2 (starEach [] X.env)).any (·.1) = false := by rfl) (hpl2 : (backTo pos (starEach [] X.env)).any (·.1) = false := by rfl) :
    DE X Y (.Call (.Name "sorted" p) [.Call (.Name "set" p2) [a] [] pos2] [] pos) (eSS ma) :=
  PE.weak (pe_callB (CallR.or (cr_sortedSet hc) (cr_sortedT hc)) hg hm rfl (pa_cons (pe_callTy (CallR.or (cr_setI hc) (cr_setP hc hu)) hgs hms rfl (pa_cons ha pa_nil he) (by decide) (by decide) he hpl) pa_nil he2) (by decide) (by decide) he2 hpl2) fun σ H Q ⟨F, P, G, ρ, r', er, e, hm, hp⟩ =>
    tE_bind er e hm hp fun G1 H1 ρ1 x v s1 e1 so hk hp1 => by
      obtain ⟨d, hd, hm2⟩ := drf_ok hk
      obtain ⟨z, hz, rfl⟩ := optM_ok hm2
      obtain ⟨zs, hb, rfl⟩ := map_some' hz
      exact ss_core e1 (top_of e1 so hd) hb fun v' H' e2 ro => hp1 v' G1 H' (Same.refl G1) e2 ro
end
end Z

set_option Elab.async false
set_option linter.all false
set_option maxRecDepth 100000
set_option maxHeartbeats 4000000
/-! ZZB: short words for classes. -/
namespace L2
open PySem
theorem Room.units65 {k : Nat} {A : Around} (r : Room k A) : A.units + 65 < cLine := by
  have := r.un
  omega
end L2
namespace Z
open PySem PySem.Spec PyProof.Rows L2
section
variable {K : PySem.W.Frag} {mg : Str → Option Value} {cs : List Str} {c f : Str} {C : Addr}
theorem fld_nil : FldOk K mg [] f := fun c h => by cases h
theorem fld_cons (m : mg c = some (.ref C)) (k : Cls K C) (n : PySem.W.findIn K (.ref C) f = some none) (h : FldOk K mg cs f) : FldOk K mg (c :: cs) f := fun x hx => by
  rcases List.mem_cons.mp hx with rfl | hx
  · exact ⟨C, m, k, n⟩
  · exact h x hx
theorem own_is (c : C8.InsC K C) (h1 : PySem.W.kitOne K (.type "NoneType") (.ref C) = some false) (h2 : PySem.W.kitOne K (.type "bool") (.ref C) = some false) (h3 : PySem.W.kitOne K (.type "int") (.ref C) = some false) (h4 : PySem.W.kitOne K (.type "str") (.ref C) = some false)
    (h5 : PySem.W.kitOne K (.type "list") (.ref C) = some false) (h6 : PySem.W.kitOne K (.type "tuple") (.ref C) = some false) (h7 : PySem.W.kitOne K (.type "dict") (.ref C) = some false) : OwnIs K C := ⟨c, fun n hn => by
  simp only [List.mem_cons, List.not_mem_nil, or_false] at hn
  rcases hn with rfl | rfl | rfl | rfl | rfl | rfl | rfl <;> assumption⟩
end
/-! list(range(n)) -/
def eLRg1 (hi : M Rf) : M Rf := bindM hi fun y => match y with
  | .dat (.int j) => if -(2 ^ 62) ≤ (0 : Int) ∧ (0 : Int) < 2 ^ 62 ∧ -(2 ^ 62) ≤ j ∧ j < 2 ^ 62 ∧ (j - 0).toNat ≤ 2 ^ 24 then pureM (.new (rangeD 0 (j - 0).toNat)) else failM
  | _ => failM
section
variable {X : Cx} {Y : Yc} {a : Expr} {ma : M Rf} {pos : Pos}
theorem lrg1_tail {σ : L2.St} {H : Hp} {Q : VK} (h : tG (amb X) Y (relE (amb X)) (eLRg1 ma) σ H Q) : tLstRg (tRg1 (tG (amb X) Y (relE (amb X)) ma)) σ H Q := by
  obtain ⟨F, P, G, ρ, r', er, e, hm, hp⟩ := h
  refine tG_bind (Re := relE (amb X)) er e hm hp fun G1 H1 ρ1 x v s1 e1 ro hk => ?_
  cases x with
  | dat d =>
    cases d with
    | int j =>
      simp only at hk
      split at hk
      · rename_i c
        cases hk
        cases (show Im (amb X) G1 v (.int j) from ro)
        refine ⟨j, rfl, c, fun p n => ?_⟩
        obtain ⟨e4, ro4⟩ := e1.newL n (ims_rg 0 j)
        exact hp _ G1 _ s1 e4 ro4
      · cases hk
    | _ => cases hk
  | _ => cases hk
theorem de_lrg1 {p p2 pos2 : Pos} (hc : X.calm = true) (hml : X.mg "list" = none) (hm : X.mg "range" = none) (ha : DE X Y a ma) (hgl : Gl X "list" := by rfl) (hg : Gl X "range" := by rfl)
    (na : starEach [a] X.env = (false, eval a X.env) :: starEach [] X.env := by rfl)
    (nl : starEach [.Call (.Name "range" p2) [a] [] pos2] X.env = (false, eval (.Call (.Name "range" p2) [a] [] pos2) X.env) :: starEach [] X.env := by rfl) :
    DE X Y (.Call (.Name "list" p) [.Call (.Name "range" p2) [a] [] pos2] [] pos) (eLRg1 ma) :=
  PE.weak (pe_listRg hc hgl hml (prg_1 hg hm ha na) nl) fun _ _ _ h => lrg1_tail h
end
end Z

set_option Elab.async false
set_option linter.all false
set_option maxRecDepth 100000
set_option maxHeartbeats 4000000
/-! ZZC: big steps, more. -/
namespace Z
open PySem
def TI (ns : List Int) : D := .tup (ns.map .int)
def LI (ns : List Int) : D := .lst (ns.map .int)
theorem szOk {n : Nat} (h : n ≤ 1000) : n ≤ sizeLine := Nat.le_trans h (by decide)
theorem var_ev {i : Nat} {ρ : E} {d : D} (h : ρ[i]? = some (.val d)) : eVar i ρ = some (.ok (.dat d) ρ) := by
  unfold eVar
  rw [h]
theorem rg1_ev {ms : M (List Rf)} {ρ ρ1 : E} {n : Nat} (h : ms ρ = some (.ok [.dat (.int (n : Int))] ρ1)) (hn : n ≤ 1000) : iRg1 ms ρ = some (.ok (rangeD 0 n) ρ1) := by
  refine bind_ev h (bind_ev (v := [.int n]) (ρ1 := ρ1) rfl ?_)
  have e : small62 (n : Int) = true := by
    unfold small62
    simp
    omega
  show optM (if small62 (n : Int) = true then some (rangeD 0 (n : Int).toNat) else none) _ = _
  rw [if_pos e, Int.toNat_natCast]
  rfl
theorem cut_from {xs : List D} {a : Nat} (h : a ≤ xs.length) : cutD xs (some (a : Int)) none = xs.drop a := by
  unfold cutD
  rw [HT.sIx_nat, HT.sIx_none, Nat.min_eq_left h, List.take_of_length_le]
  rw [List.length_drop]
  omega
theorem cut_to {xs : List D} {a : Nat} (h : a ≤ xs.length) : cutD xs none (some (a : Int)) = xs.take a := by
  unfold cutD
  rw [HT.sIx_nat, HT.sIx_none, Nat.min_eq_left h, Nat.sub_zero, List.drop_zero]
theorem atI_nat {α : Type} {xs : List α} {i : Nat} (h : i < xs.length) : L2.atI xs (i : Int) = xs[i]? := by
  unfold L2.atI L2.ixN
  rw [if_pos (by omega), if_pos (by omega)]
  rfl
theorem lm_ev {i : Nat} {f : List D → List D → Option (D × List D)} {ms : M (List Rf)} {ρ ρ1 ρ2 : E} {xs : List Rf} {ds es0 es es' : List D} {p0 p : Bool} {d : D} (h0 : ρ[i]? = some (.cel p0 (.lst es0))) (hm : ms ρ = some (.ok xs ρ1)) (hf : frzs xs ρ1 = some (.ok ds ρ2)) (h2 : ρ2[i]? = some (.cel p (.lst es)))
    (hr : f es ds = some (d, es')) : eLM i f ms ρ = some (.ok (.dat d) (ρ2.set i (.cel p (.lst es')))) := by
  unfold eLM
  rw [h0]
  refine bind_ev hm (bind_ev hf ?_)
  rw [h2]
  show (match f es ds with | some (d, es') => some (R.ok (Rf.dat d) (ρ2.set i (.cel p (.lst es')))) | none => none) = _
  rw [hr]
theorem chainT_ev {f g : D → D → Option D} {a b c : M Rf} {ρ ρ1 ρ2 ρ3 : E} {x y z : Rf} {p q w : D} {d : D} (ha : a ρ = some (.ok x ρ1)) (hb : b ρ1 = some (.ok y ρ2)) (hp : deref ρ2 (stl x) = some p) (hq : deref ρ2 (stl y) = some q) (hf : f p q = some (.bl true)) (hc : c ρ2 = some (.ok z ρ3))
    (hq2 : deref ρ3 (stl y) = some q) (hw : deref ρ3 (stl z) = some w) (hg : g q w = some d) : eChain f g a b c ρ = some (.ok (mk d) ρ3) := by
  refine bind_ev ha (bind_ev hb (bind_ev (v := p) (ρ1 := ρ2) ?_ (bind_ev (v := q) (ρ1 := ρ2) ?_ ?_)))
  · unfold drf
    rw [hp]
  · unfold drf
    rw [hq]
  · rw [hf]
    refine bind_ev hc (bind_ev (v := q) (ρ1 := ρ3) ?_ (bind_ev (v := w) (ρ1 := ρ3) ?_ ?_))
    · unfold drf
      rw [hq2]
    · unfold drf
      rw [hw]
    · rw [hg]
      rfl
theorem fnK_ev {f : Fn} {md : List Bool} {nn m : Nat} {perm : List Nat} {dds : List D} {ms mk_ : M (List Rf)} {ρ ρ1 ρ2 ρ3 ρ4 : E} {xs zs : List Rf} {x : Rf} {d : D} {as : List Ar} {is : List (Option Nat)} {c : Bool} {cs : List Cell} (hm : ms ρ = some (.ok xs ρ1)) (hk : mk_ ρ1 = some (.ok zs ρ2)) (hl : xs.length = nn ∧ zs.length = m)
    (h1 : toArs md (pick perm (xs ++ zs ++ dds.map .dat)) ρ2 = some (as, is, ρ3)) (hf : f as = some (.ret c d cs)) (h2 : putBack is cs ρ3 = some ρ4) (h3 : rfOf c d = some x) (hn : (is.filterMap id).Nodup := by simp) : eFnK f md nn m perm dds ms mk_ ρ = some (.ok x ρ4) := by
  refine bind_ev hm (bind_ev hk ?_)
  show (if xs.length = nn ∧ zs.length = m then _ else _ : M Rf) _ = _
  rw [if_pos hl]
  unfold eFnL
  rw [h1]
  show (if (is.filterMap id).Nodup then _ else _) = _
  rw [if_pos hn, hf]
  show (match putBack is cs ρ3, rfOf c d with | some ρ2, some x => some (R.ok x ρ2) | _, _ => none) = _
  rw [h2, h3]
theorem fnK0_ev {f : Fn} {md : List Bool} {m : Nat} {perm : List Nat} {mk_ : M (List Rf)} {ρ : E} {zs : List Rf} {x : Rf} {d : D} {as : List Ar} {is : List (Option Nat)} {c : Bool} (hk : mk_ ρ = some (.ok zs ρ)) (hl : zs.length = m) (h1 : toArs md (pick perm ([] ++ zs ++ [])) ρ = some (as, is, ρ)) (hf : f as = some (.ret c d [])) (h2 : putBack is [] ρ = some ρ) (h3 : rfOf c d = some x)
    (hn : (is.filterMap id).Nodup := by simp) : eFnK f md 0 m perm [] aNil mk_ ρ = some (.ok x ρ) := fnK_ev (xs := []) rfl hk ⟨rfl, hl⟩ h1 hf h2 h3 hn
theorem atI_mem {α : Type} {xs : List α} {v : Int} (h : 0 ≤ v ∧ v < xs.length) : ∃ d, d ∈ xs ∧ L2.atI xs v = some d := by
  have e : v = (v.toNat : Int) := by omega
  rw [e, atI_nat (by omega)]
  exact ⟨xs[v.toNat]'(by omega), List.getElem_mem _, List.getElem?_eq_getElem (by omega)⟩
theorem ixL_ev {a b : M Rf} {ρ ρ1 ρ2 : E} {x : Rf} {xs : List D} {v : Int} {d : D} (ha : a ρ = some (.ok x ρ1)) (hb : b ρ1 = some (.ok (.dat (.int v)) ρ2)) (hx : deref ρ2 (stl x) = some (.lst xs)) (h : L2.atI xs v = some d) : eIx a b ρ = some (.ok (.dat d) ρ2) := by
  refine bind_ev ha (bind_ev hb (bind_ev (v := D.lst xs) (ρ1 := ρ2) ?_ (bind_ev (v := D.int v) (ρ1 := ρ2) rfl ?_)))
  · unfold drf
    rw [hx]
  · show optM ((L2.atI xs v).map Rf.dat) ρ2 = _
    rw [h]
    rfl
theorem isN_ev {a : M Rf} {ρ ρ1 : E} {b : Bool} (ha : a ρ = some (.ok (.dat (.bl b)) ρ1)) : tst (eOp2 fIsN a (eC (.bl b))) ρ = some (.ok false ρ1) := by
  refine tst_ev (op2_ev (d := .bl false) ha rfl rfl rfl ?_)
  show some (D.bl (!decide (b = b))) = _
  simp
theorem str_ev {a : M Rf} {ρ ρ1 : E} {x : Rf} {d : D} {s : Str} (ha : a ρ = some (.ok x ρ1)) (hx : deref ρ1 (stl x) = some d) (h : fStr [d] = some (.str s)) : eCall fStr (aCons a aNil) ρ = some (.ok (.dat (.str s)) ρ1) := by
  refine call_ev (xs := [stl x]) (ds := [d]) (d := .str s) (cons_ev ha rfl) ?_ h
  unfold derefs
  rw [hx]
  rfl
theorem lst_ev {ms : M (List Rf)} {ρ ρ1 ρ2 : E} {xs : List Rf} {ds : List D} (hm : ms ρ = some (.ok xs ρ1)) (hf : frzs xs ρ1 = some (.ok ds ρ2)) (hz : ds.length ≤ 1000 := by simp) : eLst ms ρ = some (.ok (.new ds) ρ2) := by
  refine bind_ev hm (bind_ev hf ?_)
  show (if ds.length ≤ sizeLine then _ else _ : M Rf) _ = _
  rw [if_pos (szOk hz)]
  rfl
theorem ne_ev {a b : M Rf} {ρ ρ1 ρ2 : E} {x y : Rf} {p q : D} (ha : a ρ = some (.ok x ρ1)) (hb : b ρ1 = some (.ok y ρ2)) (hp : deref ρ2 (stl x) = some p) (hq : deref ρ2 (stl y) = some q) (h : eqD p q = some true) : tst (eOp2 fNe a b) ρ = some (.ok false ρ2) := by
  refine tst_ev (op2_ev (d := .bl false) ha hb hp hq ?_)
  show (eqD p q).map _ = _
  rw [h]
  rfl
theorem log_lt {i : Int} (h1 : -(2 ^ 64) < i) (h2 : i < 2 ^ 64) : i.natAbs.log2 ≤ 64 := by
  by_cases h : i.natAbs = 0
  · rw [h]
    decide
  · have : i.natAbs.log2 < 65 := (Nat.log2_lt h).mpr (by omega)
    omega
abbrev Sm (i : Int) : Prop := -(2 ^ 64) < i ∧ i < 2 ^ 64
theorem mul_ev {a b : M Rf} {ρ : E} {i j : Int} (ha : a ρ = some (.ok (.dat (.int i)) ρ)) (hb : b ρ = some (.ok (.dat (.int j)) ρ)) (hi : Sm i) (hj : Sm j) : eOp2 (fI kMul) a b ρ = some (.ok (.dat (.int (i * j))) ρ) := by
  refine op2_ev (d := .int (i * j)) ha hb rfl rfl ?_
  show kMul i j = _
  unfold kMul
  rw [if_pos]
  have := log_lt hi.1 hi.2
  have := log_lt hj.1 hj.2
  omega
theorem add_ev {a b : M Rf} {ρ : E} {i j : Int} (ha : a ρ = some (.ok (.dat (.int i)) ρ)) (hb : b ρ = some (.ok (.dat (.int j)) ρ)) : eOp2 fAdd a b ρ = some (.ok (.dat (.int (i + j))) ρ) := op2_ev (d := .int (i + j)) ha hb rfl rfl rfl
theorem mod_ev {a b : M Rf} {ρ : E} {i j : Int} (ha : a ρ = some (.ok (.dat (.int i)) ρ)) (hb : b ρ = some (.ok (.dat (.int j)) ρ)) (hj : 0 < j) : eOp2 (fI kMod) a b ρ = some (.ok (.dat (.int (i % j))) ρ) := by
  refine op2_ev (d := .int (i % j)) ha hb rfl rfl ?_
  show kMod i j = _
  unfold kMod
  rw [if_pos hj]
theorem div_ev {a b : M Rf} {ρ : E} {i j : Int} (ha : a ρ = some (.ok (.dat (.int i)) ρ)) (hb : b ρ = some (.ok (.dat (.int j)) ρ)) (hj : 0 < j) (hs : Sm j) : eOp2 (fI kDiv) a b ρ = some (.ok (.dat (.int (i / j))) ρ) := by
  refine op2_ev (d := .int (i / j)) ha hb rfl rfl ?_
  show kDiv i j = _
  unfold kDiv
  rw [if_pos]
  have := log_lt hs.1 hs.2
  omega
theorem int_ev {a : M Rf} {ρ ρ1 : E} {i : Int} (ha : a ρ = some (.ok (.dat (.int i)) ρ1)) : eCall fInt (aCons a aNil) ρ = some (.ok (.dat (.int i)) ρ1) := call_ev (xs := [.dat (.int i)]) (ds := [.int i]) (d := .int i) (cons_ev ha rfl) rfl rfl
theorem lift_ev {α : Type} {m : M α} {k : α → S} {ρ ρ1 : E} {a : α} {r : Option O} (h : m ρ = some (.ok a ρ1)) (hk : k a ρ1 = r) : liftS m k ρ = r := by
  rw [liftS_ok h]
  exact hk
theorem sub_ev {me mi : M Rf} {ρ ρ1 : E} {i k : Nat} {p : Bool} {ds : List D} {d : D} (he : me ρ = some (.ok (.dat d) ρ1)) (hi : ρ1[i]? = some (.cel p (.lst ds))) (hk : mi ρ1 = some (.ok (.dat (.int (k : Int))) ρ1)) (hl : k < ds.length) : sSub me (eVar i) mi ρ = some (.nx (ρ1.set i (.cel p (.lst (ds.set k d))))) := by
  unfold sSub
  refine lift_ev he (lift_ev (a := d) (ρ1 := ρ1) rfl (lift_ev (a := .cel i) (ρ1 := ρ1) ?_ (lift_ev hk (lift_ev (a := D.int (k : Int)) (ρ1 := ρ1) rfl ?_))))
  · unfold eVar
    rw [hi]
  · show (match ρ1[i]? with
      | some (.cel p (.lst ds)) => match L2.ixN ds.length (k : Int) with
        | some q => some (O.nx (ρ1.set i (.cel p (.lst (ds.set q d)))))
        | none => none
      | _ => none) = _
    rw [hi]
    show (match L2.ixN ds.length (k : Int) with | some q => some (O.nx (ρ1.set i (.cel p (.lst (ds.set q d))))) | none => none) = _
    have e : L2.ixN ds.length (k : Int) = some k := by
      unfold L2.ixN
      rw [if_pos (by omega), if_pos (by omega)]
      rfl
    rw [e]
theorem gt0 {a : M Rf} {ρ : E} {i : Int} {c : Bool} (h : decide (0 < i) = c) (ha : a ρ = some (.ok (.dat (.int i)) ρ)) : tst (eOp2 (fI kGt) a (eC (.int 0))) ρ = some (.ok c ρ) := by
  refine tst_ev (op2_ev (d := .bl c) ha rfl rfl rfl ?_)
  show some (D.bl _) = _
  rw [h]
def good : Option D → Bool
  | some (.str s) => SeqAt.shaped (.str s)
  | _ => false
theorem good_ev {o : Option D} (h : good o = true) : ∃ s, o = some (.str s) ∧ eqD (.str s) (.str s) = some true := by
  unfold good at h
  split at h
  · rename_i s
    refine ⟨s, rfl, ?_⟩
    unfold eqD
    simp only [D.py]
    rw [if_pos ⟨h, h⟩]
    simp only [PyData.eqv, beq_self_eq_true]
  · cases h
theorem map_erase {α β : Type} (f : α → β) : ∀ (xs : List α) (k : Nat), (xs.map f).eraseIdx k = (xs.eraseIdx k).map f
  | [], _ => rfl
  | x :: xs, 0 => rfl
  | x :: xs, k + 1 => by
    rw [List.map_cons, List.eraseIdx_cons_succ, List.eraseIdx_cons_succ, List.map_cons, map_erase f xs k]
end Z

set_option Elab.async false
set_option linter.all false
set_option maxRecDepth 100000
set_option maxHeartbeats 4000000
/-! ZZD: big steps, lists. -/
namespace Z
open PySem
theorem fAdd_l {xs ys : List D} (h : xs.length + ys.length ≤ 1000) : fAdd (.lst xs) (.lst ys) = some (.lst (xs ++ ys)) := by
  have z : (1000 : Nat) < sizeLine := by decide
  show orD none (orD (if _ then some _ else none) _) = _
  rw [if_pos (by omega)]
  rfl
theorem cat_ev {a b : M Rf} {ρ ρ1 ρ2 : E} {x y : Rf} {xs ys : List D} (ha : a ρ = some (.ok x ρ1)) (hb : b ρ1 = some (.ok y ρ2)) (hp : deref ρ2 (stl x) = some (.lst xs)) (hq : deref ρ2 (stl y) = some (.lst ys)) (h : xs.length + ys.length ≤ 1000) : eOp2 fAdd a b ρ = some (.ok (.new (xs ++ ys)) ρ2) :=
  op2_ev (d := .lst (xs ++ ys)) ha hb hp hq (fAdd_l h)
theorem cel_ev {ρ : E} {f : Nat} {p : Bool} {c : Cell} (h : ρ[f]? = some (.cel p c)) : eVar f ρ = some (.ok (.cel f) ρ) := by
  unfold eVar
  rw [h]
theorem cel_dr {ρ : E} {f : Nat} {p : Bool} {xs : List D} (h : ρ[f]? = some (.cel p (.lst xs))) : deref ρ (.cel f) = some (.lst xs) := by
  unfold deref
  simp only
  rw [h]
theorem cutTo_ev {ρ : E} {f a k : Nat} {p : Bool} {xs : List D} (hf : ρ[f]? = some (.cel p (.lst xs))) (ha : ρ[a]? = some (.val (.int (k : Int)))) (hk : k ≤ xs.length) : eCut (eVar f) oNone (oSome (eVar a)) ρ = some (.ok (.new (xs.take k)) ρ) := by
  have fr : drf (stl (.cel f)) ρ = some (.ok (.lst xs) ρ) := by
    show drf (.cel f) ρ = _
    unfold drf
    rw [cel_dr hf]
  refine bind_ev (cel_ev hf) (bind_ev (v := none) (ρ1 := ρ) rfl (bind_ev (v := some (k : Int)) (ρ1 := ρ) (bind_ev (var_ev ha) rfl) (bind_ev fr ?_)))
  show optM (some (mk (D.lst (cutD xs none (some (k : Int)))))) _ = _
  rw [cut_to hk]
  rfl
theorem cutFrom_ev {ρ : E} {f a k : Nat} {p : Bool} {xs : List D} (hf : ρ[f]? = some (.cel p (.lst xs))) (ha : ρ[a]? = some (.val (.int (k : Int)))) (hk : k ≤ xs.length) : eCut (eVar f) (oSome (eVar a)) oNone ρ = some (.ok (.new (xs.drop k)) ρ) := by
  have fr : drf (stl (.cel f)) ρ = some (.ok (.lst xs) ρ) := by
    show drf (.cel f) ρ = _
    unfold drf
    rw [cel_dr hf]
  refine bind_ev (cel_ev hf) (bind_ev (v := some (k : Int)) (ρ1 := ρ) (bind_ev (var_ev ha) rfl) (bind_ev (v := none) (ρ1 := ρ) rfl (bind_ev fr ?_)))
  show optM (some (mk (D.lst (cutD xs (some (k : Int)) none)))) _ = _
  rw [cut_from hk]
  rfl
theorem atI_getD {xs : List D} {v : Int} (h : 0 ≤ v ∧ v < xs.length) : L2.atI xs v = some (xs.getD v.toNat .non) := by
  have e : v = (v.toNat : Int) := by omega
  rw [e, atI_nat (by omega), Int.toNat_natCast, List.getD_eq_getElem?_getD, List.getElem?_eq_getElem (by omega)]
  rfl
theorem getD_mem {xs : List D} {i : Nat} (h : i < xs.length) : xs.getD i .non ∈ xs := by
  rw [List.getD_eq_getElem?_getD, List.getElem?_eq_getElem h]
  exact List.getElem_mem h
end Z

set_option Elab.async false
set_option linter.all false
set_option maxRecDepth 100000
set_option maxHeartbeats 4000000
/-! ZZE: a, b = x, y; a, b = a list; tuple * n. -/
namespace Z
open PySem PySem.Spec PyProof.Rows L2
/-- the frame while a new list at l is held aside -/
abbrev Fx.aside (F : Fx) (l : Addr) (vs : List V) (G : Hp) : Fx := ⟨upd F.H l (.lst vs), G, F.C.filter (fun a => !decide (a = l)), F.er⟩
section
variable {A : Amb} {F : Fx} {P : List (Nat × Addr)} {σ : L2.St} {G G2 H H2 : Hp} {ρ ρ' : E} {l : Addr} {vs : List V}
theorem mem_aside {C : List Addr} {a l : Addr} : a ∈ C.filter (fun a => !decide (a = l)) ↔ a ∈ C ∧ a ≠ l := by
  rw [List.mem_filter]
  simp
theorem EnvG.aside (e : EnvG A F P σ G H ρ) (h1 : H l = some (.lst vs)) (h2 : G l = none) (h3 : F.H l = none) (h5 : ∀ (j : Nat) p c, ρ[j]? = some (.cel p c) → σ[j]? ≠ some (some (.ref l))) : EnvG A (F.aside l vs G) P σ G H ρ where
  fr := fun a o hc q => by
    by_cases h : a = l
    · subst h
      have q : upd F.H a (.lst vs) a = some o := q
      rw [upd_same] at q
      rw [h1]
      exact q
    · have q : upd F.H l (.lst vs) a = some o := q
      rw [upd_ne h] at q
      exact e.fr a o (fun m => hc (mem_aside.mpr ⟨m, h⟩)) q
  gg := Same.refl G
  gh := e.gh
  gn := fun a o q => .inl q
  ca := fun a hc => e.ca a (mem_aside.mp hc).1
  len := e.len
  val := e.val
  cel := fun i p c q => by
    obtain ⟨m, k1, k2, k3, k4⟩ := e.cel i p c q
    have ne : m ≠ l := fun z => h5 i p c q (z ▸ k1)
    refine ⟨m, k1, k2, k3, ?_⟩
    cases p with
    | true => exact mem_aside.mpr ⟨k4, ne⟩
    | false =>
      show upd F.H l (.lst vs) m = none
      rw [upd_ne ne]
      exact k4
  ap := e.ap
  pin := e.pin
  err := e.err
theorem EnvG.back (e : EnvG A (F.aside l vs G) P σ G2 H2 ρ) (h3 : F.H l = none) (sg : Same F.G G) (gn : ∀ a o, G a = some o → F.G a = some o ∨ F.H a = none) : EnvG A F P σ G2 H2 ρ where
  fr := fun a o hc q => by
    have ne : a ≠ l := fun z => by
      rw [z, h3] at q
      cases q
    exact e.fr a o (fun m => hc (mem_aside.mp m).1) (by show upd F.H l (.lst vs) a = some o; rw [upd_ne ne]; exact q)
  gg := sg.trans e.gg
  gh := e.gh
  gn := fun a o q => by
    rcases e.gn a o q with z | z
    · exact gn a o z
    · refine .inr ?_
      have z : upd F.H l (.lst vs) a = none := z
      by_cases h : a = l
      · rw [h, upd_same] at z
        cases z
      · rw [upd_ne h] at z
        exact z
  ca := fun a hc => by
    by_cases h : a = l
    · rw [h, e.fr l (.lst vs) (fun m => (mem_aside.mp m).2 rfl) upd_same]
      simp
    · exact e.ca a (mem_aside.mpr ⟨hc, h⟩)
  len := e.len
  val := e.val
  cel := fun i p c q => by
    obtain ⟨m, k1, k2, k3, k4⟩ := e.cel i p c q
    refine ⟨m, k1, k2, k3, ?_⟩
    cases p with
    | true => exact (mem_aside.mp k4).1
    | false =>
      have k4 : upd F.H l (.lst vs) m = none := k4
      show F.H m = none
      by_cases h : m = l
      · rw [h]
        exact h3
      · rw [upd_ne h] at k4
        exact k4
  ap := e.ap
  pin := e.pin
  err := e.err
theorem EnvG.asideAt (e : EnvG A (F.aside l vs G) P σ G2 H2 ρ) : H2 l = some (.lst vs) := e.fr l _ (fun m => (mem_aside.mp m).2 rfl) upd_same
theorem EnvG.asideG (e : EnvG A (F.aside l vs G) P σ G2 H2 ρ) (g : G l = none) : G2 l = none := by
  cases q : G2 l with
  | none => rfl
  | some o =>
    rcases e.gn l o q with z | z
    · have z : G l = some o := z
      rw [g] at z
      cases z
    · have z : upd F.H l (.lst vs) l = none := z
      rw [upd_same] at z
      cases z
theorem EnvG.asideCel (e : EnvG A (F.aside l vs G) P σ G2 H2 ρ) {i : Nat} {p : Bool} {c : Cell} (h : ρ[i]? = some (.cel p c)) : σ[i]? ≠ some (some (.ref l)) := fun z => by
  obtain ⟨m, h1, h2, h3, h4⟩ := e.cel i p c h
  rw [z] at h1
  cases h1
  cases p with
  | true => exact (mem_aside.mp h4).2 rfl
  | false =>
    have h4 : upd F.H l (.lst vs) l = none := h4
    rw [upd_same] at h4
    cases h4
end
def newA : List V → List Rf → List Addr
  | .ref a :: vs, .new _ :: xs => a :: newA vs xs
  | _ :: vs, _ :: xs => newA vs xs
  | _, _ => []
/-- values of which new lists are ours: each its own -/
inductive Held (A : Amb) (F : Fx) (σ : L2.St) (G H : Hp) (ρ : E) : List V → List Rf → Prop
  | nil : Held A F σ G H ρ [] []
  | dat {v : V} {d : D} {vs : List V} {xs : List Rf} : Im A G v d → Held A F σ G H ρ vs xs → Held A F σ G H ρ (v :: vs) (.dat d :: xs)
  | new {l : Addr} {us : List V} {ds : List D} {vs : List V} {xs : List Rf} : H l = some (.lst us) → G l = none → F.H l = none → Ims A G us ds → (∀ (j : Nat) p c, ρ[j]? = some (.cel p c) → σ[j]? ≠ some (some (.ref l))) →
      l ∉ newA vs xs → Held A F σ G H ρ vs xs → Held A F σ G H ρ (.ref l :: vs) (.new ds :: xs)
abbrev relH (A : Amb) : Rel (List Rf) (List V) := fun F σ G H ρ vs xs => Held A F σ G H ρ vs xs
def DP (X : Cx) (Y : Yc) (es : List Expr) (m : M (List Rf)) : Prop := PA X es (tG (amb X) Y (relH (amb X)) m)
section
variable {A : Amb} {F : Fx} {σ : L2.St} {G1 G3 H3 : Hp} {ρ3 : E} {l : Addr} {us : List V}
theorem Held.notin {vs : List V} {xs : List Rf} (hh : Held A (F.aside l us G1) σ G3 H3 ρ3 vs xs) : l ∉ newA vs xs := by
  induction hh with
  | nil => simp [newA]
  | @dat v d vs xs im _ ih =>
    have z : newA (v :: vs) (.dat d :: xs) = newA vs xs := by cases v <;> rfl
    rw [z]
    exact ih
  | @new m us' ds' vs xs k1 k2 k3 k4 k5 k6 k7 ih =>
    intro z
    rcases List.mem_cons.mp (show l ∈ m :: newA vs xs from z) with z | z
    · subst z
      have k3 : upd F.H l (.lst us) l = none := k3
      rw [upd_same] at k3
      cases k3
    · exact ih z
theorem Held.back {vs : List V} {xs : List Rf} (h3 : F.H l = none) (hh : Held A (F.aside l us G1) σ G3 H3 ρ3 vs xs) : Held A F σ G3 H3 ρ3 vs xs := by
  induction hh with
  | nil => exact .nil
  | dat im _ ih => exact .dat im ih
  | @new m us' ds' vs xs k1 k2 k3 k4 k5 k6 k7 ih =>
    refine .new k1 k2 ?_ k4 k5 k6 ih
    have k3 : upd F.H l (.lst us) m = none := k3
    show F.H m = none
    by_cases h : m = l
    · rw [h]
      exact h3
    · rw [upd_ne h] at k3
      exact k3
end
/-- a slot's list is a datum from here on -/
def stk (x : Rf) : M Rf := match x with
  | .new ds => pureM (.new ds)
  | x => bindM (frz x) fun d => pureM (.dat d)
def pNil : M (List Rf) := pureM []
def pCons (a : M Rf) (r : M (List Rf)) : M (List Rf) := bindM a fun x => bindM (stk x) fun x => bindM r fun xs => pureM (x :: xs)
section
variable {X : Cx} {Y : Yc} {a : Expr} {es : List Expr} {ma : M Rf} {ms : M (List Rf)}
theorem dp_nil : DP X Y [] pNil := PA.weak pa_nil fun σ H Q ⟨F, P, G, ρ, r, er, e, hm, hp⟩ => by
  cases hm
  exact hp [] G H (Same.refl G) e .nil
theorem dp_cons (ha : DE X Y a ma) (hr : DP X Y es ms) (hs : starEach (a :: es) X.env = (false, eval a X.env) :: starEach es X.env := by rfl) : DP X Y (a :: es) (pCons ma ms) :=
  PA.weak (pa_cons ha hr hs) fun σ H Q ⟨F, P, G, ρ, r, er, e, hm, hp⟩ => tG_bind er e hm hp fun G1 H1 ρ1 x v s1 e1 ro1 hm1 => by
    have key : ∀ (x' : Rf) (ρ2 : E) (G2 : Hp), Same G G2 → EnvG (amb X) F P σ G2 H1 ρ2 → (bindM ms fun xs => pureM (x' :: xs)) ρ2 = some r → (∃ d, x' = .dat d ∧ Im (amb X) G2 v d) → tG (amb X) Y (relH (amb X)) ms σ H1 fun vs H' => Q (v :: vs) H' := fun x' ρ2 G2 s2 e2 hm2 ⟨d, ex, im⟩ => by
      subst ex
      exact tG_bind (Re := relH (amb X)) er e2 hm2 (hp.mono s2) fun G3 H3 ρ3 xs vs s3 e3 hh hm3 => by
        cases hm3
        exact hp (v :: vs) G3 H3 (s2.trans s3) e3 (.dat (im.mono s3) hh)
    cases x with
    | dat d => exact key (.dat d) ρ1 G1 s1 e1 hm1 ⟨d, rfl, ro1⟩
    | cel i =>
      have hm1 : bindM (bindM (frz (.cel i)) fun d => pureM (.dat d)) (fun x => bindM ms fun xs => pureM (x :: xs)) ρ1 = some r := hm1
      cases q : frz (.cel i) ρ1 with
      | none =>
        rw [bindM_none (bindM_none q)] at hm1
        cases hm1
      | some r1 =>
        obtain ⟨d, ρ2, G2, rfl, s2, e2, im⟩ := frz_ok e1 (show SOk (amb X) σ G1 v (.cel i) from ro1) q
        rw [bindM_ok (a := .dat d) (ρ' := ρ2) (by rw [bindM_ok q]; rfl)] at hm1
        exact key (.dat d) ρ2 G2 (s1.trans s2) e2 hm1 ⟨d, rfl, im⟩
    | new ds =>
      obtain ⟨l, us, rfl, h1, h2, h3, h4, h5⟩ := ro1
      have e2 := e1.aside h1 h2 h3 h5
      have sg : Same F.G G1 := e1.gg
      have gn : ∀ a o, G1 a = some o → F.G a = some o ∨ F.H a = none := e1.gn
      have hm1 : (bindM ms fun xs => pureM (.new ds :: xs)) ρ1 = some r := hm1
      have hp' : Post (amb X) Y (relH (amb X)) F P σ Q G1 r := hp.mono s1
      cases q : ms ρ1 with
      | none =>
        rw [bindM_none q] at hm1
        cases hm1
      | some r2 =>
        cases r2 with
        | ok xs ρ3 =>
          rw [bindM_ok q] at hm1
          cases hm1
          refine ⟨F.aside l us G1, P, G1, ρ1, .ok xs ρ3, er, e2, q, fun vs G3 H3 s3 e3 hh => ?_⟩
          have hh : Held (amb X) (F.aside l us G1) σ G3 H3 ρ3 vs xs := hh
          exact hp' (.ref l :: vs) G3 H3 s3 (e3.back h3 sg gn) (.new e3.asideAt (e3.asideG h2) h3 (h4.mono s3) (fun j p c z => e3.asideCel z) hh.notin (hh.back h3))
        | ex x ρ3 =>
          rw [bindM_ex q] at hm1
          cases hm1
          exact ⟨F.aside l us G1, P, G1, ρ1, .ex x ρ3, er, e2, q, fun cls d G3 H3 s3 e3 hx => hp' cls d G3 H3 s3 (e3.back h3 sg gn) hx⟩
end
/-- what is held comes to slots -/
def putH (i : Nat) (x : Rf) (ρ : E) : Option E := if okSlot ρ i = true then (match x with
  | .dat d => some (ρ.set i (.val d))
  | .new ds => some (ρ.set i (.cel false (.lst ds)))
  | .cel _ => none) else none
def putHs : List Nat → List Rf → E → Option E
  | [], [], ρ => some ρ
  | i :: is, x :: xs, ρ => match putH i x ρ with
    | some ρ' => putHs is xs ρ'
    | none => none
  | _, _, _ => none
def setAll : List Nat → List V → L2.St → L2.St
  | i :: is, v :: vs, σ => setAll is vs (σ.set i (some v))
  | _, _, σ => σ
theorem putHs_ok {A : Amb} {F : Fx} {P : List (Nat × Addr)} {G H : Hp} : ∀ {vs : List V} {xs : List Rf} {is : List Nat} {σ : L2.St} {ρ ρ' : E}, EnvG A F P σ G H ρ → Held A F σ G H ρ vs xs → putHs is xs ρ = some ρ' → EnvG A F P (setAll is vs σ) G H ρ'
  | [], [], [], σ, ρ, ρ', e, _, hm => by
    cases hm
    exact e
  | v :: vs, x :: xs, i :: is, σ, ρ, ρ', e, h, hm => by
    unfold putHs at hm
    unfold putH at hm
    by_cases hk : okSlot ρ i = true
    · rw [if_pos hk] at hm
      have hP := okSlot_pin e hk
      have old : ∀ {s : Sl} {j : Nat} {p : Bool} {c : Cell}, (ρ.set i s)[j]? = some (.cel p c) → (j = i ∧ s = .cel p c) ∨ (j ≠ i ∧ ρ[j]? = some (.cel p c)) := fun {s j p c} z => by
        by_cases hj : i = j
        · subst hj
          rw [List.getElem?_set] at z
          by_cases hl : i < ρ.length
          · rw [if_pos rfl, if_pos hl] at z
            cases z
            exact .inl ⟨rfl, rfl⟩
          · rw [if_pos rfl, if_neg hl] at z
            cases z
        · rw [List.getElem?_set_ne hj] at z
          exact .inr ⟨fun q => hj q.symm, z⟩
      cases h with
      | @dat _ d _ _ im hr =>
        show EnvG A F P (setAll is vs (σ.set i (some v))) G H ρ'
        refine putHs_ok (e.setVal hP im) ?_ hm
        have go : ∀ {vs : List V} {xs : List Rf}, Held A F σ G H ρ vs xs → Held A F (σ.set i (some v)) G H (ρ.set i (.val d)) vs xs := by
          intro vs xs h
          induction h with
          | nil => exact .nil
          | dat im _ ih => exact .dat im ih
          | @new m us' ds' vs xs k1 k2 k3 k4 k5 k6 k7 ih =>
            refine .new k1 k2 k3 k4 (fun j p c z => ?_) k6 ih
            rcases old z with ⟨_, z⟩ | ⟨ne, z⟩
            · cases z
            · rw [List.getElem?_set_ne (fun q => ne q.symm)]
              exact k5 j p c z
        exact go hr
      | @new l us ds _ _ k1 k2 k3 k4 k5 k6 hr =>
        show EnvG A F P (setAll is vs (σ.set i (some (.ref l)))) G H ρ'
        refine putHs_ok (e.setCel hP (c := .lst ds) ⟨us, k1, k4⟩ k2 k3 k5) ?_ hm
        have go : ∀ {vs : List V} {xs : List Rf}, l ∉ newA vs xs → Held A F σ G H ρ vs xs → Held A F (σ.set i (some (.ref l))) G H (ρ.set i (.cel false (.lst ds))) vs xs := by
          intro vs xs n h
          induction h with
          | nil => exact .nil
          | @dat v d vs xs im _ ih =>
            have z : newA (v :: vs) (.dat d :: xs) = newA vs xs := by cases v <;> rfl
            rw [z] at n
            exact .dat im (ih n)
          | @new m us' ds' vs xs q1 q2 q3 q4 q5 q6 q7 ih =>
            have n : l ∉ m :: newA vs xs := n
            have ne' : m ≠ l := fun z => n (by rw [z]; exact List.mem_cons_self ..)
            refine .new q1 q2 q3 q4 (fun j p c z => ?_) q6 (ih fun z => n (List.mem_cons_of_mem _ z))
            rcases old z with ⟨ej, z⟩ | ⟨ne, z⟩
            · subst ej
              rw [List.getElem?_set]
              split
              · split
                · intro q
                  cases q
                  exact ne' rfl
                · simp
              · rename_i w
                exact absurd rfl w
            · rw [List.getElem?_set_ne (fun q => ne q.symm)]
              exact q5 j p c z
        exact go k6 hr
    · rw [if_neg hk] at hm
      cases hm
  | [], [], _ :: _, _, _, _, _, _, hm => by cases hm
  | _ :: _, [], _, _, _, _, _, h, _ => by cases h
  | [], _ :: _, _, _, _, _, _, h, _ => by cases h
  | _ :: _, _ :: _, [], _, _, _, _, _, hm => by cases hm
/-- a, b = x, y -/
def sPar (is : List Nat) (ms : M (List Rf)) : S := liftS ms fun xs ρ => match putHs is xs ρ with
  | some ρ' => some (.nx ρ')
  | none => none
theorem par_tail {A : Amb} {Y : Yc} {is : List Nat} {ms : M (List Rf)} {D : Ends} {σ : L2.St} {H : Hp} (h : tS A Y (sPar is ms) D σ H) : tG A Y (relH A) ms σ H fun vs H1 => vs.length = is.length ∧ D.nx (setAll is vs σ) H1 := by
  obtain ⟨F, P, G, ρ, o, er, e, hm, hp⟩ := h
  refine tS_bind (Re := relH A) er e hm hp fun G1 H1 ρ1 xs vs s1 e1 hh hm1 => ?_
  have hh : Held A F σ G1 H1 ρ1 vs xs := hh
  cases q : putHs is xs ρ1 with
  | none =>
    rw [q] at hm1
    cases hm1
  | some ρ' =>
    rw [q] at hm1
    cases hm1
    have len : ∀ {vs : List V} {xs : List Rf} {is : List Nat} {ρ : E}, Held A F σ G1 H1 ρ1 vs xs → putHs is xs ρ = some ρ' → vs.length = is.length := by
      intro vs xs is ρ h
      induction h generalizing is ρ with
      | nil =>
        intro z
        cases is with
        | nil => rfl
        | cons i is => cases z
      | dat _ _ ih =>
        intro z
        cases is with
        | nil => cases z
        | cons i is =>
          unfold putHs at z
          split at z
          · exact congrArg Nat.succ (ih z)
          · cases z
      | new _ _ _ _ _ _ _ ih =>
        intro z
        cases is with
        | nil => cases z
        | cons i is =>
          unfold putHs at z
          split at z
          · exact congrArg Nat.succ (ih z)
          · cases z
    exact ⟨len hh q, hp _ _ _ (putHs_ok e1 hh q)⟩
section
variable {X : Cx} {Y : Yc} {a b c : Expr} {ms : M (List Rf)} {x y z : Str} {px py pz pt pos : Pos} {kt k2 : _} {pt2 : Pos}
theorem ds_par2 (i j : Nat) (hc : X.calm = true) (hN : X.N.Nodup) (ha : DP X Y [a, b] ms) (hi : X.N[i]? = some x := by rfl) (hj : X.N[j]? = some y := by rfl) (hij : i ≠ j := by decide)
    (hx : X.env.scope.names.lookup x = some .local := by rfl) (hy : X.env.scope.names.lookup y = some .local := by rfl)
    (hw : swappedStores [.Tuple [.Name x px, .Name y py] kt pt] (.Tuple [a, b] k2 pt2) X.env = pure (some [x, y]) := by rfl)
    (hs : swapsWithSole [.Tuple [.Name x px, .Name y py] kt pt] (.Tuple [a, b] k2 pt2) pos.line X.env = pure false := by rfl) :
    DS X Y (.Assign [.Tuple [.Name x px, .Name y py] kt pt] (.Tuple [a, b] k2 pt2) pos) (sPar [i, j] ms) :=
  PS.weak (ps_par hc hN hi hj hij hx hy ha hw hs) fun D σ H h => by
    obtain ⟨F, P, G, ρ, r, er, e, hm, hp⟩ := par_tail h
    refine ⟨F, P, G, ρ, r, er, e, hm, ?_⟩
    cases r with
    | ok xs ρ' =>
      intro vs G' H' s e' hh
      obtain ⟨l, n⟩ := hp vs G' H' s e' hh
      match vs, l with
      | [v, w], _ => exact ⟨v, w, rfl, n⟩
    | ex x ρ' => exact hp
theorem ds_par3 (i j l : Nat) (hc : X.calm = true) (hN : X.N.Nodup) (ha : DP X Y [a, b, c] ms) (hi : X.N[i]? = some x := by rfl) (hj : X.N[j]? = some y := by rfl) (hl : X.N[l]? = some z := by rfl) (hij : i ≠ j := by decide) (hil : i ≠ l := by decide) (hjl : j ≠ l := by decide)
    (hx : X.env.scope.names.lookup x = some .local := by rfl) (hy : X.env.scope.names.lookup y = some .local := by rfl) (hz : X.env.scope.names.lookup z = some .local := by rfl)
    (hw : swappedStores [.Tuple [.Name x px, .Name y py, .Name z pz] kt pt] (.Tuple [a, b, c] k2 pt2) X.env = pure (some [x, y, z]) := by rfl)
    (hs : swapsWithSole [.Tuple [.Name x px, .Name y py, .Name z pz] kt pt] (.Tuple [a, b, c] k2 pt2) pos.line X.env = pure false := by rfl) :
    DS X Y (.Assign [.Tuple [.Name x px, .Name y py, .Name z pz] kt pt] (.Tuple [a, b, c] k2 pt2) pos) (sPar [i, j, l] ms) :=
  PS.weak (ps_par3 hc hN hi hj hl hij hil hjl hx hy hz ha hw hs) fun D σ H h => by
    obtain ⟨F, P, G, ρ, r, er, e, hm, hp⟩ := par_tail h
    refine ⟨F, P, G, ρ, r, er, e, hm, ?_⟩
    cases r with
    | ok xs ρ' =>
      intro vs G' H' s e' hh
      obtain ⟨l, n⟩ := hp vs G' H' s e' hh
      match vs, l with
      | [u, v, w], _ => exact ⟨u, v, w, rfl, n⟩
    | ex x ρ' => exact hp
end
/-! a, b = a list -/
def seqU : D → Option (List D)
  | .tup ds => some ds
  | .pr ds => some ds
  | .lst ds => some ds
  | _ => none
def tgSeq (n : Nat) (t : Tgs) : Tg := fun x ρ => match frz (stl x) ρ with
  | some (.ok d ρ1) => match seqU d with
    | some ds => if ds.length = n then t ds ρ1 else none
    | none => none
  | _ => none
theorem pg_or {X : Cx} {e : Expr} {t u : TG} (h : PG X e t) (k : PG X e u) : PG X e (fun v σ H Q => t v σ H Q ∨ u v σ H Q) :=
  ⟨fun pins s σ H v w Q I r z => z.elim (h.run pins s σ H v w Q I r) (k.run pins s σ H v w Q I r)⟩
section
variable {X : Cx} {Y : Yc} {ts : List Expr} {pos : Pos}
theorem dg_seq {k n : Nat} {t : Tgs} (hc : X.calm = true) (h : DGs X Y ts t) (hn : (assignEach ts X.env).length = n := by rfl) (hst : (assignEach ts X.env).findIdx? (·.1) = none := by rfl) : DG X Y (.Tuple ts k pos) (tgSeq n t) :=
  PG.weak (pg_or (pg_tup hc h hn hst) (pg_unl hc h hn hst)) fun v σ H Q ⟨F, P, G, ρ, x, ρ', er, e, ro, hm, hq⟩ => by
    obtain ⟨G1, s1, e1, so⟩ := settle e ro
    unfold tgSeq at hm
    cases q : frz (stl x) ρ with
    | none =>
      rw [q] at hm
      cases hm
    | some r =>
      obtain ⟨d, ρ1, G2, rfl, s2, e2, im⟩ := frz_ok e1 so q
      rw [q] at hm
      simp only at hm
      cases qd : seqU d with
      | none =>
        rw [qd] at hm
        cases hm
      | some ds =>
        rw [qd] at hm
        simp only at hm
        by_cases hl : ds.length = n
        · rw [if_pos hl] at hm
          have go : ∀ {vs : List V}, Ims (amb X) G2 vs ds → vs.length = n ∧ tgsG (amb X) Y t vs σ H Q := fun {vs} r => ⟨r.length.trans hl, F, P, G2, ρ1, ds, ρ', er, e2, r, hm, hq⟩
          cases im with
          | tup h r =>
            cases qd
            exact .inl ⟨_, _, rfl, same_sqT e2.gh h.sq, go r⟩
          | pr h r =>
            cases qd
            exact .inl ⟨_, _, rfl, same_sqT e2.gh h, go r⟩
          | lst h r =>
            cases qd
            exact .inr ⟨_, _, rfl, e2.gh.seq h, go r⟩
          | _ => cases qd
        · rw [if_neg hl] at hm
          cases hm
end
end Z

set_option Elab.async false
set_option linter.all false
set_option maxRecDepth 100000
set_option maxHeartbeats 4000000
/-! ZZF: tuple * n, str of bools, dicts beside texts. -/
namespace PySem.AutoSeq1
theorem tuple_mul1 (l : Addr) (items : Array Value) (n : Nat) (dd : Option Addr) (sl : Array (Option Value)) (u : Tok) (hne : items.isEmpty = false) :
    Meets (Builtin.«tuple.__mul__» ⟨[.ref l, .int 1 u], []⟩) (fun _ R s => s.heap.get? l = some { cls := .type "tuple", dict := dd, data := .seq items n, slots := sl } ∧ R (.ok (.ret (Value.ref l))) s) :=
  .of_wp fun prog w A R s h => by
    obtain ⟨hp, g, d, tk, os⟩ := s
    obtain ⟨hl, h⟩ := h
    have f1 := AutoSeq1.idx_int
    wp_walk using wpAny_loadPart' hl, wpAny_load hl
    exact ⟨_, rfl, h⟩
theorem dict_eq_declines_str (l : Addr) (es : Array DictEntry) (n : Nat) (dd : Option Addr) (sl : Array (Option Value)) (b : Str) (u : Tok) :
    Meets (Builtin.«dict.__eq__» ⟨[.ref l, .str b u], []⟩) (fun _ R s => s.heap.get? l = some { cls := .type "dict", dict := dd, data := .dict es n, slots := sl } ∧ R (.ok (.ret .notImplemented)) s) :=
  .of_wp fun prog w A R s h => by obtain ⟨hp, g, d, tk, os⟩ := s; obtain ⟨hl, h⟩ := h; have f1 := F.sub_str_dict; wp_walk using wpAny_loadPart' hl, wpAny_load hl; exact ⟨_, rfl, h⟩
theorem str_eq_declines_dict (b : Str) (u : Tok) (l : Addr) (es : Array DictEntry) (n : Nat) (dd : Option Addr) (sl : Array (Option Value)) :
    Meets (Builtin.«str.__eq__» ⟨[.str b u, .ref l], []⟩) (fun _ R s => s.heap.get? l = some { cls := .type "dict", dict := dd, data := .dict es n, slots := sl } ∧ R (.ok (.ret .notImplemented)) s) :=
  .of_wp fun prog w A R s h => by obtain ⟨hp, g, d, tk, os⟩ := s; obtain ⟨hl, h⟩ := h; wp_walk using wpAny_loadPart' hl, wpAny_load hl; exact ⟨_, rfl, h⟩
end PySem.AutoSeq1
namespace Z
open PySem PySem.Spec PyProof.Rows L2
def rRepF (K : PySem.W.Frag) : R2 := fun x y H Q => ∃ l k xs, x = .ref l ∧ y = .int k ∧ SqT K H l xs ∧ xs ≠ [] ∧ 1 ≤ k ∧ k ≤ 1000 ∧ xs.length ≤ 1000 ∧ (k = 1 → Q (.ref l) H) ∧ ∀ (p : Addr) (o : Obj), H p = none → o.dict = none → Q (.ref p) (upd H p (.frz o (.tup (List.replicate k.toNat xs).flatten)))
section
variable {X : Cx}
theorem op_repF : OpR X (binaryOp .Mult) (rRepF X.K) := by
  intro pins s σ H x y v u Q I rx ry h
  obtain ⟨l, k, xs, rfl, rfl, hT, hne, h1, h2, hz, q1, q⟩ := h
  cases rx
  obtain ⟨t, rfl⟩ := ry
  obtain ⟨its, r, ⟨⟨cls, dd, data, sl⟩, ho, hc, n, hd⟩, hs⟩ := I.tuple hT
  simp only at hc hd
  subst hc hd
  have hle : its.length = xs.length := r.length.symm
  have hn : its ≠ [] := fun e => hne (by
    rw [e] at hle
    exact List.eq_nil_of_length_eq_zero hle.symm)
  have hi : its.toArray.isEmpty = false := by
    cases its with
    | nil => exact absurd rfl hn
    | cons a b => rfl
  by_cases hk : k = 1
  · subst hk
    exact wpAny_binaryOp_repeat_ref (T := "tuple") (U := "int") (by decide) ⟨_, ho, rfl⟩ (fun s' => typeIs_int s' 1 t) noFill_tuple_mul F.fills_int_mul F.slot_int_rmul repeat_tuple F.slot_int_index.lookup
      (call_meets F.slot_int_rmul (typeIs_int s 1 t) F.entry_int_rmul (F.args_int_rmul_2 _ _) (int_rmul_tuple 1 t l its.toArray n dd sl)
        ⟨ho, rfl, ⟨_, ho, rfl⟩, call_meets F.slot_tuple_mul ⟨_, ho, rfl⟩ F.entry_tuple_mul (F.args_tuple_mul_2 _ _) (AutoSeq1.tuple_mul1 l its.toArray n dd sl t hi) ⟨ho, ⟨.ref l, H, I, rfl, q1 rfl⟩⟩⟩)
  have hsz0 : its.toArray.size = xs.length := by rw [List.size_toArray, hle]
  have hm : ((its.toArray.size : Nat) : Int) * k ≤ 1000000 := by
    rw [hsz0]
    have a1 : ((xs.length : Nat) : Int) * k ≤ 1000 * k := Int.mul_le_mul_of_nonneg_right (by omega) (by omega)
    omega
  have flen : (List.replicate k.toNat its).flatten.length ≤ sizeLine := by
    rw [PyProof.Rows.lm_len_rep_flat, hle, sizeLine_eq]
    have a1 : k.toNat * xs.length ≤ 1000 * 1000 := Nat.mul_le_mul (by omega) hz
    omega
  have c0 : (decide (k < -(2 ^ 63)) || decide (k ≥ 2 ^ 63)) = false := by
    rw [decide_eq_false (by omega), decide_eq_false (by omega)] <;> rfl
  have c1 : (its.toArray.isEmpty || k == 1) = false := by
    rw [hi, Bool.false_or]
    exact beq_eq_false_iff_ne.mpr (by omega)
  have c2 : (decide (k ≤ 0) || its.toArray.isEmpty) = false := by
    rw [hi, Bool.or_false]
    exact decide_eq_false (by omega)
  have c4 : Builtin.Tuple.tupleTooMany (((its.toArray.size : Nat) : Int) * k) = false := by
    unfold Builtin.Tuple.tupleTooMany
    rw [sizeLine_eq]
    exact decide_eq_false (by omega)
  refine wpAny_binaryOp_repeat_ref (T := "tuple") (U := "int") (by decide) ⟨_, ho, rfl⟩ (fun s' => typeIs_int s' k t) noFill_tuple_mul F.fills_int_mul F.slot_int_rmul repeat_tuple F.slot_int_index.lookup
    (call_meets F.slot_int_rmul (typeIs_int s k t) F.entry_int_rmul (F.args_int_rmul_2 _ _) (int_rmul_tuple k t l its.toArray n dd sl)
      ⟨ho, rfl, ⟨_, ho, rfl⟩, call_meets F.slot_tuple_mul ⟨_, ho, rfl⟩ F.entry_tuple_mul (F.args_tuple_mul_2 _ _) (tuple_mulW l its.toArray n dd sl k t c0 c1 c2 (by omega) c4 (by rw [size_rep, List.size_toArray]; exact flen)) ⟨ho, ?_⟩⟩)
  rw [size_rep]
  refine ⟨.ref s.heap.objs.size, _, ?_, rfl, q s.heap.objs.size { cls := .type "tuple", data := .seq (List.replicate k.toNat its).flatten.toArray } (I.hok.fresh (Nat.le_refl _)) rfl⟩
  refine I.laid (t' := s.toks) (fun b ob q => Heap.get?_push_of_some _ q) (Nat.le_refl _) ⟨?_, ?_, _, r.rep k.toNat, IsTup.new _ _⟩
  · exact Heap.get?_push_size _ rfl
  · rw [PyProof.Rows.lm_len_rep_flat, sizeLine_eq]
    have a1 : k.toNat * xs.length ≤ 1000 * 1000 := Nat.mul_le_mul (by omega) hz
    omega
def fRepT : D → D → Option D
  | .tup (a :: as), .int k => if 1 ≤ k ∧ k ≤ 1000 ∧ (a :: as).length ≤ 1000 then some (.tup (List.replicate k.toNat (a :: as)).flatten) else none
  | _, _ => none
theorem od_repT : OpD X (binaryOp .Mult) fRepT := ⟨_, op_repF, fun F P σ G H ρ x y p q d Q e t1 t2 hf hq => by
  unfold fRepT at hf
  split at hf
  · split at hf
    · rename_i a as k c
      cases hf
      obtain ⟨l, vs, rfl, h1, i1⟩ := t1.tup e.gh
      have k1 : Im (amb X) G (.ref l) (.tup (a :: as)) := t1.scal (fun _ => by simp) (fun _ _ _ => by simp)
      have := t2.int
      subst this
      refine ⟨l, k, vs, rfl, rfl, h1, fun z => ?_, c.1, c.2.1, by rw [i1.length]; exact c.2.2, fun z => ?_, fun p o n dn => ?_⟩
      · subst z
        cases i1
      · subst z
        refine hq _ G H (Same.refl G) e ?_
        have z : (List.replicate (1 : Int).toNat (a :: as)).flatten = a :: as := by simp
        rw [z]
        exact k1
      · obtain ⟨G', s, e3, ro⟩ := e.newT n dn (Ims.rep i1 k.toNat)
        exact hq _ G' _ s e3 ro
    · cases hf
  · cases hf⟩
def fMul : D → D → Option D := fun p q => orD (fI kMul p q) (fRepT p q)
theorem od_mul : OpD X (binaryOp .Mult) fMul := od_mulI.or od_repT
/-! str of a bool, of None -/
def fStrB : List D → Option D
  | [.bl b] => some (.str (if b then "True" else "False"))
  | _ => none
theorem call_strB : CallR X (.type "str") (fun xs H Q => ∃ b : Bool, xs = [.bl b] ∧ Q (.str (if b then "True" else "False")) H) := by
  intro pins s σ H xs us Q I r h
  obtain ⟨b, rfl, q⟩ := h
  obtain ⟨u, rfl, r1⟩ := vals1 r
  cases r1
  exact PySem.P.str_of_bool ⟨.str _, H, I.tok _, ⟨_, rfl⟩, q⟩
theorem cd_strB : CaD X (.type "str") fStrB := ⟨_, call_strB, fun F P σ G H ρ xs ds d Q e t hf hq => by
  unfold fStrB at hf
  split at hf
  · cases hf
    obtain ⟨x, rfl, u⟩ := t.one
    have := u.bl
    subst this
    exact ⟨_, rfl, hq _ G H (Same.refl G) e (.str _)⟩
  · cases hf⟩
def fStr2 : List D → Option D := fun xs => orD (fStr xs) (fStrB xs)
theorem cd_str2 (hg : X.A.guards = some []) (hu : X.A.units + 64 < cLine) : CaD X (.type "str") fStr2 := (cd_str hg hu).or cd_strB
/-! a dict beside a text -/
def eqDS : D → D → Option Bool
  | .dic _ _, .str _ => some false
  | _, _ => none
theorem top_dic {A : Amb} {G H : Hp} {v : V} {ks : List Key} {ds : List D} (g : Same G H) (h : Top A G H v (.dic ks ds)) : ∃ a kvs, v = .ref a ∧ H a = some (.dK kvs) := by
  rcases h with h | ⟨_, _, _, _, h, _⟩ | ⟨_, _, _, _, _, _, _, _, h, _⟩
  · cases h with
    | dic h n r => exact ⟨_, _, rfl, g _ _ h⟩
  · cases h
  · cases h
def rEqDS (b : Bool) : R2 := fun x y H Q => ∃ a kvs t, x = .ref a ∧ y = .str t ∧ H a = some (.dK kvs) ∧ Q (.bl b) H
theorem op_eqDS (hu : X.A.units + 64 < cLine) : OpR X (compareOp .Eq) (rEqDS false) := by
  intro pins s σ H x y v u Q I rx ry h
  obtain ⟨a, kvs, t, rfl, rfl, ha, q⟩ := h
  cases rx
  obtain ⟨tk, rfl⟩ := ry
  obtain ⟨_, _, vs, _, hd⟩ := I.hok a _ ha
  obtain ⟨⟨cls, dd, data, sl⟩, es, ep, ho, ⟨c1, c2, c3⟩, hda, _⟩ := hd
  simp only at c1 c2 c3 hda
  subst c1 c2 c3 hda
  show wpAny (model X.prog X.w) X.A (richCompare .Eq (.ref a) (.str t tk)) _ _ _
  exact SeqAt.rc_eq_decline_or (k := false) ⟨_, ho, rfl⟩ (PySem.typeIs_str s t tk) (by decide) F.sub_str_dict F.slot_dict_eq F.slot_str_eq_refl
    (fun _ hq => call_meets F.slot_dict_eq ⟨_, ho, rfl⟩ F.entry_dict_eq (F.args_dict_eq_2 _ _) (AutoSeq1.dict_eq_declines_str a es ep none #[] t tk) ⟨ho, hq⟩)
    (fun _ hq => call_meets F.slot_str_eq_refl (PySem.typeIs_str s t tk) F.entry_str_eq (F.args_str_eq_2 _ _) (AutoSeq1.str_eq_declines_dict t tk a es ep none #[]) ⟨ho, hq⟩)
    (fun _ hq => wpAny_of_eq (rfl : isSame (.ref a) (.str t tk) = pure false) hq) (.inr (by omega)) ⟨.bl false, H, I, rfl, q⟩
def fEqDS : D → D → Option D := fun p q => (eqDS p q).map .bl
theorem od_eqDS (hu : X.A.units + 64 < cLine) : OpD X (compareOp .Eq) fEqDS := ⟨_, op_eqDS hu, fun F P σ G H ρ x y p q d Q e t1 t2 hf hq => by
  unfold fEqDS eqDS at hf
  split at hf
  · cases hf
    obtain ⟨a, kvs, rfl, ha⟩ := top_dic e.gh t1
    have := t2.str
    subst this
    exact ⟨a, kvs, _, rfl, rfl, ha, hq _ G H (Same.refl G) e (.bl _)⟩
  · cases hf⟩
def fEq2 : D → D → Option D := fun p q => orD (fEq p q) (fEqDS p q)
theorem od_eq2 (hu : X.A.units + 64 < cLine) : OpD X (compareOp .Eq) fEq2 := (od_eq hu).or (od_eqDS hu)
end
end Z

set_option Elab.async false
set_option linter.all false
set_option maxRecDepth 100000
set_option maxHeartbeats 4000000
/-! WA: mirrors by what is wanted behind them. -/
namespace Z
open PySem
@[irreducible] def wM {α : Type} (m : M α) (K : α → E → Prop) (X : Ex → E → Prop) (ρ : E) : Prop := match m ρ with
  | some (.ok a ρ') => K a ρ'
  | some (.ex x ρ') => X x ρ'
  | none => False
@[irreducible] def wS (m : S) (N : E → Prop) (T : Rf → E → Prop) (B C : E → Prop) (X : Ex → E → Prop) (ρ : E) : Prop := match m ρ with
  | some (.nx ρ') => N ρ'
  | some (.rt x ρ') => T x ρ'
  | some (.bk ρ') => B ρ'
  | some (.ct ρ') => C ρ'
  | some (.ex x ρ') => X x ρ'
  | none => False
abbrev noX : Ex → E → Prop := fun _ _ => False
abbrev noE : E → Prop := fun _ => False
section
variable {α β : Type} {X : Ex → E → Prop} {ρ ρ1 : E} {N B C : E → Prop} {T : Rf → E → Prop}
theorem wM_of {m : M α} {K : α → E → Prop} {a : α} (h : m ρ = some (.ok a ρ1)) (k : K a ρ1) : wM m K X ρ := by
  unfold wM
  rw [h]
  exact k
theorem wM_ex {m : M α} {K : α → E → Prop} {a : Ex} (h : m ρ = some (.ex a ρ1)) (k : X a ρ1) : wM m K X ρ := by
  unfold wM
  rw [h]
  exact k
theorem wM_mono {m : M α} {K K' : α → E → Prop} (h : wM m K' X ρ) (k : ∀ a ρ1, K' a ρ1 → K a ρ1) : wM m K X ρ := by
  unfold wM at h ⊢
  split <;> rename_i e <;> rw [e] at h
  · exact k _ _ h
  · exact h
  · exact h
theorem wM_ok {m : M α} {K : α → E → Prop} (h : wM m K noX ρ) : ∃ a ρ1, m ρ = some (.ok a ρ1) ∧ K a ρ1 := by
  unfold wM at h
  split at h
  · exact ⟨_, _, by assumption, h⟩
  · exact h.elim
  · exact h.elim
theorem wM_bind {m : M α} {k : α → M β} {K : β → E → Prop} (h : wM m (fun a => wM (k a) K X) X ρ) : wM (Z.bindM m k) K X ρ := by
  unfold wM at h ⊢
  unfold Z.bindM
  cases q : m ρ with
  | none =>
    rw [q] at h
    exact h
  | some r =>
    rw [q] at h
    cases r with
    | ok a ρ1 => exact h
    | ex x ρ1 => exact h
theorem wM_pure {a : α} {K : α → E → Prop} (h : K a ρ) : wM (pureM a) K X ρ := wM_of rfl h
theorem wM_opt {o : Option α} {a : α} {K : α → E → Prop} (e : o = some a) (h : K a ρ) : wM (optM o) K X ρ := by
  subst e
  exact wM_of rfl h
theorem wM_drf {x : Rf} {d : D} {K : D → E → Prop} (e : deref ρ x = some d) (h : K d ρ) : wM (drf x) K X ρ := by
  refine wM_of (a := d) (ρ1 := ρ) ?_ h
  unfold drf
  rw [e]
theorem wM_drfs {x : List Rf} {d : List D} {K : List D → E → Prop} (e : derefs ρ x = some d) (h : K d ρ) : wM (drfs x) K X ρ := by
  refine wM_of (a := d) (ρ1 := ρ) ?_ h
  unfold drfs
  rw [e]
/-! expressions -/
theorem w_val {i : Nat} {d : D} {K : Rf → E → Prop} (e : ρ[i]? = some (.val d)) (h : K (.dat d) ρ) : wM (eVar i) K X ρ := wM_of (var_ev e) h
theorem w_cel {i : Nat} {p : Bool} {c : Cell} {K : Rf → E → Prop} (e : ρ[i]? = some (.cel p c)) (h : K (.cel i) ρ) : wM (eVar i) K X ρ := wM_of (cel_ev e) h
theorem w_c {d : D} {K : Rf → E → Prop} (h : K (.dat d) ρ) : wM (eC d) K X ρ := wM_of rfl h
theorem w_op2 {f : D → D → Option D} {a b : M Rf} {K : Rf → E → Prop} (h : wM a (fun x => wM b (fun y ρ2 => ∃ p q d, deref ρ2 (stl x) = some p ∧ deref ρ2 (stl y) = some q ∧ f p q = some d ∧ K (mk d) ρ2) X) X ρ) : wM (eOp2 f a b) K X ρ := by
  refine wM_bind (wM_mono h fun x ρ1 h => wM_bind (wM_mono h fun y ρ2 h => ?_))
  obtain ⟨p, q, d, e1, e2, e3, k⟩ := h
  exact wM_bind (wM_drf e1 (wM_bind (wM_drf e2 (wM_opt (a := mk d) (by rw [e3]; rfl) k))))
theorem w_call {f : List D → Option D} {ms : M (List Rf)} {K : Rf → E → Prop} (h : wM ms (fun xs ρ1 => ∃ ds d, derefs ρ1 xs = some ds ∧ f ds = some d ∧ K (mk d) ρ1) X ρ) : wM (eCall f ms) K X ρ := by
  refine wM_bind (wM_mono h fun x ρ1 h => ?_)
  obtain ⟨p, d, e1, e3, k⟩ := h
  exact wM_bind (wM_drfs e1 (wM_opt (a := mk d) (by rw [e3]; rfl) k))
theorem w_nil {K : List Rf → E → Prop} (h : K [] ρ) : wM aNil K X ρ := wM_of rfl h
theorem w_cons {a : M Rf} {ms : M (List Rf)} {K : List Rf → E → Prop} (h : wM a (fun x => wM ms (fun xs => K (stl x :: xs)) X) X ρ) : wM (aCons a ms) K X ρ :=
  wM_bind (wM_mono h fun x ρ1 h => wM_bind (wM_mono h fun y ρ2 h => wM_of rfl h))
theorem w_tst {a : M Rf} {K : Bool → E → Prop} (h : wM a (fun x ρ1 => ∃ c, x = .dat (.bl c) ∧ K c ρ1) X ρ) : wM (tst a) K X ρ := by
  refine wM_bind (wM_mono h fun x ρ1 h => ?_)
  obtain ⟨c, rfl, k⟩ := h
  exact wM_of rfl k
theorem w_bnot {t : M Bool} {K : Bool → E → Prop} (h : wM t (fun c => K (!c)) X ρ) : wM (bNot t) K X ρ := wM_bind (wM_mono h fun c ρ1 h => wM_of rfl h)
theorem w_band {t u : M Bool} {K : Bool → E → Prop} (h : wM t (fun c ρ1 => if c = true then wM u K X ρ1 else K false ρ1) X ρ) : wM (bAnd t u) K X ρ := by
  refine wM_bind (wM_mono h fun c ρ1 h => ?_)
  cases c
  · first | exact h | exact wM_of rfl h
  · first | exact h | exact wM_of rfl h
theorem w_bor {t u : M Bool} {K : Bool → E → Prop} (h : wM t (fun c ρ1 => if c = true then K true ρ1 else wM u K X ρ1) X ρ) : wM (bOr t u) K X ρ := by
  refine wM_bind (wM_mono h fun c ρ1 h => ?_)
  cases c
  · first | exact h | exact wM_of rfl h
  · first | exact h | exact wM_of rfl h
theorem w_and {a b : M Rf} {K : Rf → E → Prop} (h : wM a (fun x ρ1 => ∃ c, x = .dat (.bl c) ∧ if c = true then wM b K X ρ1 else K (.dat (.bl false)) ρ1) X ρ) : wM (eAnd a b) K X ρ := by
  refine wM_bind (wM_mono h fun x ρ1 h => ?_)
  obtain ⟨c, rfl, k⟩ := h
  cases c
  · first | exact k | exact wM_of rfl k
  · first | exact k | exact wM_of rfl k
theorem w_or {a b : M Rf} {K : Rf → E → Prop} (h : wM a (fun x ρ1 => ∃ c, x = .dat (.bl c) ∧ if c = true then K (.dat (.bl true)) ρ1 else wM b K X ρ1) X ρ) : wM (eOr a b) K X ρ := by
  refine wM_bind (wM_mono h fun x ρ1 h => ?_)
  obtain ⟨c, rfl, k⟩ := h
  cases c
  · first | exact k | exact wM_of rfl k
  · first | exact k | exact wM_of rfl k
theorem w_not {a : M Rf} {K : Rf → E → Prop} (h : wM a (fun x ρ1 => ∃ c, x = .dat (.bl c) ∧ K (.dat (.bl (!c))) ρ1) X ρ) : wM (eNot a) K X ρ := by
  refine wM_bind (wM_mono h fun x ρ1 h => ?_)
  obtain ⟨c, rfl, k⟩ := h
  exact wM_of rfl k
theorem w_eif {t : M Bool} {a b : M Rf} {K : Rf → E → Prop} (h : wM t (fun c ρ1 => if c = true then wM a K X ρ1 else wM b K X ρ1) X ρ) : wM (eIf t a b) K X ρ := by
  refine wM_bind (wM_mono h fun c ρ1 h => ?_)
  cases c
  · first | exact h | exact wM_of rfl h
  · first | exact h | exact wM_of rfl h
theorem w_chain {f g : D → D → Option D} {a b c : M Rf} {K : Rf → E → Prop} (h : wM a (fun x => wM b (fun y ρ2 => ∃ p q k, deref ρ2 (stl x) = some p ∧ deref ρ2 (stl y) = some q ∧ f p q = some (.bl k) ∧
    if k = true then wM c (fun z ρ3 => ∃ q' w d, deref ρ3 (stl y) = some q' ∧ deref ρ3 (stl z) = some w ∧ g q' w = some d ∧ K (mk d) ρ3) X ρ2 else K (.dat (.bl false)) ρ2) X) X ρ) : wM (eChain f g a b c) K X ρ := by
  refine wM_bind (wM_mono h fun x ρ1 h => wM_bind (wM_mono h fun y ρ2 h => ?_))
  obtain ⟨p, q, k, e1, e2, e3, h⟩ := h
  refine wM_bind (wM_drf e1 (wM_bind (wM_drf e2 ?_)))
  simp only [e3]
  cases k with
  | false => exact wM_of rfl h
  | true =>
    refine wM_bind (wM_mono h fun z ρ3 h => ?_)
    obtain ⟨q', w, d, e4, e5, e6, h⟩ := h
    exact wM_bind (wM_drf e4 (wM_bind (wM_drf e5 (wM_opt (a := mk d) (by rw [e6]; rfl) h))))
theorem w_frz {x : Rf} {d : D} {K : D → E → Prop} (e : frz x ρ = some (.ok d ρ1)) (h : K d ρ1) : wM (frz x) K X ρ := wM_of e h
theorem w_tup {ms : M (List Rf)} {K : Rf → E → Prop} (h : wM ms (fun xs ρ1 => ∃ ds ρ2, frzs xs ρ1 = some (.ok ds ρ2) ∧ ds.length ≤ 1000 ∧ K (.dat (.tup ds)) ρ2) X ρ) : wM (eTup ms) K X ρ := by
  refine wM_bind (wM_mono h fun x ρ1 h => ?_)
  obtain ⟨ds, ρ2, e, l, k⟩ := h
  refine wM_bind (wM_of e ?_)
  show wM (if ds.length ≤ sizeLine then _ else _) K X ρ2
  rw [if_pos (szOk l)]
  exact wM_of rfl k
theorem w_lst {ms : M (List Rf)} {K : Rf → E → Prop} (h : wM ms (fun xs ρ1 => ∃ ds ρ2, frzs xs ρ1 = some (.ok ds ρ2) ∧ ds.length ≤ 1000 ∧ K (.new ds) ρ2) X ρ) : wM (eLst ms) K X ρ := by
  refine wM_bind (wM_mono h fun x ρ1 h => ?_)
  obtain ⟨ds, ρ2, e, l, k⟩ := h
  refine wM_bind (wM_of e ?_)
  show wM (if ds.length ≤ sizeLine then _ else _) K X ρ2
  rw [if_pos (szOk l)]
  exact wM_of rfl k
theorem w_ix {a b : M Rf} {K : Rf → E → Prop} (h : wM a (fun x => wM b (fun y ρ2 => ∃ p q d, deref ρ2 (stl x) = some p ∧ deref ρ2 (stl y) = some q ∧ fIx p q = some d ∧ K (.dat d) ρ2) X) X ρ) : wM (eIx a b) K X ρ := by
  refine wM_bind (wM_mono h fun x ρ1 h => wM_bind (wM_mono h fun y ρ2 h => ?_))
  obtain ⟨p, q, d, e1, e2, e3, k⟩ := h
  exact wM_bind (wM_drf e1 (wM_bind (wM_drf e2 (wM_opt (a := .dat d) (by rw [e3]; rfl) k))))
theorem w_onone {K : Option Int → E → Prop} (h : K none ρ) : wM oNone K X ρ := wM_of rfl h
theorem w_osome {a : M Rf} {K : Option Int → E → Prop} (h : wM a (fun x ρ1 => ∃ i, x = .dat (.int i) ∧ K (some i) ρ1) X ρ) : wM (oSome a) K X ρ := by
  refine wM_bind (wM_mono h fun x ρ1 h => ?_)
  obtain ⟨c, rfl, k⟩ := h
  exact wM_of rfl k
theorem w_cut {a : M Rf} {l u : M (Option Int)} {K : Rf → E → Prop} (h : wM a (fun x => wM l (fun lo => wM u (fun hi ρ2 => ∃ p d, deref ρ2 (stl x) = some p ∧ fCut p lo hi = some d ∧ K (mk d) ρ2) X) X) X ρ) : wM (eCut a l u) K X ρ := by
  refine wM_bind (wM_mono h fun x ρ1 h => wM_bind (wM_mono h fun y ρ2 h => wM_bind (wM_mono h fun z ρ3 h => ?_)))
  obtain ⟨p, d, e1, e3, k⟩ := h
  exact wM_bind (wM_drf e1 (wM_opt (a := mk d) (by rw [e3]; rfl) k))
theorem w_un {f : D → Option D} {a : M Rf} {K : Rf → E → Prop} (h : wM a (fun x ρ1 => ∃ p d, deref ρ1 (stl x) = some p ∧ f p = some d ∧ K (mk d) ρ1) X ρ) : wM (eUn f a) K X ρ := by
  refine wM_bind (wM_mono h fun x ρ1 h => ?_)
  obtain ⟨p, d, e1, e3, k⟩ := h
  exact wM_bind (wM_drf e1 (wM_opt (a := mk d) (by rw [e3]; rfl) k))
theorem w_neg {a : M Rf} {K : Rf → E → Prop} (h : wM a (fun x ρ1 => ∃ i, x = .dat (.int i) ∧ K (.dat (.int (-i))) ρ1) X ρ) : wM (eNeg a) K X ρ := by
  refine wM_bind (wM_mono h fun x ρ1 h => ?_)
  obtain ⟨c, rfl, k⟩ := h
  exact wM_of rfl k
theorem w_rep {a b : M Rf} {K : Rf → E → Prop} (h : wM a (fun x ρ1 => ∃ ds, x = .new ds ∧ wM b (fun y ρ2 => ∃ k, y = .dat (.int k) ∧ (-1000 ≤ k ∧ k ≤ 1000 ∧ ds.length * k.toNat ≤ 1000) ∧ K (.new (List.replicate k.toNat ds).flatten) ρ2) X ρ1) X ρ) : wM (eRep a b) K X ρ := by
  refine wM_bind (wM_mono h fun x ρ1 h => ?_)
  obtain ⟨ds, rfl, h⟩ := h
  refine wM_bind (wM_mono h fun y ρ2 h => ?_)
  obtain ⟨k, rfl, ⟨l1, l2, l3⟩, kk⟩ := h
  show wM (if _ then _ else _) K X ρ2
  rw [if_pos ⟨by omega, by omega, szOk l3⟩]
  exact wM_of rfl kk
end
end Z

set_option Elab.async false
set_option linter.all false
set_option maxRecDepth 100000
set_option maxHeartbeats 4000000
/-! WB: calls, loops, statements by what is wanted behind them. -/
namespace Z
open PySem
section
variable {α β : Type} {X : Ex → E → Prop} {ρ ρ1 ρ2 : E} {N B C : E → Prop} {T : Rf → E → Prop}
theorem wM_eq {m m' : M α} {K : α → E → Prop} (e : m ρ = m' ρ1) (h : wM m' K X ρ1) : wM m K X ρ := by
  unfold wM at h ⊢
  rw [e]
  exact h
theorem wS_eq {m m' : S} (e : m ρ = m' ρ1) (h : wS m' N T B C X ρ1) : wS m N T B C X ρ := by
  unfold wS at h ⊢
  rw [e]
  exact h
theorem w_lrg {a b : M Rf} {K : Rf → E → Prop} (h : wM a (fun x => wM b (fun y ρ2 => ∃ i j, x = .dat (.int i) ∧ y = .dat (.int j) ∧ (-1000 ≤ i ∧ i ≤ 1000 ∧ -1000 ≤ j ∧ j ≤ 1000) ∧ K (.new (rangeD i (j - i).toNat)) ρ2) X) X ρ) : wM (eLRg a b) K X ρ := by
  refine wM_bind (wM_mono h fun x ρ1 h => wM_bind (wM_mono h fun y ρ2 h => ?_))
  obtain ⟨i, j, rfl, rfl, l, k⟩ := h
  show wM (if _ then _ else _) K X ρ2
  rw [if_pos (by omega)]
  exact wM_of rfl k
theorem w_lrg1 {a : M Rf} {K : Rf → E → Prop} (h : wM a (fun y ρ2 => ∃ j, y = .dat (.int j) ∧ (-1000 ≤ j ∧ j ≤ 1000) ∧ K (.new (rangeD 0 (j - 0).toNat)) ρ2) X ρ) : wM (eLRg1 a) K X ρ := by
  refine wM_bind (wM_mono h fun x ρ1 h => ?_)
  obtain ⟨j, rfl, l, k⟩ := h
  show wM (if _ then _ else _) K X ρ1
  rw [if_pos (by omega)]
  exact wM_of rfl k
theorem w_lm {i : Nat} {f : List D → List D → Option (D × List D)} {ms : M (List Rf)} {K : Rf → E → Prop} {p0 : Bool} {es0 : List D} (h0 : ρ[i]? = some (.cel p0 (.lst es0)))
    (h : wM ms (fun xs ρ1 => ∃ ds ρ2 p es d es', frzs xs ρ1 = some (.ok ds ρ2) ∧ ρ2[i]? = some (.cel p (.lst es)) ∧ f es ds = some (d, es') ∧ K (.dat d) (ρ2.set i (.cel p (.lst es')))) X ρ) : wM (eLM i f ms) K X ρ := by
  have q : eLM i f ms ρ = Z.bindM ms (fun xs => Z.bindM (frzs xs) fun ds => fun ρ2 => match ρ2[i]? with
    | some (.cel p (.lst es)) => match f es ds with
      | some (d, es') => some (.ok (.dat d) (ρ2.set i (.cel p (.lst es'))))
      | none => none
    | _ => none) ρ := by
    unfold eLM
    first
      | (rw [h0]; rfl)
      | rw [h0]
  refine wM_eq q (wM_bind (wM_mono h fun xs ρ1 h => ?_))
  obtain ⟨ds, ρ2, p, es, d, es', e1, e2, e3, k⟩ := h
  refine wM_bind (wM_of e1 (wM_of (a := .dat d) (ρ1 := ρ2.set i (.cel p (.lst es'))) ?_ k))
  simp only [e2, e3]
theorem w_tm {f : List D → List D → Option D} {a : M Rf} {ms : M (List Rf)} {K : Rf → E → Prop} (h : wM a (fun x ρ1 => ∃ es, x = .dat (.tup es) ∧ wM ms (fun xs ρ2 => ∃ ds d, derefs ρ2 xs = some ds ∧ f es ds = some d ∧ K (mk d) ρ2) X ρ1) X ρ) : wM (eTM f a ms) K X ρ := by
  refine wM_bind (wM_mono h fun x ρ1 h => ?_)
  obtain ⟨es, rfl, h⟩ := h
  refine wM_bind (wM_mono h fun xs ρ2 h => ?_)
  obtain ⟨ds, d, e1, e2, k⟩ := h
  exact wM_bind (wM_drfs e1 (wM_opt (a := mk d) (by rw [e2]; rfl) k))
theorem w_isi {t : Ty} {a : M Rf} {K : Rf → E → Prop} (h : wM a (fun x ρ1 => ∃ p b, deref ρ1 (stl x) = some p ∧ isTy p t = some b ∧ K (.dat (.bl b)) ρ1) X ρ) : wM (eIsi t a) K X ρ := by
  refine wM_bind (wM_mono h fun x ρ1 h => ?_)
  obtain ⟨p, b, e1, e2, k⟩ := h
  exact wM_bind (wM_drf e1 (wM_opt (a := .dat (.bl b)) (by rw [e2]; rfl) k))
theorem w_isLT {a : M Rf} {K : Rf → E → Prop} (h : wM a (fun x ρ1 => ∃ p b, deref ρ1 (stl x) = some p ∧ isLT p = some b ∧ K (.dat (.bl b)) ρ1) X ρ) : wM (eIsLT a) K X ρ := by
  refine wM_bind (wM_mono h fun x ρ1 h => ?_)
  obtain ⟨p, b, e1, e2, k⟩ := h
  exact wM_bind (wM_drf e1 (wM_opt (a := .dat (.bl b)) (by rw [e2]; rfl) k))
theorem w_isOwn {c : Str} {a : M Rf} {K : Rf → E → Prop} (h : wM a (fun x ρ1 => ∃ p b, deref ρ1 (stl x) = some p ∧ isOwn c p = some b ∧ K (.dat (.bl b)) ρ1) X ρ) : wM (eIsOwn c a) K X ρ := by
  refine wM_bind (wM_mono h fun x ρ1 h => ?_)
  obtain ⟨p, b, e1, e2, k⟩ := h
  exact wM_bind (wM_drf e1 (wM_opt (a := .dat (.bl b)) (by rw [e2]; rfl) k))
theorem w_ss {a : M Rf} {K : Rf → E → Prop} (h : wM a (fun x ρ1 => ∃ p es, deref ρ1 (stl x) = some p ∧ fSSd p = some es ∧ K (.new es) ρ1) X ρ) : wM (eSS a) K X ρ := by
  refine wM_bind (wM_mono h fun x ρ1 h => ?_)
  obtain ⟨p, es, e1, e2, k⟩ := h
  exact wM_bind (wM_drf e1 (wM_opt (a := .new es) (by rw [e2]; rfl) k))
theorem w_fld {cs : List Str} {f : Str} {a : M Rf} {K : Rf → E → Prop} (h : wM a (fun x ρ1 => ∃ c ns ds v, deref ρ1 (stl x) = some (.ins c ns ds) ∧ cs.contains c = true ∧ (ns.zip ds).lookup f = some v ∧ K (.dat v) ρ1) X ρ) : wM (eFld cs f a) K X ρ := by
  refine wM_bind (wM_mono h fun x ρ1 h => ?_)
  obtain ⟨c, ns, ds, v, e1, e2, e3, k⟩ := h
  refine wM_bind (wM_drf e1 ?_)
  show wM (if _ then _ else _) K X ρ1
  rw [if_pos e2, e3]
  exact wM_of rfl k
/-- a call that comes back -/
theorem w_fnL {f : Fn} {md : List Bool} {xs : List Rf} {K : Rf → E → Prop} {as : List Ar} {n : Bool} {d : D} {cs : List Cell} (hf : f as = some (.ret n d cs))
    (h : ∃ is ρ2 ρ3 x, toArs md xs ρ = some (as, is, ρ2) ∧ putBack is cs ρ2 = some ρ3 ∧ rfOf n d = some x ∧ (is.filterMap id).Nodup ∧ K x ρ3) : wM (eFnL f md xs) K X ρ := by
  obtain ⟨is, ρ2, ρ3, x, h1, h2, h3, hn, k⟩ := h
  refine wM_of (a := x) (ρ1 := ρ3) ?_ k
  unfold eFnL
  rw [h1]
  simp only [hn, hf, h2, h3, if_true]
theorem w_fnLX {f : Fn} {md : List Bool} {xs : List Rf} {K : Rf → E → Prop} {as : List Ar} {cs : List Cell} {x : Ex} (hf : f as = some (.exc x cs))
    (h : ∃ is ρ2 ρ3, toArs md xs ρ = some (as, is, ρ2) ∧ putBack is cs ρ2 = some ρ3 ∧ (is.filterMap id).Nodup ∧ X x ρ3) : wM (eFnL f md xs) K X ρ := by
  obtain ⟨is, ρ2, ρ3, h1, h2, hn, k⟩ := h
  refine wM_ex (a := x) (ρ1 := ρ3) ?_ k
  unfold eFnL
  rw [h1]
  simp only [hn, hf, h2, if_true]
theorem w_fn {f : Fn} {md : List Bool} {ms : M (List Rf)} {K : Rf → E → Prop} (h : wM ms (fun xs => wM (eFnL f md xs) K X) X ρ) : wM (eFn f md ms) K X ρ := wM_bind h
theorem w_fnK {f : Fn} {md : List Bool} {n m : Nat} {perm : List Nat} {dds : List D} {ms mk_ : M (List Rf)} {K : Rf → E → Prop} (h : wM ms (fun xs => wM mk_ (fun zs ρ2 => (xs.length = n ∧ zs.length = m) ∧ wM (eFnL f md (pick perm (xs ++ zs ++ dds.map .dat))) K X ρ2) X) X ρ) : wM (eFnK f md n m perm dds ms mk_) K X ρ := by
  refine wM_bind (wM_mono h fun xs ρ1 h => wM_bind (wM_mono h fun zs ρ2 h => ?_))
  rw [if_pos h.1]
  exact h.2
theorem w_mkK {c : Str} {f : Fn} {n m : Nat} {perm : List Nat} {dds : List D} {ms mk_ : M (List Rf)} {K : Rf → E → Prop} (h : wM ms (fun xs => wM mk_ (fun zs ρ2 => (xs.length = n ∧ zs.length = m) ∧ ∃ ds ρ3, frzs (xs ++ zs) ρ2 = some (.ok ds ρ3) ∧
    ((∃ ns fs, f (.cel (.ins c [] []) :: (pick perm (ds ++ dds)).map .val) = some (.ret false .non [.ins c ns fs]) ∧ K (.dat (.ins c ns fs)) ρ3) ∨ ∃ x cs, f (.cel (.ins c [] []) :: (pick perm (ds ++ dds)).map .val) = some (.exc x cs) ∧ X x ρ3)) X) X ρ) : wM (eMkK c f n m perm dds ms mk_) K X ρ := by
  refine wM_bind (wM_mono h fun xs ρ1 h => wM_bind (wM_mono h fun zs ρ2 h => ?_))
  obtain ⟨l, ds, ρ3, e1, h⟩ := h
  rw [if_pos l]
  refine wM_bind (wM_of e1 ?_)
  rcases h with ⟨ns, fs, e2, k⟩ | ⟨x, cs, e2, k⟩
  · refine wM_of (a := .dat (.ins c ns fs)) (ρ1 := ρ3) ?_ k
    simp only [e2, if_true]
  · refine wM_ex (a := x) (ρ1 := ρ3) ?_ k
    simp only [e2]
theorem w_meth {c0 m : Str} {f : Fn} {md : List Bool} {a : M Rf} {ms : M (List Rf)} {K : Rf → E → Prop} (h : wM a (fun x ρ1 => ∃ ns ds, deref ρ1 (stl x) = some (.ins c0 ns ds) ∧ ns.contains m = false ∧ wM ms (fun xs => wM (eFnL f md (stl x :: xs)) K X) X ρ1) X ρ) : wM (eMeth c0 m f md a ms) K X ρ := by
  refine wM_bind (wM_mono h fun x ρ1 h => ?_)
  obtain ⟨ns, ds, e1, e2, k⟩ := h
  have := wM_bind k
  unfold wM at this ⊢
  simp only [e1, e2, and_self, if_true]
  exact this
/-- a comprehension -/
theorem w_comp {mi : M (List D)} {t : Tg} {tt : M Bool} {el : M Rf} {vs : List Nat} {K : Rf → E → Prop} (h : wM mi (fun ds ρ1 => ∃ es ρ2, okSlots ρ1 vs = true ∧ compL t tt el vs ds (wipeE ρ1 vs) = some (es, ρ2) ∧ es.length ≤ 1000 ∧ K (.new es) ρ2) X ρ) : wM (eComp mi t tt el vs) K X ρ := by
  refine wM_bind (wM_mono h fun ds ρ1 h => ?_)
  obtain ⟨es, ρ2, o, e, l, k⟩ := h
  refine wM_of (a := .new es) (ρ1 := ρ2) ?_ k
  show (if okSlots ρ1 vs = true then _ else _) = _
  rw [if_pos o, e]
  show (if es.length ≤ sizeLine then _ else _) = _
  rw [if_pos (szOk l)]
theorem w_true {K : Bool → E → Prop} (h : K true ρ) : wM tTrue K X ρ := wM_of rfl h
/-- what a comprehension makes: item by item, the slots as they were -/
theorem comp_all {t : Tg} {tt : M Bool} {el : M Rf} {vs : List Nat} {f : D → Option D} : ∀ ds : List D, (∀ d ∈ ds, ∃ ρ1, t (.dat d) ρ = some ρ1 ∧ wM tt (fun c ρ2 => if c = true then wM el (fun x ρ3 => ∃ e ρ4, frz (stl x) ρ3 = some (.ok e ρ4) ∧ okSlots ρ4 vs = true ∧ wipeE ρ4 vs = ρ ∧ f d = some e) noX ρ2
    else okSlots ρ2 vs = true ∧ wipeE ρ2 vs = ρ ∧ f d = none) noX ρ1) → compL t tt el vs ds ρ = some (ds.filterMap f, ρ)
  | [], _ => rfl
  | d :: ds, h => by
    obtain ⟨ρ1, e1, h1⟩ := h d (List.mem_cons_self ..)
    have ih := comp_all ds fun d hd => h d (List.mem_cons_of_mem _ hd)
    obtain ⟨c, ρ2, e2, h2⟩ := wM_ok h1
    unfold compL
    rw [e1]
    simp only [e2]
    cases c with
    | true =>
      obtain ⟨x, ρ3, e3, e, ρ4, e4, o, wi, ef⟩ := wM_ok (show wM el _ noX ρ2 from h2)
      simp only [e3, e4, o, if_true, wi, ih, List.filterMap_cons, ef]
    | false =>
      obtain ⟨o, wi, ef⟩ := h2
      simp only [o, if_true, wi, ih, List.filterMap_cons, ef]
/-- the items of xs that p holds of, each by f -/
theorem comp_flt {γ : Type} {t : Tg} {tt : M Bool} {el : M Rf} {vs : List Nat} (g f : γ → D) (p : γ → Bool) : ∀ xs : List γ, (∀ x ∈ xs, ∃ ρ1, t (.dat (g x)) ρ = some ρ1 ∧ wM tt (fun c ρ2 => c = p x ∧ if p x = true then wM el (fun y ρ3 => ∃ ρ4, frz (stl y) ρ3 = some (.ok (f x) ρ4) ∧ okSlots ρ4 vs = true ∧ wipeE ρ4 vs = ρ) noX ρ2
    else okSlots ρ2 vs = true ∧ wipeE ρ2 vs = ρ) noX ρ1) → compL t tt el vs (xs.map g) ρ = some ((xs.filter p).map f, ρ)
  | [], _ => rfl
  | x :: xs, h => by
    obtain ⟨ρ1, e1, h1⟩ := h x (List.mem_cons_self ..)
    have ih := comp_flt g f p xs fun d hd => h d (List.mem_cons_of_mem _ hd)
    obtain ⟨c, ρ2, e2, ec, h2⟩ := wM_ok h1
    rw [List.map_cons]
    unfold compL
    rw [e1]
    simp only [e2]
    rw [List.filter_cons, ← ec]
    rw [← ec] at h2
    cases c with
    | true =>
      obtain ⟨y, ρ3, e3, ρ4, e4, o, wi⟩ := wM_ok (show wM el _ noX ρ2 from h2)
      simp only [e3, e4, o, if_true, wi, ih, List.map_cons]
    | false =>
      obtain ⟨o, wi⟩ := h2
      simp only [o, if_true, wi, ih]
      rfl
/-- all items of xs, each by f -/
theorem comp_map {γ : Type} {t : Tg} {el : M Rf} {vs : List Nat} (g f : γ → D) (xs : List γ) (h : ∀ x ∈ xs, ∃ ρ1, t (.dat (g x)) ρ = some ρ1 ∧ wM el (fun y ρ3 => ∃ ρ4, frz (stl y) ρ3 = some (.ok (f x) ρ4) ∧ okSlots ρ4 vs = true ∧ wipeE ρ4 vs = ρ) noX ρ1) :
    compL t tTrue el vs (xs.map g) ρ = some (xs.map f, ρ) := by
  have := comp_flt (ρ := ρ) (t := t) (tt := tTrue) (el := el) (vs := vs) g f (fun _ => true) xs fun x hx => by
    obtain ⟨ρ1, e, k⟩ := h x hx
    exact ⟨ρ1, e, wM_of rfl ⟨rfl, k⟩⟩
  rw [this, List.filter_eq_self.mpr fun _ _ => rfl]
/-- what a comprehension makes where the slots change from turn to turn -/
theorem comp_inv {t : Tg} {tt : M Bool} {el : M Rf} {vs : List Nat} (I : Nat → List D → E → Prop) : ∀ (ds : List D) (i : Nat) (acc : List D) (ρ : E), I i acc ρ → (∀ (j : Nat) d acc ρ, ds[j]? = some d → I (i + j) acc ρ → ∃ ρ1, t (.dat d) ρ = some ρ1 ∧ wM tt (fun c ρ2 => if c = true then wM el (fun x ρ3 => ∃ e ρ4, frz (stl x) ρ3 = some (.ok e ρ4) ∧ okSlots ρ4 vs = true ∧ I (i + j + 1) (acc ++ [e]) (wipeE ρ4 vs)) noX ρ2
    else okSlots ρ2 vs = true ∧ I (i + j + 1) acc (wipeE ρ2 vs)) noX ρ1) → ∃ es ρ', compL t tt el vs ds ρ = some (es, ρ') ∧ I (i + ds.length) (acc ++ es) ρ'
  | [], i, acc, ρ, h0, _ => ⟨[], ρ, rfl, by rw [List.append_nil]; exact h0⟩
  | d :: ds, i, acc, ρ, h0, h => by
    obtain ⟨ρ1, e1, h1⟩ := h 0 d acc ρ rfl h0
    obtain ⟨c, ρ2, e2, h2⟩ := wM_ok h1
    have next : ∀ acc' ρ', I (i + 0 + 1) acc' ρ' → ∃ es ρ'', compL t tt el vs ds ρ' = some (es, ρ'') ∧ I (i + (ds.length + 1)) (acc' ++ es) ρ'' := fun acc' ρ' h' => by
      obtain ⟨es, ρ'', a, b⟩ := comp_inv I ds (i + 1) acc' ρ' (by simpa using h') (fun j d acc ρ hd hi => by
        have := h (j + 1) d acc ρ (by simpa using hd) (by rw [show i + (j + 1) = i + 1 + j by omega]; exact hi)
        rw [show i + (j + 1) + 1 = i + 1 + j + 1 by omega] at this
        exact this)
      exact ⟨es, ρ'', a, by rw [show i + (ds.length + 1) = i + 1 + ds.length by omega]; exact b⟩
    cases c with
    | true =>
      obtain ⟨x, ρ3, e3, e, ρ4, e4, o, wi⟩ := wM_ok (show wM el _ noX ρ2 from h2)
      obtain ⟨es, ρ', a, b⟩ := next _ _ wi
      refine ⟨e :: es, ρ', ?_, by rw [List.append_assoc] at b; exact b⟩
      unfold compL
      rw [e1]
      simp only [e2, e3, e4, o, if_true, a]
    | false =>
      obtain ⟨o, wi⟩ := h2
      obtain ⟨es, ρ', a, b⟩ := next _ _ wi
      refine ⟨es, ρ', ?_, b⟩
      unfold compL
      rw [e1]
      simp only [e2, o, if_true, a]
/-! what is walked -/
theorem w_seq {a : M Rf} {K : List D → E → Prop} (h : wM a (fun x ρ1 => ∃ d ρ2 ds, frz (stl x) ρ1 = some (.ok d ρ2) ∧ seqOf d = some ds ∧ K ds ρ2) X ρ) : wM (iSeq a) K X ρ := by
  refine wM_bind (wM_mono h fun x ρ1 h => ?_)
  obtain ⟨d, ρ2, ds, e1, e2, k⟩ := h
  exact wM_bind (wM_of e1 (wM_opt e2 k))
theorem w_en {a : M Rf} {K : List D → E → Prop} (h : wM a (fun x ρ1 => ∃ d ρ2 ds, frz (stl x) ρ1 = some (.ok d ρ2) ∧ seqOf d = some ds ∧ K (numbered ds) ρ2) X ρ) : wM (iEn a) K X ρ := by
  refine wM_bind (wM_mono h fun x ρ1 h => ?_)
  obtain ⟨d, ρ2, ds, e1, e2, k⟩ := h
  exact wM_bind (wM_of e1 (wM_opt (a := numbered ds) (by rw [e2]; rfl) k))
theorem w_rg1 {ms : M (List Rf)} {K : List D → E → Prop} (h : wM ms (fun xs ρ1 => ∃ i, derefs ρ1 xs = some [.int i] ∧ (-1000 ≤ i ∧ i ≤ 1000) ∧ K (rangeD 0 i.toNat) ρ1) X ρ) : wM (iRg1 ms) K X ρ := by
  refine wM_bind (wM_mono h fun x ρ1 h => ?_)
  obtain ⟨i, e1, l, k⟩ := h
  refine wM_bind (wM_drfs e1 (wM_opt (a := rangeD 0 i.toNat) ?_ k))
  show (if small62 i = true then _ else _) = _
  rw [if_pos (show small62 i = true from decide_eq_true (by omega))]
theorem w_rg2 {ms : M (List Rf)} {K : List D → E → Prop} (h : wM ms (fun xs ρ1 => ∃ i j, derefs ρ1 xs = some [.int i, .int j] ∧ (-1000 ≤ i ∧ i ≤ 1000 ∧ -1000 ≤ j ∧ j ≤ 1000) ∧ K (rangeD i (j - i).toNat) ρ1) X ρ) : wM (iRg2 ms) K X ρ := by
  refine wM_bind (wM_mono h fun x ρ1 h => ?_)
  obtain ⟨i, j, e1, l, k⟩ := h
  refine wM_bind (wM_drfs e1 (wM_opt (a := rangeD i (j - i).toNat) ?_ k))
  show (if small62 i = true ∧ small62 j = true then _ else _) = _
  rw [if_pos ⟨show small62 i = true from decide_eq_true (by omega), show small62 j = true from decide_eq_true (by omega)⟩]
/-! statements -/
theorem wS_inv {m : S} (h : wS m N T B C X ρ) : (∃ ρ', m ρ = some (.nx ρ') ∧ N ρ') ∨ (∃ x ρ', m ρ = some (.rt x ρ') ∧ T x ρ') ∨ (∃ ρ', m ρ = some (.bk ρ') ∧ B ρ') ∨ (∃ ρ', m ρ = some (.ct ρ') ∧ C ρ') ∨ ∃ x ρ', m ρ = some (.ex x ρ') ∧ X x ρ' := by
  unfold wS at h
  split at h <;> rename_i e
  · exact .inl ⟨_, e, h⟩
  · exact .inr (.inl ⟨_, _, e, h⟩)
  · exact .inr (.inr (.inl ⟨_, e, h⟩))
  · exact .inr (.inr (.inr (.inl ⟨_, e, h⟩)))
  · exact .inr (.inr (.inr (.inr ⟨_, _, e, h⟩)))
  · exact h.elim
theorem wM_inv {m : M α} {K : α → E → Prop} (h : wM m K X ρ) : (∃ a ρ', m ρ = some (.ok a ρ') ∧ K a ρ') ∨ ∃ x ρ', m ρ = some (.ex x ρ') ∧ X x ρ' := by
  unfold wM at h
  split at h <;> rename_i e
  · exact .inl ⟨_, _, e, h⟩
  · exact .inr ⟨_, _, e, h⟩
  · exact h.elim
theorem wS_nx {m : S} (e : m ρ = some (.nx ρ1)) (h : N ρ1) : wS m N T B C X ρ := by
  unfold wS
  rw [e]
  exact h
theorem wS_rt {m : S} {x : Rf} (e : m ρ = some (.rt x ρ1)) (h : T x ρ1) : wS m N T B C X ρ := by
  unfold wS
  rw [e]
  exact h
theorem wS_bk {m : S} (e : m ρ = some (.bk ρ1)) (h : B ρ1) : wS m N T B C X ρ := by
  unfold wS
  rw [e]
  exact h
theorem wS_ct {m : S} (e : m ρ = some (.ct ρ1)) (h : C ρ1) : wS m N T B C X ρ := by
  unfold wS
  rw [e]
  exact h
theorem wS_ex {m : S} {x : Ex} (e : m ρ = some (.ex x ρ1)) (h : X x ρ1) : wS m N T B C X ρ := by
  unfold wS
  rw [e]
  exact h
theorem wS_lift {m : M α} {k : α → S} (h : wM m (fun a => wS (k a) N T B C X) X ρ) : wS (liftS m k) N T B C X ρ := by
  rcases wM_inv h with ⟨a, ρ', e, h⟩ | ⟨x, ρ', e, h⟩
  · exact wS_eq (m' := k a) (ρ1 := ρ') (liftS_ok e) h
  · exact wS_ex (liftS_ex e) h
theorem ws_nx (h : N ρ) : wS sNx N T B C X ρ := wS_nx rfl h
theorem ws_bk (h : B ρ) : wS sBk N T B C X ρ := wS_bk rfl h
theorem ws_ct (h : C ρ) : wS sCt N T B C X ρ := wS_ct rfl h
theorem ws_retN (h : T (.dat .non) ρ) : wS sRetN N T B C X ρ := wS_rt rfl h
theorem ws_seq {a b : S} (h : wS a (fun ρ1 => wS b N T B C X ρ1) T B C X ρ) : wS (sSeq a b) N T B C X ρ := by
  rcases wS_inv h with ⟨ρ', e, h⟩ | ⟨x, ρ', e, h⟩ | ⟨ρ', e, h⟩ | ⟨ρ', e, h⟩ | ⟨x, ρ', e, h⟩
  · refine wS_eq (m' := b) (ρ1 := ρ') ?_ h
    unfold sSeq
    rw [e]
  · exact wS_rt (ρ1 := ρ') (x := x) (by unfold sSeq; rw [e]) h
  · exact wS_bk (ρ1 := ρ') (by unfold sSeq; rw [e]) h
  · exact wS_ct (ρ1 := ρ') (by unfold sSeq; rw [e]) h
  · exact wS_ex (ρ1 := ρ') (x := x) (by unfold sSeq; rw [e]) h
theorem ws_expr {a : M Rf} (h : wM a (fun _ ρ1 => N ρ1) X ρ) : wS (sExpr a) N T B C X ρ := wS_lift (wM_mono h fun x ρ1 h => wS_nx rfl h)
theorem ws_ret {a : M Rf} (h : wM a (fun x ρ1 => T x ρ1) X ρ) : wS (sRet a) N T B C X ρ := wS_lift (wM_mono h fun x ρ1 h => wS_rt rfl h)
theorem ws_if {t : M Bool} {a b : S} (h : wM t (fun c ρ1 => if c = true then wS a N T B C X ρ1 else wS b N T B C X ρ1) X ρ) : wS (sIf t a b) N T B C X ρ := wS_lift (wM_mono h fun c ρ1 h => by cases c <;> exact h)
theorem ws_asg {a : M Rf} {t : Tg} (h : wM a (fun x ρ1 => ∃ ρ2, t x ρ1 = some ρ2 ∧ N ρ2) X ρ) : wS (sAsg a t) N T B C X ρ := wS_lift (wM_mono h fun x ρ1 h => by
  obtain ⟨ρ2, e, k⟩ := h
  refine wS_nx (ρ1 := ρ2) ?_ k
  simp only [e])
theorem ws_sub {a o i : M Rf} (h : wM a (fun v ρ1 => ∃ d ρ2, frz (stl v) ρ1 = some (.ok d ρ2) ∧ wM o (fun w => wM i (fun z ρ3 => ∃ j k p ds q, stl w = .cel j ∧ deref ρ3 (stl z) = some (.int k) ∧ ρ3[j]? = some (.cel p (.lst ds)) ∧ L2.ixN ds.length k = some q ∧ N (ρ3.set j (.cel p (.lst (ds.set q d))))) X) X ρ2) X ρ) : wS (sSub a o i) N T B C X ρ := by
  refine wS_lift (wM_mono h fun v ρ1 h => ?_)
  obtain ⟨d, ρ2, e1, h⟩ := h
  refine wS_lift (wM_of e1 (wS_lift (wM_mono h fun w ρ3 h => wS_lift (wM_mono h fun z ρ4 h => ?_))))
  obtain ⟨j, k, p, ds, q, e2, e3, e4, e5, n⟩ := h
  refine wS_lift (wM_drf e3 ?_)
  unfold wS
  simp only [e2, e4, e5]
  exact n
theorem ws_fld {cs : List Str} {i : Nat} {f : Str} {a : M Rf} (h : wM a (fun v ρ1 => ∃ d ρ2 p c ns ds, frz (stl v) ρ1 = some (.ok d ρ2) ∧ ρ2[i]? = some (.cel p (.ins c ns ds)) ∧ (cs.contains c = true ∧ ns.length < 1000) ∧ N (ρ2.set i (.cel p (.ins c (putD f d ns ds).1 (putD f d ns ds).2)))) X ρ) : wS (sFldS cs i f a) N T B C X ρ := by
  refine wS_lift (wM_mono h fun v ρ1 h => ?_)
  obtain ⟨d, ρ2, p, c, ns, ds, e1, e2, e3, n⟩ := h
  refine wS_lift (wM_of e1 ?_)
  unfold wS
  simp only [e2, e3, and_self, if_true]
  exact n
theorem ws_raise {c : Str} {ns : List Str} {ms : M (List Rf)} (h : wM ms (fun xs ρ1 => ∃ ds ρ2, frzs xs ρ1 = some (.ok ds ρ2) ∧ ds.length = ns.length ∧ X ⟨c, ns, ds⟩ ρ2) X ρ) : wS (sRaise c ns ms) N T B C X ρ := by
  refine wS_lift (wM_mono h fun v ρ1 h => ?_)
  obtain ⟨ds, ρ2, e1, e2, x⟩ := h
  refine wS_lift (wM_of e1 ?_)
  unfold wS
  simp only [e2, if_true]
  exact x
theorem ws_raise2 {c f g : Str} {ms : M (List Rf)} (h : wM ms (fun xs ρ1 => ∃ y z ρ2, frzs xs ρ1 = some (.ok [y, z] ρ2) ∧ X ⟨c, [g, f], [z, y]⟩ ρ2) X ρ) : wS (sRaise2 c f g ms) N T B C X ρ := by
  refine wS_lift (wM_mono h fun v ρ1 h => ?_)
  obtain ⟨y, z, ρ2, e1, x⟩ := h
  exact wS_lift (wM_of e1 (wS_ex rfl x))
theorem ws_for {mi : M (List D)} {t : Tg} {b : S} (h : wM mi (fun ds => wS (forL t b ds) N T B C X) X ρ) : wS (sFor mi t b) N T B C X ρ := wS_lift h
theorem ws_mono {m : S} {N' B' C' : E → Prop} {T' : Rf → E → Prop} {X' : Ex → E → Prop} (h : wS m N' T' B' C' X' ρ) (hN : ∀ ρ, N' ρ → N ρ) (hT : ∀ x ρ, T' x ρ → T x ρ) (hB : ∀ ρ, B' ρ → B ρ) (hC : ∀ ρ, C' ρ → C ρ) (hX : ∀ x ρ, X' x ρ → X x ρ) : wS m N T B C X ρ := by
  unfold wS at h ⊢
  split <;> rename_i e <;> rw [e] at h
  · exact hN _ h
  · exact hT _ _ h
  · exact hB _ h
  · exact hC _ h
  · exact hX _ _ h
  · exact h
/-- a for loop by what holds between its turns -/
theorem ws_forL {t : Tg} {b : S} (I : Nat → E → Prop) : ∀ (ds : List D) (i : Nat) (ρ : E), I i ρ → (∀ (j : Nat) d ρ, ds[j]? = some d → I (i + j) ρ → ∃ ρ1, t (.dat d) ρ = some ρ1 ∧ wS b (I (i + j + 1)) T N (I (i + j + 1)) X ρ1) → (∀ ρ, I (i + ds.length) ρ → N ρ) → wS (forL t b ds) N T B C X ρ
  | [], i, ρ, h0, _, hn => wS_nx rfl (hn ρ h0)
  | d :: ds, i, ρ, h0, h, hn => by
    obtain ⟨ρ1, e1, h1⟩ := h 0 d ρ rfl h0
    have ih : ∀ ρ2, I (i + 0 + 1) ρ2 → wS (forL t b ds) N T B C X ρ2 := fun ρ2 h2 => ws_forL I ds (i + 1) ρ2 (by simpa using h2) (fun j d ρ hd hi => by
        have := h (j + 1) d ρ (by simpa using hd) (by rw [show i + (j + 1) = i + 1 + j by omega]; exact hi)
        rw [show i + (j + 1) + 1 = i + 1 + j + 1 by omega] at this
        exact this) fun ρ hi => hn ρ (by rw [List.length_cons, show i + (ds.length + 1) = i + 1 + ds.length by omega]; exact hi)
    have un : forL t b (d :: ds) ρ = (match b ρ1 with
            | none => none
            | some (.nx ρ') => forL t b ds ρ'
            | some (.ct ρ') => forL t b ds ρ'
            | some (.bk ρ') => some (.nx ρ')
            | some o => some o) := by
      show (match t (.dat d) ρ with
          | none => none
          | some ρ1 => match b ρ1 with
            | none => none
            | some (.nx ρ') => forL t b ds ρ'
            | some (.ct ρ') => forL t b ds ρ'
            | some (.bk ρ') => some (.nx ρ')
            | some o => some o) = _
      rw [e1]
    rcases wS_inv h1 with ⟨ρ', e, h⟩ | ⟨x, ρ', e, h⟩ | ⟨ρ', e, h⟩ | ⟨ρ', e, h⟩ | ⟨x, ρ', e, h⟩
    · exact wS_eq (m' := forL t b ds) (ρ1 := ρ') (by rw [un, e]) (ih ρ' h)
    · exact wS_rt (ρ1 := ρ') (x := x) (by rw [un, e]) h
    · exact wS_nx (ρ1 := ρ') (by rw [un, e]) h
    · exact wS_eq (m' := forL t b ds) (ρ1 := ρ') (by rw [un, e]) (ih ρ' h)
    · exact wS_ex (ρ1 := ρ') (x := x) (by rw [un, e]) h
/-- steps one behind another, till one fails -/
def walkL {α γ : Type} (step : α → γ → Option α) : List γ → α → Option α
  | [], s => some s
  | x :: xs, s => match step s x with
    | some s' => walkL step xs s'
    | none => none
/-- a for loop that does steps; where one fails, it returns -/
theorem ws_walk {α γ : Type} {t : Tg} {b : S} (g : γ → D) (step : α → γ → Option α) (I : Nat → α → E → Prop) (Tn : Rf → E → Prop) : ∀ (xs : List γ) (i : Nat) (s : α) (ρ : E), I i s ρ →
    (∀ (j : Nat) x, xs[j]? = some x → ∀ s ρ, I (i + j) s ρ → ∃ ρ1, t (.dat (g x)) ρ = some ρ1 ∧ wS b (fun ρ2 => ∃ s', step s x = some s' ∧ I (i + j + 1) s' ρ2) (fun y ρ2 => step s x = none ∧ Tn y ρ2) noE noE noX ρ1) →
    (∀ s' ρ, walkL step xs s = some s' → I (i + xs.length) s' ρ → N ρ) → (∀ y ρ, walkL step xs s = none → Tn y ρ → T y ρ) → wS (forL t b (xs.map g)) N T B C X ρ
  | [], i, s, ρ, h0, _, hn, _ => wS_nx rfl (hn s ρ rfl h0)
  | x :: xs, i, s, ρ, h0, h, hn, ht => by
    obtain ⟨ρ1, e1, h1⟩ := h 0 x rfl s ρ h0
    have un : forL t b ((x :: xs).map g) ρ = (match b ρ1 with
            | none => none
            | some (.nx ρ') => forL t b (xs.map g) ρ'
            | some (.ct ρ') => forL t b (xs.map g) ρ'
            | some (.bk ρ') => some (.nx ρ')
            | some o => some o) := by
      show (match t (.dat (g x)) ρ with
          | none => none
          | some ρ1 => match b ρ1 with
            | none => none
            | some (.nx ρ') => forL t b (xs.map g) ρ'
            | some (.ct ρ') => forL t b (xs.map g) ρ'
            | some (.bk ρ') => some (.nx ρ')
            | some o => some o) = _
      rw [e1]
    rcases wS_inv h1 with ⟨ρ', e, s', es, k⟩ | ⟨y, ρ', e, es, ty⟩ | ⟨ρ', e, k⟩ | ⟨ρ', e, k⟩ | ⟨y, ρ', e, k⟩
    · refine wS_eq (m' := forL t b (xs.map g)) (ρ1 := ρ') (by rw [un, e]) (ws_walk g step I Tn xs (i + 1) s' ρ' (by simpa using k) (fun j x hx s ρ hi => ?_) (fun s'' ρ hw hi => hn s'' ρ ?_ ?_) fun y ρ hw => ht y ρ ?_)
      · have := h (j + 1) x (by simpa using hx) s ρ (by rw [show i + (j + 1) = i + 1 + j by omega]; exact hi)
        rw [show i + (j + 1) + 1 = i + 1 + j + 1 by omega] at this
        exact this
      · unfold walkL
        rw [es]
        exact hw
      · rw [List.length_cons, show i + (xs.length + 1) = i + 1 + xs.length by omega]
        exact hi
      · unfold walkL
        rw [es]
        exact hw
    · refine wS_rt (ρ1 := ρ') (x := y) (by rw [un, e]) (ht y ρ' ?_ ty)
      unfold walkL
      rw [es]
    · exact k.elim
    · exact k.elim
    · exact k.elim
/-- a while loop by what holds between its turns and a measure -/
theorem ws_while {t : M Bool} {b : S} (I : Nat → E → Prop) : ∀ (n k : Nat) (ρ : E), I k ρ → k < n → (∀ k ρ, I k ρ → wM t (fun c ρ1 => if c = true then wS b (fun ρ2 => ∃ j, j < k ∧ I j ρ2) T N (fun ρ2 => ∃ j, j < k ∧ I j ρ2) X ρ1 else N ρ1) X ρ) → wS (whileN t b n) N T B C X ρ
  | 0, k, ρ, _, hk, _ => absurd hk (Nat.not_lt_zero _)
  | n + 1, k, ρ, h0, hk, h => by
    refine wS_lift (wM_mono (h k ρ h0) fun c ρ1 h1 => ?_)
    cases c with
    | false => exact wS_nx (ρ1 := ρ1) rfl h1
    | true =>
      have h1 : wS b (fun ρ2 => ∃ j, j < k ∧ I j ρ2) T N (fun ρ2 => ∃ j, j < k ∧ I j ρ2) X ρ1 := h1
      have ih : ∀ ρ2, (∃ j, j < k ∧ I j ρ2) → wS (whileN t b n) N T B C X ρ2 := fun ρ2 ⟨j, hj, hi⟩ => ws_while I n j ρ2 hi (by omega) h
      rw [if_pos rfl]
      rcases wS_inv h1 with ⟨ρ', e, h⟩ | ⟨x, ρ', e, h⟩ | ⟨ρ', e, h⟩ | ⟨ρ', e, h⟩ | ⟨x, ρ', e, h⟩
      · exact wS_eq (m' := whileN t b n) (ρ1 := ρ') (by simp only [e]) (ih ρ' h)
      · exact wS_rt (ρ1 := ρ') (x := x) (by simp only [e]) h
      · exact wS_nx (ρ1 := ρ') (by simp only [e]) h
      · exact wS_eq (m' := whileN t b n) (ρ1 := ρ') (by simp only [e]) (ih ρ' h)
      · exact wS_ex (ρ1 := ρ') (x := x) (by simp only [e]) h
theorem ite_T {c : Bool} {P Q : Prop} (e : c = true) (h : P) : if c = true then P else Q := by
  subst e
  exact h
theorem ite_F {c : Bool} {P Q : Prop} (e : c = false) (h : Q) : if c = true then P else Q := by
  subst e
  exact h
theorem ite_B {c : Bool} {P Q : Prop} (h : c = true → P) (k : c = false → Q) : if c = true then P else Q := by
  cases c
  · exact k rfl
  · exact h rfl
/-! try -/
theorem ws_try {b : S} {hs : List Hz} (h : wS b N T B C (fun x ρ1 => wS (hGo hs x) N T B C X ρ1) ρ) : wS (sTry b hs) N T B C X ρ := by
  rcases wS_inv h with ⟨ρ', e, h⟩ | ⟨x, ρ', e, h⟩ | ⟨ρ', e, h⟩ | ⟨ρ', e, h⟩ | ⟨x, ρ', e, h⟩
  · exact wS_nx (ρ1 := ρ') (by unfold sTry; rw [e]) h
  · exact wS_rt (ρ1 := ρ') (x := x) (by unfold sTry; rw [e]) h
  · exact wS_bk (ρ1 := ρ') (by unfold sTry; rw [e]) h
  · exact wS_ct (ρ1 := ρ') (by unfold sTry; rw [e]) h
  · exact wS_eq (m' := hGo hs x) (ρ1 := ρ') (by unfold sTry; rw [e]) h
theorem hgo_skip {t : List (Str × Bool)} {i : Option Nat} {s : S} {r : List Hz} {x : Ex} (e : t.lookup x.c = some false) (h : wS (hGo r x) N T B C X ρ) : wS (hGo ((t, i, s) :: r) x) N T B C X ρ := by
  refine wS_eq (m' := hGo r x) (ρ1 := ρ) ?_ h
  show (match t.lookup x.c with | none => none | some false => hGo r x ρ | some true => _) = _
  rw [e]
theorem hgo_plain {t : List (Str × Bool)} {s : S} {r : List Hz} {x : Ex} (e : t.lookup x.c = some true) (h : wS s N T B C noX ρ) : wS (hGo ((t, none, s) :: r) x) N T B C X ρ := by
  have q : hGo ((t, none, s) :: r) x ρ = offP (s ρ) := by
    show (match t.lookup x.c with | none => none | some false => hGo r x ρ | some true => _) = _
    rw [e]
  rcases wS_inv h with ⟨ρ', e, h⟩ | ⟨x, ρ', e, h⟩ | ⟨ρ', e, h⟩ | ⟨ρ', e, h⟩ | ⟨x, ρ', e, h⟩
  · exact wS_nx (ρ1 := ρ') (by rw [q, e]; rfl) h
  · exact wS_rt (ρ1 := ρ') (x := x) (by rw [q, e]; rfl) h
  · exact wS_bk (ρ1 := ρ') (by rw [q, e]; rfl) h
  · exact wS_ct (ρ1 := ρ') (by rw [q, e]; rfl) h
  · exact h.elim
/-- a named suite that runs through -/
theorem hgo_named {t : List (Str × Bool)} {i : Nat} {s : S} {r : List Hz} {x : Ex} (e : t.lookup x.c = some true) (o : okSlot ρ i = true) (h : wS s (fun ρ1 => (okSlot ρ1 i = true ∧ noErr (ρ1.set i .no) = true) ∧ N (ρ1.set i .no)) (fun y ρ1 => (okSlot ρ1 i = true ∧ noErr (ρ1.set i .no) = true ∧ notCel i y = true) ∧ T y (ρ1.set i .no)) noE noE noX (ρ.set i (.err x))) : wS (hGo ((t, some i, s) :: r) x) N T B C X ρ := by
  have q : hGo ((t, some i, s) :: r) x ρ = offO i (s (ρ.set i (.err x))) := by
    show (match t.lookup x.c with | none => none | some false => hGo r x ρ | some true => _) = _
    rw [e]
    simp only [o, if_true]
  rcases wS_inv h with ⟨ρ', e, c, h⟩ | ⟨y, ρ', e, c, h⟩ | ⟨ρ', e, h⟩ | ⟨ρ', e, h⟩ | ⟨x, ρ', e, h⟩
  · refine wS_nx (ρ1 := ρ'.set i .no) ?_ h
    rw [q, e]
    simp only [offO, c, and_self, if_true]
  · refine wS_rt (ρ1 := ρ'.set i .no) (x := y) ?_ h
    rw [q, e]
    simp only [offO, c, and_self, if_true]
  · exact h.elim
  · exact h.elim
  · exact h.elim
theorem w_xf {i : Nat} {c f : Str} {x : Ex} {d : D} {K : Rf → E → Prop} (e : ρ[i]? = some (.err x)) (ec : (x.c == c) = true) (el : (x.ns.zip x.ds).lookup f = some d) (k : K (.dat d) ρ) : wM (eXf i c f) K X ρ := by
  refine wM_of (a := .dat d) (ρ1 := ρ) ?_ k
  unfold eXf
  simp only [e, ec, el, if_true]
/-! values held side by side -/
theorem w_pnil {K : List Rf → E → Prop} (h : K [] ρ) : wM pNil K X ρ := wM_of rfl h
/-- after x is made: x' is what is kept of it -/
theorem w_pcons {a : M Rf} {ms : M (List Rf)} {K : List Rf → E → Prop} (h : wM a (fun x ρ1 => ∃ x' ρ2, stk x ρ1 = some (.ok x' ρ2) ∧ wM ms (fun xs => K (x' :: xs)) X ρ2) X ρ) : wM (pCons a ms) K X ρ := by
  refine wM_bind (wM_mono h fun x ρ1 h => ?_)
  obtain ⟨x', ρ2, e, h⟩ := h
  exact wM_bind (wM_of e (wM_bind (wM_mono h fun xs ρ3 h => wM_of rfl h)))
theorem ws_par {is : List Nat} {ms : M (List Rf)} (h : wM ms (fun xs ρ1 => ∃ ρ2, putHs is xs ρ1 = some ρ2 ∧ N ρ2) X ρ) : wS (sPar is ms) N T B C X ρ := wS_lift (wM_mono h fun xs ρ1 h => by
  obtain ⟨ρ2, e, k⟩ := h
  refine wS_nx (ρ1 := ρ2) ?_ k
  simp only [e])
/-! a def's end -/
theorem fn_rt {np k : Nat} {m : S} {as : List Ar} {c : Bool} {d : D} {cs : List Cell} (ρ0 : E) (h : wS m (fun ρ => c = false ∧ d = .non ∧ outs as ρ = some cs) (fun x ρ => retOf ρ x = some (c, d) ∧ outs as ρ = some cs) noE noE noX ρ0) (he : entry k as = ρ0 := by rfl) (hl : as.length = np := by rfl) : bodyF np k m as = some (.ret c d cs) := by
  subst he
  unfold bodyF
  rw [if_pos hl]
  unfold wS at h
  split at h <;> rename_i e <;> rw [e]
  · obtain ⟨rfl, rfl, o⟩ := h
    simp only [o]
    rfl
  · obtain ⟨r, o⟩ := h
    simp only [r, o]
  · exact h.elim
  · exact h.elim
  · exact h.elim
  · exact h.elim
theorem fn_ex {np k : Nat} {m : S} {as : List Ar} {x : Ex} {cs : List Cell} (ρ0 : E) (h : wS m noE (fun _ => noE) noE noE (fun y ρ => y = x ∧ outs as ρ = some cs) ρ0) (he : entry k as = ρ0 := by rfl) (hl : as.length = np := by rfl) : bodyF np k m as = some (.exc x cs) := by
  subst he
  unfold bodyF
  rw [if_pos hl]
  unfold wS at h
  split at h <;> rename_i e <;> rw [e]
  · exact h.elim
  · exact h.elim
  · exact h.elim
  · exact h.elim
  · obtain ⟨rfl, o⟩ := h
    simp only [o]
    rfl
  · exact h.elim
/-- where the end is said by what is true of it -/
theorem fn_any {np k : Nat} {m : S} {as : List Ar} {Q : FR → Prop} (ρ0 : E) (h : wS m (fun ρ => ∃ cs, outs as ρ = some cs ∧ Q (.ret false .non cs)) (fun x ρ => ∃ c d cs, retOf ρ x = some (c, d) ∧ outs as ρ = some cs ∧ Q (.ret c d cs)) noE noE (fun x ρ => ∃ cs, outs as ρ = some cs ∧ Q (.exc x cs)) ρ0) (he : entry k as = ρ0 := by rfl) (hl : as.length = np := by rfl) : ∃ r, bodyF np k m as = some r ∧ Q r := by
  subst he
  unfold bodyF
  rw [if_pos hl]
  unfold wS at h
  split at h <;> rename_i e <;> rw [e]
  · obtain ⟨cs, o, q⟩ := h
    simp only [o]
    exact ⟨_, rfl, q⟩
  · obtain ⟨c, d, cs, r, o, q⟩ := h
    simp only [r, o]
    exact ⟨_, rfl, q⟩
  · exact h.elim
  · exact h.elim
  · obtain ⟨cs, o, q⟩ := h
    simp only [o]
    exact ⟨_, rfl, q⟩
  · exact h.elim
end
end Z

set_option Elab.async false
set_option linter.all false
set_option maxRecDepth 100000
set_option maxHeartbeats 4000000
/-! WT: texts of data are good. -/
namespace Z
open PySem
def okT (t : Str) : Bool := PyData.strOk t
theorem okT_app {a b : Str} (ha : okT a = true) (hb : okT b = true) : okT (a ++ b) = true := by
  show (a.cps ++ b.cps).all (fun x => decide (x < 0x110000)) = true
  rw [Array.all_append]
  exact Bool.and_eq_true_iff.mpr ⟨ha, hb⟩
theorem okT_join {sep : Str} (hs : okT sep = true) : ∀ {ts : List Str}, (∀ t ∈ ts, okT t = true) → okT (Str.join sep ts) = true
  | [], _ => by show PyData.strOk Str.empty = true; decide +kernel
  | [t], h => h t (List.mem_singleton.mpr rfl)
  | t :: u :: r, h => okT_app (okT_app (h t (List.mem_cons_self ..)) hs) (okT_join hs fun t ht => h t (List.mem_cons_of_mem _ ht))
theorem okT_list {ts : List Str} (h : ∀ t ∈ ts, okT t = true) : okT (listText ts) = true := by
  rw [listText_eq_join]
  exact okT_app (okT_app (by decide +kernel) (okT_join (by decide +kernel) h)) (by decide +kernel)
theorem okT_tup {ts : List Str} (h : ∀ t ∈ ts, okT t = true) : okT (tupleText ts) = true := by
  unfold tupleText
  refine okT_app (okT_app (by decide +kernel) (okT_join (by decide +kernel) h)) ?_
  split
  · decide +kernel
  · decide +kernel
/-- d can be shown, by at most n signs, at depth at most k -/
def OkD (n k : Nat) (d : D) : Prop := ∃ x, d.tx = some x ∧ x.showable = true ∧ x.depth ≤ k ∧ x.shown.length ≤ n ∧ okT x.shown = true
def OkX (n k : Nat) (x : PyData) : Prop := x.showable = true ∧ x.depth ≤ k ∧ x.shown.length ≤ n ∧ okT x.shown = true
theorem okXs {n k : Nat} : ∀ {xs : List PyData}, (∀ x ∈ xs, OkX n k x) → PyData.showableAll xs = true ∧ PyData.depthAll xs ≤ k ∧ (∀ t ∈ PyData.shownAll xs, t.length ≤ n ∧ okT t = true) ∧ (PyData.shownAll xs).length = xs.length
  | [], _ => ⟨by simp [PyData.showableAll], by simp [PyData.depthAll], (fun t h => by simp [PyData.shownAll] at h), by simp [PyData.shownAll]⟩
  | x :: xs, h => by
    obtain ⟨a, b, c, d⟩ := okXs fun y hy => h y (List.mem_cons_of_mem _ hy)
    obtain ⟨e, f, g, i⟩ := h x (List.mem_cons_self ..)
    refine ⟨by simp [PyData.showableAll, e, a], by simp only [PyData.depthAll]; omega, fun t ht => ?_, by simp [PyData.shownAll, d]⟩
    simp only [PyData.shownAll, List.mem_cons] at ht
    rcases ht with rfl | ht
    · exact ⟨g, i⟩
    · exact c t ht
theorem sum_le {n : Nat} : ∀ {ts : List Str}, (∀ t ∈ ts, t.length ≤ n) → (ts.map (·.length)).sum ≤ ts.length * n
  | [], _ => by simp
  | t :: ts, h => by
    have := sum_le (ts := ts) fun t ht => h t (List.mem_cons_of_mem _ ht)
    have := h t (List.mem_cons_self ..)
    rw [List.map_cons, List.sum_cons, List.length_cons, Nat.succ_mul]
    omega
theorem okD_all {n k : Nat} : ∀ {ds : List D}, (∀ d ∈ ds, OkD n k d) → ∃ xs, D.txs ds = some xs ∧ xs.length = ds.length ∧ ∀ x ∈ xs, OkX n k x
  | [], _ => ⟨[], rfl, rfl, by simp⟩
  | d :: ds, h => by
    obtain ⟨x, e, f⟩ := h d (List.mem_cons_self ..)
    obtain ⟨xs, g, i, j⟩ := okD_all (ds := ds) fun d hd => h d (List.mem_cons_of_mem _ hd)
    refine ⟨x :: xs, ?_, by simp [i], fun y hy => ?_⟩
    · simp only [D.txs, e, g]
    · rcases List.mem_cons.mp hy with rfl | hy
      · exact f
      · exact j y hy
theorem okD_list {n k : Nat} {ds : List D} (h : ∀ d ∈ ds, OkD n k d) : ∃ xs, D.txs ds = some xs ∧ PyData.showableAll xs = true ∧ PyData.depthAll xs ≤ k ∧ (listText (PyData.shownAll xs)).length ≤ ds.length * n + 2 * ds.length + 3 ∧ okT (listText (PyData.shownAll xs)) = true ∧ (tupleText (PyData.shownAll xs)).length ≤ ds.length * n + 2 * ds.length + 3 ∧ okT (tupleText (PyData.shownAll xs)) = true := by
  obtain ⟨xs, e, l, f⟩ := okD_all h
  obtain ⟨a, b, c, d⟩ := okXs f
  have s := sum_le fun t ht => (c t ht).1
  have u := listText_len_le (PyData.shownAll xs)
  have v := tupleText_len_le (PyData.shownAll xs)
  rw [d, l] at s u v
  exact ⟨xs, e, a, b, by omega, okT_list fun t ht => (c t ht).2, by omega, okT_tup fun t ht => (c t ht).2⟩
theorem OkD.lst {n k : Nat} {ds : List D} (h : ∀ d ∈ ds, OkD n k d) : OkD (ds.length * n + 2 * ds.length + 3) (k + 1) (.lst ds) := by
  obtain ⟨xs, e, a, b, c, d, _⟩ := okD_list h
  refine ⟨.list xs, ?_, ?_, ?_, ?_, ?_⟩
  · unfold D.tx
    rw [e]
    rfl
  · simpa [PyData.showable] using a
  · simp only [PyData.depth]
    omega
  · simpa [PyData.shown] using c
  · simpa [PyData.shown] using d
theorem OkD.tup {n k : Nat} {ds : List D} (h : ∀ d ∈ ds, OkD n k d) : OkD (ds.length * n + 2 * ds.length + 3) (k + 1) (.tup ds) := by
  obtain ⟨xs, e, a, b, _, _, c, d⟩ := okD_list h
  refine ⟨.tuple xs, ?_, ?_, ?_, ?_, ?_⟩
  · unfold D.tx
    rw [e]
    rfl
  · simpa [PyData.showable] using a
  · simp only [PyData.depth]
    omega
  · simpa [PyData.shown] using c
  · simpa [PyData.shown] using d
theorem OkD.mono {n k m j : Nat} {d : D} (h : OkD n k d) (hn : n ≤ m) (hk : k ≤ j) : OkD m j d := by
  obtain ⟨x, a, b, c, e, f⟩ := h
  exact ⟨x, a, b, by omega, by omega, f⟩
/-- by sight: for closed data -/
def okDb (n k : Nat) (d : D) : Bool := match d.tx with
  | some x => x.showable && decide (x.depth ≤ k) && decide (x.shown.length ≤ n) && okT x.shown
  | none => false
theorem OkD.of {n k : Nat} {d : D} (h : okDb n k d = true) : OkD n k d := by
  unfold okDb at h
  split at h
  · rename_i x e
    simp only [Bool.and_eq_true, decide_eq_true_eq] at h
    exact ⟨x, e, h.1.1.1, h.1.1.2, h.1.2, h.2⟩
  · cases h
theorem okD_lt {n k : Nat} {b : Nat} {f : Nat → D} (h : (List.range b).all (fun i => okDb n k (f i)) = true) {i : Nat} (hi : i < b) : OkD n k (f i) := .of (List.all_eq_true.mp h i (List.mem_range.mpr hi))
/-- str of a list that can be shown, held beside itself -/
theorem fStr_ok {n k : Nat} {ds : List D} (h : ∀ d ∈ ds, OkD n k d) (hk : k ≤ 40) (hn : ds.length * n + 2 * ds.length + 3 ≤ 1000000) : ∃ s, fStr2 [.lst ds] = some (.str s) ∧ eqD (.str s) (.str s) = some true := by
  obtain ⟨xs, e, a, b, c, d, _⟩ := okD_list h
  refine ⟨listText (PyData.shownAll xs), ?_, ?_⟩
  · have z : fStr [.lst ds] = some (.str (listText (PyData.shownAll xs))) := by
      unfold fStr
      simp only [e]
      rw [if_pos ⟨a, by rw [sizeLine_eq]; omega, by omega⟩]
    unfold fStr2
    rw [z]
    rfl
  · have z : SeqAt.shaped (.str (listText (PyData.shownAll xs))) = true := by
      unfold SeqAt.shaped
      simp only [PyData.canLay0, PyData.depth]
      exact Bool.and_eq_true_iff.mpr ⟨d, rfl⟩
    unfold eqD
    simp only [D.py, z, and_self, if_true, PyData.eqv, beq_self_eq_true]
theorem fStr_bl (b : Bool) : fStr2 [.bl b] = some (.str (if b then "True" else "False")) := rfl
theorem eq_bl (a b : Bool) : eqD (.str (if a then "True" else "False")) (.str (if b then "True" else "False")) = some (decide (a = b)) := by
  cases a <;> cases b <;> decide +kernel
end Z

set_option Elab.async false
set_option linter.all false
set_option maxRecDepth 100000
set_option maxHeartbeats 4000000
namespace LAW
open PySem PySem.Spec PyProof.Rows L2 Z
/-! the text by places -/
def top (i : Nat) : Stmt := PySem.Challenge.pw_cellyards_k10_runs.main.body.getD i (.Pass ⟨0, 0, 0, 0⟩)
abbrev s_is_number : Stmt := top 9
abbrev s_is_cell : Stmt := top 11
abbrev s_is_road : Stmt := top 12
abbrev s_checked_roads : Stmt := top 13
abbrev s_checked_cells : Stmt := top 14
abbrev s_Yard_init : Stmt := inClass (top 15) 0
abbrev s__law_purse : Stmt := top 27
abbrev s_require_yard : Stmt := top 10
abbrev s_empty_of : Stmt := top 21
abbrev s_with_cell : Stmt := top 19
abbrev s_moved : Stmt := top 20
abbrev s_is_move : Stmt := top 17
abbrev s_blocked_at : Stmt := top 18
abbrev s_order_in : Stmt := top 22
abbrev s_order_made : Stmt := top 24
abbrev s_is_run : Stmt := top 23
abbrev s__law_caught : Stmt := top 38
abbrev s__law_mixed : Stmt := top 26
abbrev s__law_draw : Stmt := top 28
abbrev s__law_menu : Stmt := top 30
abbrev s__law_flipped : Stmt := top 31
abbrev s__law_raw : Stmt := top 32
abbrev s__law_built : Stmt := top 33
abbrev s__law_open : Stmt := top 35
abbrev s__law_led : Stmt := top 36
abbrev s__law_bent : Stmt := top 37
abbrev s__law_order_in : Stmt := top 34
abbrev s__law_right : Stmt := top 39
abbrev s_law : Stmt := top 40
abbrev si_InvalidNumber : Stmt := inClass (top 3) 0
abbrev si_InvalidRoads : Stmt := inClass (top 4) 0
abbrev si_InvalidCells : Stmt := inClass (top 5) 0
abbrev si_InvalidYard : Stmt := inClass (top 6) 0
abbrev si_InvalidMove : Stmt := inClass (top 7) 0
/-! the mirrors -/
def m_is_number : S := (sRet (eAnd (eIsi .int (eVar 0)) (eAnd (eNot (eIsi .bool (eVar 0))) (eOp2 (fI kGe) (eVar 0) (eC (.int 0))))))
def f_is_number : Fn := bodyF 1 1 m_is_number
def m_is_cell : S := (sRet (eAnd (eFn f_is_number [false] (aCons (eVar 0) aNil)) (eOp2 (fI kLt) (eVar 0) (eVar 1))))
def f_is_cell : Fn := bodyF 2 2 m_is_cell
def m_is_road : S := (sSeq (sIf (bOr (bNot (tst (eIsi .tuple (eVar 0)))) (bOr (tst (eOp2 fNe (eCall fLen (aCons (eVar 0) aNil)) (eC (.int 2)))) (bOr (bNot (tst (eFn f_is_cell [false, false] (aCons (eIx (eVar 0) (eC (.int 0))) (aCons (eVar 1) aNil))))) (bNot (tst (eFn f_is_cell [false, false] (aCons (eIx (eVar 0) (eC (.int 1))) (aCons (eVar 1) aNil)))))))) (sRet (eC (.bl false))) sNx) (sRet (eOp2 fNe (eIx (eVar 0) (eC (.int 0))) (eIx (eVar 0) (eC (.int 1))))))
def f_is_road : Fn := bodyF 2 2 m_is_road
def m_checked_roads : S := (sSeq (sIf (bNot (tst (eIsLT (eVar 0)))) (sRaise "InvalidRoads" ["place"] (aCons (eC .non) aNil)) sNx) (sSeq (sFor (iEn (eVar 0)) (tgTup 2 (tgCons (tgName 2) (tgCons (tgName 3) tgNil))) (sIf (bNot (tst (eFn f_is_road [false, false] (aCons (eVar 3) (aCons (eVar 1) aNil))))) (sRaise "InvalidRoads" ["place"] (aCons (eVar 2) aNil)) sNx)) (sRet (eCall fTuple (aCons (eSS (eVar 0)) aNil)))))
def f_checked_roads : Fn := bodyF 2 4 m_checked_roads
def m_checked_cells : S := (sSeq (sIf (bNot (tst (eIsLT (eVar 0)))) (sRaise "InvalidCells" ["place"] (aCons (eC .non) aNil)) sNx) (sSeq (sFor (iEn (eVar 0)) (tgTup 2 (tgCons (tgName 2) (tgCons (tgName 3) tgNil))) (sIf (bNot (tst (eFn f_is_cell [false, false] (aCons (eVar 3) (aCons (eVar 1) aNil))))) (sRaise "InvalidCells" ["place"] (aCons (eVar 2) aNil)) sNx)) (sRet (eCall fTuple (aCons (eSS (eVar 0)) aNil)))))
def f_checked_cells : Fn := bodyF 2 4 m_checked_cells
def m_Yard_init : S := (sSeq (sIf (bOr (bNot (tst (eFn f_is_number [false] (aCons (eVar 1) aNil)))) (tst (eOp2 fEq (eVar 1) (eC (.int 0))))) (sRaise "InvalidNumber" ["thing"] (aCons (eVar 1) aNil)) sNx) (sSeq (sFldS ["Yard"] 0 "cells" (eVar 1)) (sSeq (sFldS ["Yard"] 0 "roads" (eFn f_checked_roads [false, false] (aCons (eVar 2) (aCons (eVar 1) aNil)))) (sSeq (sFldS ["Yard"] 0 "entries" (eFn f_checked_cells [false, false] (aCons (eVar 3) (aCons (eVar 1) aNil)))) (sFldS ["Yard"] 0 "exits" (eFn f_checked_cells [false, false] (aCons (eVar 4) (aCons (eVar 1) aNil))))))))
def f_Yard_init : Fn := bodyF 5 5 m_Yard_init
def m__law_purse : S := (sSeq (sAsg (eC (.int 0)) (tgName 2)) (sSeq (sIf (tst (eOp2 (fI kLt) (eVar 1) (eCall fLen (aCons (eVar 0) aNil)))) (sAsg (eIx (eVar 0) (eVar 1)) (tgName 2)) sNx) (sRet (eLst (aCons (eOp2 (fI kMod) (eCall fInt (aCons (eCall fMax (aCons (eOp2 (fI kSub) (eVar 2) (eOp2 (fI kPow) (eC (.int 10)) (eC (.int 18)))) (aCons (eC (.int 0)) aNil))) aNil)) (eOp2 (fI kPow) (eOp2 (fI kPow) (eC (.int 10)) (eC (.int 60))) (eC (.int 8)))) (aCons (eOp2 (fI kMod) (eCall fInt (aCons (eVar 2) aNil)) (eC (.int 2147483647))) (aCons (eOp2 (fI kMul) (eC (.int 1000)) (eVar 1)) aNil)))))))
def f__law_purse : Fn := bodyF 2 3 m__law_purse
def m_require_yard : S := (sIf (bNot (tst (eIsOwn "Yard" (eVar 0)))) (sRaise "InvalidYard" ["thing"] (aCons (eVar 0) aNil)) sNx)
def f_require_yard : Fn := bodyF 1 1 m_require_yard
def m_empty_of : S := (sRet (eOp2 fMul (eTup (aCons (eC (.int 0)) aNil)) (eFld ["Yard"] "cells" (eVar 0))))
def f_empty_of : Fn := bodyF 1 1 m_empty_of
def m_with_cell : S := (sRet (eOp2 fAdd (eOp2 fAdd (eCut (eVar 0) oNone (oSome (eVar 1))) (eTup (aCons (eVar 2) aNil))) (eCut (eVar 0) (oSome (eOp2 fAdd (eVar 1) (eC (.int 1)))) oNone)))
def f_with_cell : Fn := bodyF 3 3 m_with_cell
def m_moved : S := (sSeq (sIf (tst (eOp2 fEq2 (eIx (eVar 1) (eC (.int 0))) (eC (.str "in")))) (sRet (eFn f_with_cell [false, false, false] (aCons (eVar 0) (aCons (eIx (eVar 1) (eC (.int 1))) (aCons (eVar 2) aNil))))) sNx) (sSeq (sIf (tst (eOp2 fEq2 (eIx (eVar 1) (eC (.int 0))) (eC (.str "out")))) (sRet (eFn f_with_cell [false, false, false] (aCons (eVar 0) (aCons (eIx (eVar 1) (eC (.int 1))) (aCons (eC (.int 0)) aNil))))) sNx) (sRet (eFn f_with_cell [false, false, false] (aCons (eFn f_with_cell [false, false, false] (aCons (eVar 0) (aCons (eIx (eVar 1) (eC (.int 1))) (aCons (eC (.int 0)) aNil)))) (aCons (eIx (eVar 1) (eC (.int 2))) (aCons (eIx (eVar 0) (eIx (eVar 1) (eC (.int 1)))) aNil)))))))
def f_moved : Fn := bodyF 3 3 m_moved
def m_is_move : S := (sSeq (sIf (bOr (bNot (tst (eIsi .tuple (eVar 1)))) (bOr (tst (eOp2 fNin (eCall fLen (aCons (eVar 1) aNil)) (eTup (aCons (eC (.int 2)) (aCons (eC (.int 3)) aNil))))) (bNot (tst (eIsi .str (eIx (eVar 1) (eC (.int 0)))))))) (sRet (eC (.bl false))) sNx) (sSeq (sIf (tst (eOp2 fEq2 (eIx (eVar 1) (eC (.int 0))) (eC (.str "road")))) (sRet (eAnd (eOp2 fEq (eCall fLen (aCons (eVar 1) aNil)) (eC (.int 3))) (eAnd (eFn f_is_road [false, false] (aCons (eCut (eVar 1) (oSome (eC (.int 1))) oNone) (aCons (eFld ["Yard"] "cells" (eVar 0)) aNil))) (eOp2 fIn (eCut (eVar 1) (oSome (eC (.int 1))) oNone) (eFld ["Yard"] "roads" (eVar 0)))))) sNx) (sSeq (sIf (bOr (tst (eOp2 fEq (eCall fLen (aCons (eVar 1) aNil)) (eC (.int 3)))) (bNot (tst (eFn f_is_cell [false, false] (aCons (eIx (eVar 1) (eC (.int 1))) (aCons (eFld ["Yard"] "cells" (eVar 0)) aNil)))))) (sRet (eC (.bl false))) sNx) (sSeq (sIf (tst (eOp2 fEq2 (eIx (eVar 1) (eC (.int 0))) (eC (.str "in")))) (sRet (eOp2 fIn (eIx (eVar 1) (eC (.int 1))) (eFld ["Yard"] "entries" (eVar 0)))) sNx) (sRet (eAnd (eOp2 fEq2 (eIx (eVar 1) (eC (.int 0))) (eC (.str "out"))) (eOp2 fIn (eIx (eVar 1) (eC (.int 1))) (eFld ["Yard"] "exits" (eVar 0)))))))))
def f_is_move : Fn := bodyF 2 2 m_is_move
def m_blocked_at : S := (sSeq (sIf (tst (eOp2 fEq2 (eIx (eVar 1) (eC (.int 0))) (eC (.str "in")))) (sRet (eIf (tst (eOp2 fNe (eIx (eVar 0) (eIx (eVar 1) (eC (.int 1)))) (eC (.int 0)))) (eIx (eVar 1) (eC (.int 1))) (eC .non))) sNx) (sSeq (sIf (tst (eOp2 fEq (eIx (eVar 0) (eIx (eVar 1) (eC (.int 1)))) (eC (.int 0)))) (sRet (eIx (eVar 1) (eC (.int 1)))) sNx) (sSeq (sIf (bAnd (tst (eOp2 fEq2 (eIx (eVar 1) (eC (.int 0))) (eC (.str "road")))) (tst (eOp2 fNe (eIx (eVar 0) (eIx (eVar 1) (eC (.int 2)))) (eC (.int 0))))) (sRet (eIx (eVar 1) (eC (.int 2)))) sNx) (sRet (eC .non)))))
def f_blocked_at : Fn := bodyF 2 2 m_blocked_at
def m_order_in : S := (sSeq (sIf (bNot (tst (eIsLT (eVar 1)))) (sRet (eC .non)) sNx) (sSeq (sAsg (eFn f_empty_of [false] (aCons (eVar 0) aNil)) (tgName 2)) (sSeq (sAsg (eC (.int 0)) (tgName 3)) (sSeq (sAsg (eTup aNil) (tgName 4)) (sSeq (sFor (iSeq (eVar 1)) (tgName 5) (sSeq (sIf (bOr (bNot (tst (eFn f_is_move [false, false] (aCons (eVar 0) (aCons (eVar 5) aNil))))) (tst (eOp2 fIsN (eFn f_blocked_at [false, false] (aCons (eVar 2) (aCons (eVar 5) aNil))) (eC .non)))) (sRet (eC .non)) sNx) (sSeq (sIf (tst (eOp2 fEq2 (eIx (eVar 5) (eC (.int 0))) (eC (.str "in")))) (sAsg (eOp2 fAdd (eVar 3) (eC (.int 1))) (tgName 3)) sNx) (sSeq (sIf (tst (eOp2 fEq2 (eIx (eVar 5) (eC (.int 0))) (eC (.str "out")))) (sAsg (eOp2 fAdd (eVar 4) (eTup (aCons (eIx (eVar 2) (eIx (eVar 5) (eC (.int 1)))) aNil))) (tgName 4)) sNx) (sAsg (eFn f_moved [false, false, false] (aCons (eVar 2) (aCons (eVar 5) (aCons (eVar 3) aNil)))) (tgName 2)))))) (sRet (eIf (tst (eOp2 fEq (eVar 2) (eFn f_empty_of [false] (aCons (eVar 0) aNil)))) (eVar 4) (eC .non))))))))
def f_order_in : Fn := bodyF 2 6 m_order_in
def m_order_made : S := (sSeq (sExpr (eFn f_require_yard [false] (aCons (eVar 0) aNil))) (sSeq (sAsg (eFn f_order_in [false, false] (aCons (eVar 0) (aCons (eVar 1) aNil))) (tgName 2)) (sSeq (sIf (tst (eOp2 fIs (eVar 2) (eC .non))) (sRaise "InvalidMove" ["thing"] (aCons (eVar 1) aNil)) sNx) (sRet (eVar 2)))))
def f_order_made : Fn := bodyF 2 3 m_order_made
def m_is_run : S := (sSeq (sExpr (eFn f_require_yard [false] (aCons (eVar 0) aNil))) (sRet (eOp2 fIsN (eFn f_order_in [false, false] (aCons (eVar 0) (aCons (eVar 1) aNil))) (eC .non))))
def f_is_run : Fn := bodyF 2 2 m_is_run
def m__law_caught : S := (sSeq (sAsg (eC .non) (tgName 2)) (sSeq (sTry (sAsg (eFn f_order_made [false, false] (aCons (eVar 0) (aCons (eVar 1) aNil))) (tgName 2)) [([("InvalidYard", false), ("InvalidMove", true)], some 3, (sAsg (eLst (aCons (eC (.str "move")) (aCons (eXf 3 "InvalidMove" "thing") aNil))) (tgName 2))), ([("InvalidYard", true), ("InvalidMove", false)], some 3, (sAsg (eLst (aCons (eC (.str "yard")) (aCons (eXf 3 "InvalidYard" "thing") aNil))) (tgName 2))), ([("InvalidYard", true), ("InvalidMove", true)], none, (sAsg (eLst (aCons (eC (.str "other")) aNil)) (tgName 2)))]) (sRet (eVar 2))))
def f__law_caught : Fn := bodyF 2 4 m__law_caught
def m__law_mixed : S := (sSeq (sAsg (eOp2 (fI kMod) (eCall fInt (aCons (eOp2 fAdd (eOp2 fAdd (eOp2 fAdd (eOp2 (fI kMul) (eVar 0) (eC (.int 2654435761))) (eOp2 (fI kMul) (eOp2 (fI kMul) (eC (.int 40503)) (eVar 1)) (eVar 1))) (eOp2 (fI kMul) (eC (.int 97)) (eVar 1))) (eC (.int 13))) aNil)) (eC (.int 2147483647))) (tgName 2)) (sRet (eOp2 (fI kDiv) (eOp2 (fI kMod) (eCall fInt (aCons (eOp2 fAdd (eOp2 fAdd (eOp2 (fI kMul) (eVar 2) (eVar 2)) (eOp2 (fI kMul) (eC (.int 7)) (eVar 2))) (eC (.int 11))) aNil)) (eC (.int 2147483629))) (eC (.int 3)))))
def f__law_mixed : Fn := bodyF 2 3 m__law_mixed
def m__law_draw : S := (sSeq (sIf (tst (eOp2 (fI kGt) (eIx (eVar 0) (eC (.int 0))) (eC (.int 0)))) (sSeq (sAsg (eOp2 (fI kMod) (eCall fInt (aCons (eIx (eVar 0) (eC (.int 0))) aNil)) (eVar 1)) (tgName 2)) (sSeq (sSub (eOp2 (fI kDiv) (eIx (eVar 0) (eC (.int 0))) (eVar 1)) (eVar 0) (eC (.int 0))) (sRet (eVar 2)))) sNx) (sSeq (sSub (eOp2 fAdd (eIx (eVar 0) (eC (.int 2))) (eC (.int 1))) (eVar 0) (eC (.int 2))) (sRet (eOp2 (fI kMod) (eCall fInt (aCons (eFn f__law_mixed [false, false] (aCons (eIx (eVar 0) (eC (.int 1))) (aCons (eIx (eVar 0) (eC (.int 2))) aNil))) aNil)) (eVar 1)))))
def f__law_draw : Fn := bodyF 2 3 m__law_draw
def m__law_menu : S := (sSeq (sAsg (eLst (aCons (eTup (aCons (eC (.int 2)) (aCons (eLst (aCons (eTup (aCons (eC (.int 0)) (aCons (eC (.int 1)) aNil))) (aCons (eTup (aCons (eC (.int 1)) (aCons (eC (.int 0)) aNil))) aNil))) (aCons (eLst (aCons (eC (.int 0)) aNil)) (aCons (eLst (aCons (eC (.int 0)) aNil)) aNil))))) (aCons (eTup (aCons (eC (.int 3)) (aCons (eLst (aCons (eTup (aCons (eC (.int 0)) (aCons (eC (.int 1)) aNil))) (aCons (eTup (aCons (eC (.int 1)) (aCons (eC (.int 0)) aNil))) (aCons (eTup (aCons (eC (.int 1)) (aCons (eC (.int 2)) aNil))) (aCons (eTup (aCons (eC (.int 2)) (aCons (eC (.int 1)) aNil))) aNil))))) (aCons (eLst (aCons (eC (.int 0)) aNil)) (aCons (eLst (aCons (eC (.int 0)) aNil)) aNil))))) aNil))) (tgName 1)) (sSeq (sAsg (eOp2 fAdd (eVar 1) (eLst (aCons (eTup (aCons (eC (.int 2)) (aCons (eLst (aCons (eTup (aCons (eC (.int 0)) (aCons (eC (.int 1)) aNil))) aNil)) (aCons (eLst (aCons (eC (.int 0)) aNil)) (aCons (eLst (aCons (eC (.int 1)) aNil)) aNil))))) (aCons (eTup (aCons (eC (.int 3)) (aCons (eLst (aCons (eTup (aCons (eC (.int 0)) (aCons (eC (.int 1)) aNil))) (aCons (eTup (aCons (eC (.int 1)) (aCons (eC (.int 2)) aNil))) aNil))) (aCons (eLst (aCons (eC (.int 0)) aNil)) (aCons (eLst (aCons (eC (.int 2)) aNil)) aNil))))) (aCons (eTup (aCons (eC (.int 3)) (aCons (eLst (aCons (eTup (aCons (eC (.int 0)) (aCons (eC (.int 1)) aNil))) aNil)) (aCons (eLst (aCons (eC (.int 0)) (aCons (eC (.int 2)) aNil))) (aCons (eLst (aCons (eC (.int 1)) (aCons (eC (.int 2)) aNil))) aNil))))) aNil))))) (tgName 1)) (sSeq (sAsg (eOp2 fAdd (eVar 1) (eLst (aCons (eTup (aCons (eC (.int 3)) (aCons (eLst (aCons (eTup (aCons (eC (.int 0)) (aCons (eC (.int 1)) aNil))) (aCons (eTup (aCons (eC (.int 1)) (aCons (eC (.int 0)) aNil))) (aCons (eTup (aCons (eC (.int 0)) (aCons (eC (.int 2)) aNil))) (aCons (eTup (aCons (eC (.int 2)) (aCons (eC (.int 0)) aNil))) aNil))))) (aCons (eLst (aCons (eC (.int 0)) aNil)) (aCons (eLst (aCons (eC (.int 0)) aNil)) aNil))))) (aCons (eTup (aCons (eC (.int 3)) (aCons (eLst (aCons (eTup (aCons (eC (.int 0)) (aCons (eC (.int 1)) aNil))) (aCons (eTup (aCons (eC (.int 1)) (aCons (eC (.int 2)) aNil))) (aCons (eTup (aCons (eC (.int 2)) (aCons (eC (.int 0)) aNil))) aNil)))) (aCons (eLst (aCons (eC (.int 0)) aNil)) (aCons (eLst (aCons (eC (.int 0)) aNil)) aNil))))) aNil)))) (tgName 1)) (sSeq (sAsg (eOp2 fAdd (eVar 1) (eLst (aCons (eTup (aCons (eC (.int 3)) (aCons (eLst (aCons (eTup (aCons (eC (.int 1)) (aCons (eC (.int 2)) aNil))) (aCons (eTup (aCons (eC (.int 2)) (aCons (eC (.int 0)) aNil))) aNil))) (aCons (eLst (aCons (eC (.int 0)) (aCons (eC (.int 1)) aNil))) (aCons (eLst (aCons (eC (.int 0)) (aCons (eC (.int 2)) aNil))) aNil))))) (aCons (eTup (aCons (eC (.int 3)) (aCons (eLst (aCons (eTup (aCons (eC (.int 1)) (aCons (eC (.int 2)) aNil))) (aCons (eTup (aCons (eC (.int 0)) (aCons (eC (.int 1)) aNil))) aNil))) (aCons (eLst (aCons (eC (.int 0)) (aCons (eC (.int 1)) aNil))) (aCons (eLst (aCons (eC (.int 0)) (aCons (eC (.int 2)) aNil))) aNil))))) aNil)))) (tgName 1)) (sSeq (sAsg (eOp2 fAdd (eVar 1) (eLst (aCons (eTup (aCons (eC (.int 4)) (aCons (eLst (aCons (eTup (aCons (eC (.int 0)) (aCons (eC (.int 1)) aNil))) (aCons (eTup (aCons (eC (.int 1)) (aCons (eC (.int 0)) aNil))) (aCons (eTup (aCons (eC (.int 2)) (aCons (eC (.int 3)) aNil))) (aCons (eTup (aCons (eC (.int 3)) (aCons (eC (.int 2)) aNil))) aNil))))) (aCons (eLst (aCons (eC (.int 0)) (aCons (eC (.int 2)) aNil))) (aCons (eLst (aCons (eC (.int 0)) (aCons (eC (.int 2)) aNil))) aNil))))) aNil))) (tgName 1)) (sSeq (sAsg (eOp2 fAdd (eVar 1) (eLst (aCons (eTup (aCons (eC (.int 4)) (aCons (eLst (aCons (eTup (aCons (eC (.int 0)) (aCons (eC (.int 1)) aNil))) (aCons (eTup (aCons (eC (.int 2)) (aCons (eC (.int 3)) aNil))) (aCons (eTup (aCons (eC (.int 3)) (aCons (eC (.int 2)) aNil))) aNil)))) (aCons (eLst (aCons (eC (.int 0)) (aCons (eC (.int 2)) aNil))) (aCons (eLst (aCons (eC (.int 1)) (aCons (eC (.int 2)) aNil))) aNil))))) (aCons (eTup (aCons (eC (.int 3)) (aCons (eLst (aCons (eTup (aCons (eC (.int 0)) (aCons (eC (.int 1)) aNil))) (aCons (eTup (aCons (eC (.int 1)) (aCons (eC (.int 2)) aNil))) (aCons (eTup (aCons (eC (.int 2)) (aCons (eC (.int 0)) aNil))) aNil)))) (aCons (eLst (aCons (eC (.int 0)) aNil)) (aCons (eLst (aCons (eC (.int 2)) aNil)) aNil))))) aNil)))) (tgName 1)) (sSeq (sAsg (eOp2 fAdd (eVar 1) (eLst (aCons (eTup (aCons (eC (.int 1)) (aCons (eLst aNil) (aCons (eLst (aCons (eC (.int 0)) aNil)) (aCons (eLst (aCons (eC (.int 0)) aNil)) aNil))))) (aCons (eTup (aCons (eC (.int 3)) (aCons (eLst (aCons (eTup (aCons (eC (.int 0)) (aCons (eC (.int 1)) aNil))) (aCons (eTup (aCons (eC (.int 1)) (aCons (eC (.int 0)) aNil))) (aCons (eTup (aCons (eC (.int 0)) (aCons (eC (.int 2)) aNil))) aNil)))) (aCons (eLst (aCons (eC (.int 0)) aNil)) (aCons (eLst (aCons (eC (.int 0)) aNil)) aNil))))) aNil)))) (tgName 1)) (sRet (eIx (eVar 1) (eVar 0))))))))))
def f__law_menu : Fn := bodyF 1 2 m__law_menu
def m__law_flipped : S := (sSeq (sAsg (eVar 1) (tgTup 4 (tgCons (tgName 2) (tgCons (tgName 3) (tgCons (tgName 4) (tgCons (tgName 5) tgNil)))))) (sSeq (sAsg (eTup (aCons (eFn f__law_draw [true, false] (aCons (eVar 0) (aCons (eVar 2) aNil))) (aCons (eFn f__law_draw [true, false] (aCons (eVar 0) (aCons (eVar 2) aNil))) aNil))) (tgTup 2 (tgCons (tgName 6) (tgCons (tgName 7) tgNil)))) (sSeq (sAsg (eFn f__law_draw [true, false] (aCons (eVar 0) (aCons (eC (.int 4)) aNil))) (tgName 8)) (sSeq (sIf (bAnd (tst (eOp2 (fI kLt) (eVar 8) (eC (.int 2)))) (tst (eOp2 fNe (eVar 6) (eVar 7)))) (sAsg (eOp2 fAdd (eComp (iSeq (eVar 3)) (tgName 9) (tst (eOp2 fNe (eVar 9) (eTup (aCons (eVar 6) (aCons (eVar 7) aNil))))) (eVar 9) [9]) (eRep (eLst (aCons (eTup (aCons (eVar 6) (aCons (eVar 7) aNil))) aNil)) (eCall fInt (aCons (eOp2 fNin (eTup (aCons (eVar 6) (aCons (eVar 7) aNil))) (eVar 3)) aNil)))) (tgName 3)) sNx) (sSeq (sIf (tst (eOp2 fEq (eVar 8) (eC (.int 2)))) (sAsg (eOp2 fAdd (eComp (iSeq (eVar 4)) (tgName 10) (tst (eOp2 fNe (eVar 10) (eVar 6))) (eVar 10) [10]) (eRep (eLst (aCons (eVar 6) aNil)) (eCall fInt (aCons (eOp2 fNin (eVar 6) (eVar 4)) aNil)))) (tgName 4)) sNx) (sSeq (sIf (tst (eOp2 fEq (eVar 8) (eC (.int 3)))) (sAsg (eOp2 fAdd (eComp (iSeq (eVar 5)) (tgName 10) (tst (eOp2 fNe (eVar 10) (eVar 6))) (eVar 10) [10]) (eRep (eLst (aCons (eVar 6) aNil)) (eCall fInt (aCons (eOp2 fNin (eVar 6) (eVar 5)) aNil)))) (tgName 5)) sNx) (sRet (eTup (aCons (eVar 2) (aCons (eVar 3) (aCons (eVar 4) (aCons (eVar 5) aNil))))))))))))
def f__law_flipped : Fn := bodyF 2 11 m__law_flipped
def m__law_raw : S := (sSeq (sIf (tst (eOp2 (fI kGt) (eFn f__law_draw [true, false] (aCons (eVar 0) (aCons (eC (.int 4)) aNil))) (eC (.int 0)))) (sSeq (sAsg (eFn f__law_menu [false] (aCons (eFn f__law_draw [true, false] (aCons (eVar 0) (aCons (eC (.int 14)) aNil))) aNil)) (tgName 2)) (sSeq (sIf (tst (eOp2 (fI kGt) (eIx (eVar 2) (eC (.int 0))) (eVar 1))) (sAsg (eFn f__law_menu [false] (aCons (eFn f__law_draw [true, false] (aCons (eVar 0) (aCons (eC (.int 9)) aNil))) aNil)) (tgName 2)) sNx) (sSeq (sIf (tst (eOp2 (fI kGt) (eIx (eVar 2) (eC (.int 0))) (eVar 1))) (sAsg (eFn f__law_menu [false] (aCons (eC (.int 12)) aNil)) (tgName 2)) sNx) (sRet (eIf (tst (eOp2 fEq (eFn f__law_draw [true, false] (aCons (eVar 0) (aCons (eC (.int 2)) aNil))) (eC (.int 0)))) (eFn f__law_flipped [true, false] (aCons (eVar 0) (aCons (eVar 2) aNil))) (eVar 2)))))) sNx) (sSeq (sAsg (eOp2 fAdd (eC (.int 1)) (eFn f__law_draw [true, false] (aCons (eVar 0) (aCons (eVar 1) aNil)))) (tgName 3)) (sSeq (sAsg (eLst aNil) (tgName 4)) (sSeq (sFor (iRg1 (aCons (eVar 3) aNil)) (tgName 5) (sAsg (eOp2 fAdd (eVar 4) (eComp (iRg1 (aCons (eVar 3) aNil)) (tgName 6) (bAnd (tst (eOp2 fNe (eVar 5) (eVar 6))) (tst (eOp2 fEq (eFn f__law_draw [true, false] (aCons (eVar 0) (aCons (eC (.int 3)) aNil))) (eC (.int 0))))) (eTup (aCons (eVar 5) (aCons (eVar 6) aNil))) [6])) (tgName 4))) (sSeq (sAsg (eComp (iRg1 (aCons (eC (.int 2)) aNil)) (tgName 10) tTrue (eComp (iRg1 (aCons (eVar 3) aNil)) (tgName 9) (tst (eOp2 fEq (eFn f__law_draw [true, false] (aCons (eVar 0) (aCons (eC (.int 2)) aNil))) (eC (.int 0)))) (eVar 9) [9]) [10]) (tgSeq 2 (tgCons (tgName 7) (tgCons (tgName 8) tgNil)))) (sRet (eTup (aCons (eVar 3) (aCons (eVar 4) (aCons (eVar 7) (aCons (eVar 8) aNil)))))))))))
def f__law_raw : Fn := bodyF 2 11 m__law_raw
def m__law_built : S := (sRet (eMkK "Yard" f_Yard_init 1 3 [0, 1, 2, 3] [] (aCons (eIx (eVar 0) (eC (.int 0))) aNil) (aCons (eIx (eVar 0) (eC (.int 1))) (aCons (eIx (eVar 0) (eC (.int 2))) (aCons (eIx (eVar 0) (eC (.int 3))) aNil)))))
def f__law_built : Fn := bodyF 1 1 m__law_built
def m__law_open : S := (sSeq (sAsg (eVar 0) (tgTup 4 (tgCons (tgName 2) (tgCons (tgName 3) (tgCons (tgName 4) (tgCons (tgName 5) tgNil)))))) (sSeq (sAsg (eOp2 fAdd (eComp (iSeq (eVar 5)) (tgName 7) (tst (eOp2 (fI kGt) (eIx (eVar 1) (eVar 7)) (eC (.int 0)))) (eTup (aCons (eC (.str "out")) (aCons (eVar 7) aNil))) [7]) (eComp (iSeq (eVar 4)) (tgName 7) (tst (eOp2 fEq (eIx (eVar 1) (eVar 7)) (eC (.int 0)))) (eTup (aCons (eC (.str "in")) (aCons (eVar 7) aNil))) [7])) (tgName 6)) (sRet (eOp2 fAdd (eVar 6) (eComp (iSeq (eVar 3)) (tgTup 2 (tgCons (tgName 7) (tgCons (tgName 8) tgNil))) (bAnd (tst (eOp2 (fI kGt) (eIx (eVar 1) (eVar 7)) (eC (.int 0)))) (tst (eOp2 fEq (eIx (eVar 1) (eVar 8)) (eC (.int 0))))) (eTup (aCons (eC (.str "road")) (aCons (eVar 7) (aCons (eVar 8) aNil)))) [7, 8])))))
def f__law_open : Fn := bodyF 2 9 m__law_open
def m__law_led : S := (sSeq (sPar [3, 4] (pCons (eRep (eLst (aCons (eC (.int 0)) aNil)) (eIx (eVar 1) (eC (.int 0)))) (pCons (eLst aNil) pNil))) (sSeq (sFor (iRg1 (aCons (eVar 2) aNil)) (tgName 5) (sSeq (sAsg (eFn f__law_open [false, true] (aCons (eVar 1) (aCons (eVar 3) aNil))) (tgName 6)) (sSeq (sIf (tst (eOp2 (fI kGt) (eVar 5) (eOp2 (fI kDiv) (eVar 2) (eC (.int 2))))) (sAsg (eComp (iSeq (eVar 6)) (tgName 7) (tst (eOp2 fNe (eIx (eVar 7) (eC (.int 0))) (eC (.str "in")))) (eVar 7) [7]) (tgName 6)) sNx) (sSeq (sIf (tst (eOp2 fEq (eVar 6) (eLst aNil))) (sRet (eVar 4)) sNx) (sSeq (sAsg (eIx (eVar 6) (eFn f__law_draw [true, false] (aCons (eVar 0) (aCons (eCall fLen (aCons (eVar 6) aNil)) aNil)))) (tgName 7)) (sSeq (sExpr (eLM 4 fApp (aCons (eVar 7) aNil))) (sSeq (sIf (tst (eOp2 fEq2 (eIx (eVar 7) (eC (.int 0))) (eC (.str "road")))) (sSub (eC (.int 1)) (eVar 3) (eIx (eVar 7) (eC (.int 2)))) sNx) (sSub (eCall fInt (aCons (eOp2 fEq2 (eIx (eVar 7) (eC (.int 0))) (eC (.str "in"))) aNil)) (eVar 3) (eIx (eVar 7) (eC (.int 1))))))))))) (sRet (eVar 4))))
def f__law_led : Fn := bodyF 3 8 m__law_led
def m__law_bent : S := (sSeq (sAsg (eLst (aCons (eTup (aCons (eC (.str "in")) (aCons (eC (.int 0)) aNil))) (aCons (eTup (aCons (eC (.str "out")) (aCons (eC (.int 0)) aNil))) (aCons (eTup (aCons (eC (.str "road")) (aCons (eC (.int 0)) (aCons (eC (.int 1)) aNil)))) (aCons (eTup (aCons (eC (.str "in")) (aCons (eNeg (eC (.int 1))) aNil))) (aCons (eTup (aCons (eC (.str "out")) (aCons (eC (.bl true)) aNil))) (aCons (eTup (aCons (eC (.str "road")) (aCons (eC (.int 1)) (aCons (eC (.int 0)) aNil)))) (aCons (eTup (aCons (eC (.str "in")) aNil)) (aCons (eTup (aCons (eC (.str "in")) (aCons (eC (.int 0)) (aCons (eC (.int 1)) aNil)))) aNil))))))))) (tgName 3)) (sSeq (sAsg (eOp2 fAdd (eVar 3) (eLst (aCons (eC .non) (aCons (eLst (aCons (eC (.str "in")) (aCons (eC (.int 0)) aNil))) (aCons (eC (.str "in")) (aCons (eTup (aCons (eC (.str "road")) (aCons (eC (.int 0)) aNil))) (aCons (eTup (aCons (eC (.int 0)) (aCons (eC (.str "in")) aNil))) (aCons (eTup (aCons (eC (.str "In")) (aCons (eC (.int 0)) aNil))) (aCons (eTup (aCons (eC (.str "in")) (aCons (eC (.int 9)) aNil))) (aCons (eTup (aCons (eC (.str "road")) (aCons (eC (.int 0)) (aCons (eC (.int 9)) aNil)))) (aCons (eTup (aCons eDic0 (aCons (eC (.int 0)) aNil))) aNil))))))))))) (tgName 3)) (sSeq (sAsg (eOp2 fAdd (eVar 3) (eLst (aCons (eTup (aCons (eC (.str "out")) (aCons (eC .non) aNil))) (aCons (eTup (aCons (eC (.str "road")) (aCons (eC (.int 0)) (aCons (eC (.bl true)) aNil)))) (aCons (eTup (aCons (eC (.str "road")) (aCons (eC (.bl false)) (aCons (eC (.int 1)) aNil)))) aNil))))) (tgName 3)) (sSeq (sPar [4, 5] (pCons (eFn f__law_draw [true, false] (aCons (eVar 0) (aCons (eOp2 fAdd (eCall fLen (aCons (eVar 2) aNil)) (eC (.int 1))) aNil))) (pCons (eFn f__law_draw [true, false] (aCons (eVar 0) (aCons (eC (.int 5)) aNil))) pNil))) (sSeq (sAsg (eIx (eVar 3) (eFn f__law_draw [true, false] (aCons (eVar 0) (aCons (eC (.int 20)) aNil)))) (tgName 6)) (sSeq (sAsg (eLst (aCons (eOp2 fAdd (eOp2 fAdd (eCut (eVar 2) oNone (oSome (eVar 4))) (eLst (aCons (eVar 6) aNil))) (eCut (eVar 2) (oSome (eVar 4)) oNone)) (aCons (eOp2 fAdd (eCut (eVar 2) oNone (oSome (eVar 4))) (eCut (eVar 2) (oSome (eOp2 fAdd (eVar 4) (eC (.int 1)))) oNone)) (aCons (eCut (eVar 2) oNone (oSome (eVar 4))) (aCons (eCut (eVar 2) (oSome (eVar 4)) oNone) (aCons (eOp2 fAdd (eCut (eVar 2) oNone (oSome (eVar 4))) (eLst (aCons (eVar 6) aNil))) aNil)))))) (tgName 7)) (sRet (eIx (eVar 7) (eVar 5)))))))))
def f__law_bent : Fn := bodyF 3 8 m__law_bent
def m__law_order_in : S := (sSeq (sAsg (eVar 0) (tgTup 4 (tgCons (tgName 2) (tgCons (tgName 3) (tgCons (tgName 4) (tgCons (tgName 5) tgNil)))))) (sSeq (sIf (bNot (tst (eIsLT (eVar 1)))) (sRet (eC .non)) sNx) (sSeq (sPar [6, 7, 8] (pCons (eRep (eLst (aCons (eC (.int 0)) aNil)) (eVar 2)) (pCons (eC (.int 0)) (pCons (eTup aNil) pNil)))) (sSeq (sFor (iSeq (eVar 1)) (tgName 9) (sSeq (sIf (bOr (bNot (tst (eIsi .tuple (eVar 9)))) (tst (eOp2 fNin (eCall fLen (aCons (eVar 9) aNil)) (eTup (aCons (eC (.int 2)) (aCons (eC (.int 3)) aNil)))))) (sRet (eC .non)) sNx) (sSeq (sIf (tst (eOp2 fNe (eComp (iSeq (eCut (eVar 9) (oSome (eC (.int 1))) oNone)) (tgName 10) (bOr (tst (eIsi .bool (eVar 10))) (bNot (tst (eIsi .int (eVar 10))))) (eC (.int 1)) [10]) (eLst aNil))) (sRet (eC .non)) sNx) (sIf (bAnd (tst (eOp2 fEq2 (eIx (eVar 9) (eC (.int 0))) (eC (.str "in")))) (bAnd (tst (eOp2 fEq (eCall fLen (aCons (eVar 9) aNil)) (eC (.int 2)))) (bAnd (tst (eOp2 fIn (eIx (eVar 9) (eC (.int 1))) (eVar 4))) (tst (eOp2 fEq (eIx (eVar 6) (eIx (eVar 9) (eC (.int 1)))) (eC (.int 0))))))) (sSeq (sAsg (eOp2 fAdd (eVar 7) (eC (.int 1))) (tgName 7)) (sSub (eVar 7) (eVar 6) (eIx (eVar 9) (eC (.int 1))))) (sIf (bAnd (tst (eOp2 fEq2 (eIx (eVar 9) (eC (.int 0))) (eC (.str "out")))) (bAnd (tst (eOp2 fEq (eCall fLen (aCons (eVar 9) aNil)) (eC (.int 2)))) (bAnd (tst (eOp2 fIn (eIx (eVar 9) (eC (.int 1))) (eVar 5))) (tst (eOp2 (fI kGt) (eIx (eVar 6) (eIx (eVar 9) (eC (.int 1)))) (eC (.int 0))))))) (sSeq (sAsg (eOp2 fAdd (eVar 8) (eTup (aCons (eIx (eVar 6) (eIx (eVar 9) (eC (.int 1)))) aNil))) (tgName 8)) (sSub (eC (.int 0)) (eVar 6) (eIx (eVar 9) (eC (.int 1))))) (sIf (bAnd (tst (eOp2 fEq2 (eIx (eVar 9) (eC (.int 0))) (eC (.str "road")))) (bAnd (tst (eOp2 fIn (eCut (eVar 9) (oSome (eC (.int 1))) oNone) (eVar 3))) (bAnd (tst (eOp2 (fI kGt) (eIx (eVar 6) (eIx (eVar 9) (eC (.int 1)))) (eC (.int 0)))) (tst (eOp2 fEq (eIx (eVar 6) (eIx (eVar 9) (eC (.int 2)))) (eC (.int 0))))))) (sSeq (sSub (eIx (eVar 6) (eIx (eVar 9) (eC (.int 1)))) (eVar 6) (eIx (eVar 9) (eC (.int 2)))) (sSub (eC (.int 0)) (eVar 6) (eIx (eVar 9) (eC (.int 1))))) (sRet (eC .non)))))))) (sRet (eIf (tst (eOp2 fEq (eVar 6) (eRep (eLst (aCons (eC (.int 0)) aNil)) (eVar 2)))) (eVar 8) (eC .non)))))))
def f__law_order_in : Fn := bodyF 2 11 m__law_order_in
def m__law_right : S := (sSeq (sAsg (eFn f__law_raw [true, false] (aCons (eVar 0) (aCons (eC (.int 4)) aNil))) (tgName 1)) (sSeq (sAsg (eFn f__law_built [false] (aCons (eVar 1) aNil)) (tgName 2)) (sSeq (sAsg (eFn f__law_led [true, false, false] (aCons (eVar 0) (aCons (eVar 1) (aCons (eOp2 fAdd (eC (.int 4)) (eFn f__law_draw [true, false] (aCons (eVar 0) (aCons (eC (.int 30)) aNil)))) aNil)))) (tgName 3)) (sSeq (sAsg (eFn f__law_flipped [true, false] (aCons (eVar 0) (aCons (eFn f__law_flipped [true, false] (aCons (eVar 0) (aCons (eVar 1) aNil))) aNil))) (tgName 4)) (sSeq (sAsg (eLst (aCons (eVar 3) (aCons (eCall fTuple (aCons (eVar 3) aNil)) (aCons (eFn f__law_bent [true, false, false] (aCons (eVar 0) (aCons (eVar 1) (aCons (eVar 3) aNil)))) (aCons (eFn f__law_bent [true, false, false] (aCons (eVar 0) (aCons (eVar 1) (aCons (eCut (eVar 3) oNone (oSome (eC (.int 6)))) aNil)))) aNil))))) (tgName 5)) (sSeq (sAsg (eOp2 fAdd (eVar 5) (eLst (aCons (eFn f__law_led [true, false, false] (aCons (eVar 0) (aCons (eVar 4) (aCons (eOp2 fAdd (eC (.int 4)) (eFn f__law_draw [true, false] (aCons (eVar 0) (aCons (eC (.int 20)) aNil)))) aNil)))) (aCons (eFn f__law_led [true, false, false] (aCons (eVar 0) (aCons (eVar 4) (aCons (eC (.int 8)) aNil)))) aNil)))) (tgName 5)) (sSeq (sExpr (eLM 5 fApp (aCons (eIx (eLst (aCons (eC .non) (aCons (eC (.int 5)) (aCons (eC (.str "in")) (aCons eDic0 (aCons (eC (.bl true)) (aCons (eLst (aCons (eLst aNil) aNil)) (aCons (eLst (aCons (eTup (aCons (eC (.str "in")) aNil)) aNil)) (aCons (eTup (aCons eDic0 aNil)) aNil))))))))) (eFn f__law_draw [true, false] (aCons (eVar 0) (aCons (eC (.int 8)) aNil)))) aNil))) (sSeq (sFor (iSeq (eVar 5)) (tgName 6) (sSeq (sAsg (eFn f__law_order_in [false, false] (aCons (eVar 1) (aCons (eVar 6) aNil))) (tgName 7)) (sSeq (sIf (bOr (tst (eOp2 fNe (eCall fStr2 (aCons (eFn f_is_run [false, false] (aCons (eVar 2) (aCons (eVar 6) aNil))) aNil)) (eCall fStr2 (aCons (eOp2 fIsN (eVar 7) (eC .non)) aNil)))) (tst (eOp2 fNe (eCall fStr2 (aCons (eFnK f_is_run [false, false] 0 2 [1, 0] [] aNil (aCons (eVar 6) (aCons (eVar 2) aNil))) aNil)) (eCall fStr2 (aCons (eOp2 fIsN (eVar 7) (eC .non)) aNil))))) (sRet (eC (.bl false))) sNx) (sSeq (sIf (bAnd (tst (eOp2 fIs (eVar 7) (eC .non))) (tst (eOp2 fNe (eCall fStr2 (aCons (eFn f__law_caught [false, false] (aCons (eVar 2) (aCons (eVar 6) aNil))) aNil)) (eCall fStr2 (aCons (eLst (aCons (eC (.str "move")) (aCons (eVar 6) aNil))) aNil))))) (sRet (eC (.bl false))) sNx) (sIf (tst (eOp2 fIsN (eVar 7) (eC .non))) (sIf (bOr (tst (eOp2 fNe (eFn f_order_made [false, false] (aCons (eVar 2) (aCons (eVar 6) aNil))) (eVar 7))) (tst (eOp2 fNe (eFnK f_order_made [false, false] 0 2 [1, 0] [] aNil (aCons (eVar 6) (aCons (eVar 2) aNil))) (eVar 7)))) (sRet (eC (.bl false))) sNx) sNx))))) (sRet (eAnd (eOp2 fIs (eFn f_is_run [false, false] (aCons (eVar 2) (aCons (eLst aNil) aNil))) (eC (.bl true))) (eOp2 fEq (eFn f_order_made [false, false] (aCons (eVar 2) (aCons (eTup aNil) aNil))) (eTup aNil))))))))))))
def f__law_right : Fn := bodyF 1 8 m__law_right
def m_law : S := (sSeq (sFor (iRg1 (aCons (eOp2 fAdd (eC (.int 1)) (eCall fMin (aCons (eC (.int 8)) (aCons (eCall fLen (aCons (eVar 0) aNil)) aNil)))) aNil)) (tgName 1) (sSeq (sAsg (eFn f__law_purse [false, false] (aCons (eVar 0) (aCons (eVar 1) aNil))) (tgName 2)) (sFor (iRg1 (aCons (eC (.int 3)) aNil)) (tgName 3) (sIf (bNot (tst (eFn f__law_right [true] (aCons (eVar 2) aNil)))) (sRet (eC (.bl false))) sNx)))) (sSeq (sAsg (eMkK "Yard" f_Yard_init 1 3 [0, 1, 2, 3] [] (aCons (eC (.int 2)) aNil) (aCons (eLst (aCons (eTup (aCons (eC (.int 0)) (aCons (eC (.int 1)) aNil))) (aCons (eTup (aCons (eC (.int 1)) (aCons (eC (.int 0)) aNil))) aNil))) (aCons (eLst (aCons (eC (.int 0)) aNil)) (aCons (eLst (aCons (eC (.int 0)) aNil)) aNil)))) (tgName 4)) (sSeq (sAsg (eLst (aCons (eTup (aCons (eC (.str "in")) (aCons (eC (.int 0)) aNil))) (aCons (eTup (aCons (eC (.str "road")) (aCons (eC (.int 0)) (aCons (eC (.int 1)) aNil)))) (aCons (eTup (aCons (eC (.str "in")) (aCons (eC (.int 0)) aNil))) (aCons (eTup (aCons (eC (.str "out")) (aCons (eC (.int 0)) aNil))) (aCons (eTup (aCons (eC (.str "road")) (aCons (eC (.int 1)) (aCons (eC (.int 0)) aNil)))) (aCons (eTup (aCons (eC (.str "out")) (aCons (eC (.int 0)) aNil))) aNil))))))) (tgName 5)) (sSeq (sIf (bOr (tst (eOp2 fNe (eFn f_order_made [false, false] (aCons (eVar 4) (aCons (eVar 5) aNil))) (eTup (aCons (eC (.int 2)) (aCons (eC (.int 1)) aNil))))) (tst (eOp2 fIsN (eFn f_is_run [false, false] (aCons (eVar 4) (aCons (eCut (eVar 5) oNone (oSome (eNeg (eC (.int 1))))) aNil))) (eC (.bl false))))) (sRet (eC (.bl false))) sNx) (sRet (eAnd (eOp2 fEq (eFn f__law_caught [false, false] (aCons (eC .non) (aCons (eVar 5) aNil))) (eLst (aCons (eC (.str "yard")) (aCons (eC .non) aNil)))) (eOp2 fIs (eFn f_is_run [false, false] (aCons (eVar 4) (aCons (eCut (eVar 5) (oSome (eC (.int 1))) oNone) aNil))) (eC (.bl false)))))))))
def f_law : Fn := bodyF 1 6 m_law
/-! what the module holds -/
structure Ad where
  a_is_number : Addr
  d_is_number : FuncData
  a_is_cell : Addr
  d_is_cell : FuncData
  a_is_road : Addr
  d_is_road : FuncData
  a_checked_roads : Addr
  d_checked_roads : FuncData
  a_checked_cells : Addr
  d_checked_cells : FuncData
  a_Yard_init : Addr
  d_Yard_init : FuncData
  a__law_purse : Addr
  d__law_purse : FuncData
  a_require_yard : Addr
  d_require_yard : FuncData
  a_empty_of : Addr
  d_empty_of : FuncData
  a_with_cell : Addr
  d_with_cell : FuncData
  a_moved : Addr
  d_moved : FuncData
  a_is_move : Addr
  d_is_move : FuncData
  a_blocked_at : Addr
  d_blocked_at : FuncData
  a_order_in : Addr
  d_order_in : FuncData
  a_order_made : Addr
  d_order_made : FuncData
  a_is_run : Addr
  d_is_run : FuncData
  a__law_caught : Addr
  d__law_caught : FuncData
  a__law_mixed : Addr
  d__law_mixed : FuncData
  a__law_draw : Addr
  d__law_draw : FuncData
  a__law_menu : Addr
  d__law_menu : FuncData
  a__law_flipped : Addr
  d__law_flipped : FuncData
  a__law_raw : Addr
  d__law_raw : FuncData
  a__law_built : Addr
  d__law_built : FuncData
  a__law_open : Addr
  d__law_open : FuncData
  a__law_led : Addr
  d__law_led : FuncData
  a__law_bent : Addr
  d__law_bent : FuncData
  a__law_order_in : Addr
  d__law_order_in : FuncData
  a__law_right : Addr
  d__law_right : FuncData
  a_law : Addr
  d_law : FuncData
  C_YardError : Addr
  C_InvalidNumber : Addr
  C_InvalidRoads : Addr
  C_InvalidCells : Addr
  C_InvalidYard : Addr
  C_InvalidMove : Addr
  C_Yard : Addr
  i_InvalidNumber : Addr
  e_InvalidNumber : FuncData
  i_InvalidRoads : Addr
  e_InvalidRoads : FuncData
  i_InvalidCells : Addr
  e_InvalidCells : FuncData
  i_InvalidYard : Addr
  e_InvalidYard : FuncData
  i_InvalidMove : Addr
  e_InvalidMove : FuncData
structure Fa (K : PySem.W.Frag) (mg : Str → Option Value) (r : Ad) : Prop where
  b_set : mg "set" = none
  b_len : mg "len" = none
  b_int : mg "int" = none
  b_max : mg "max" = none
  b_min : mg "min" = none
  b_all : mg "all" = none
  b_sum : mg "sum" = none
  b_sorted : mg "sorted" = none
  b_list : mg "list" = none
  b_tuple : mg "tuple" = none
  b_str : mg "str" = none
  b_isinstance : mg "isinstance" = none
  b_range : mg "range" = none
  b_enumerate : mg "enumerate" = none
  b_bool : mg "bool" = none
  b_dict : mg "dict" = none
  mg_is_number : mg "is_number" = some (.ref r.a_is_number)
  fn_is_number : Fun K "is_number" "is_number" s_is_number r.a_is_number r.d_is_number
  bd_is_number : Binds K r.d_is_number ["thing"] []
  mg_is_cell : mg "is_cell" = some (.ref r.a_is_cell)
  fn_is_cell : Fun K "is_cell" "is_cell" s_is_cell r.a_is_cell r.d_is_cell
  bd_is_cell : Binds K r.d_is_cell ["thing", "cells"] []
  mg_is_road : mg "is_road" = some (.ref r.a_is_road)
  fn_is_road : Fun K "is_road" "is_road" s_is_road r.a_is_road r.d_is_road
  bd_is_road : Binds K r.d_is_road ["thing", "cells"] []
  mg_checked_roads : mg "checked_roads" = some (.ref r.a_checked_roads)
  fn_checked_roads : Fun K "checked_roads" "checked_roads" s_checked_roads r.a_checked_roads r.d_checked_roads
  bd_checked_roads : Binds K r.d_checked_roads ["thing", "cells"] []
  mg_checked_cells : mg "checked_cells" = some (.ref r.a_checked_cells)
  fn_checked_cells : Fun K "checked_cells" "checked_cells" s_checked_cells r.a_checked_cells r.d_checked_cells
  bd_checked_cells : Binds K r.d_checked_cells ["thing", "cells"] []
  fn_Yard_init : Fun K "__init__" "Yard.__init__" s_Yard_init r.a_Yard_init r.d_Yard_init
  mg__law_purse : mg "_law_purse" = some (.ref r.a__law_purse)
  fn__law_purse : Fun K "_law_purse" "_law_purse" s__law_purse r.a__law_purse r.d__law_purse
  bd__law_purse : Binds K r.d__law_purse ["cells", "at"] []
  mg_require_yard : mg "require_yard" = some (.ref r.a_require_yard)
  fn_require_yard : Fun K "require_yard" "require_yard" s_require_yard r.a_require_yard r.d_require_yard
  bd_require_yard : Binds K r.d_require_yard ["thing"] []
  mg_empty_of : mg "empty_of" = some (.ref r.a_empty_of)
  fn_empty_of : Fun K "empty_of" "empty_of" s_empty_of r.a_empty_of r.d_empty_of
  bd_empty_of : Binds K r.d_empty_of ["yard"] []
  mg_with_cell : mg "with_cell" = some (.ref r.a_with_cell)
  fn_with_cell : Fun K "with_cell" "with_cell" s_with_cell r.a_with_cell r.d_with_cell
  bd_with_cell : Binds K r.d_with_cell ["cells", "x", "item"] []
  mg_moved : mg "moved" = some (.ref r.a_moved)
  fn_moved : Fun K "moved" "moved" s_moved r.a_moved r.d_moved
  bd_moved : Binds K r.d_moved ["cells", "move", "item"] []
  mg_is_move : mg "is_move" = some (.ref r.a_is_move)
  fn_is_move : Fun K "is_move" "is_move" s_is_move r.a_is_move r.d_is_move
  bd_is_move : Binds K r.d_is_move ["yard", "thing"] []
  mg_blocked_at : mg "blocked_at" = some (.ref r.a_blocked_at)
  fn_blocked_at : Fun K "blocked_at" "blocked_at" s_blocked_at r.a_blocked_at r.d_blocked_at
  bd_blocked_at : Binds K r.d_blocked_at ["cells", "move"] []
  mg_order_in : mg "order_in" = some (.ref r.a_order_in)
  fn_order_in : Fun K "order_in" "order_in" s_order_in r.a_order_in r.d_order_in
  bd_order_in : Binds K r.d_order_in ["yard", "thing"] []
  mg_order_made : mg "order_made" = some (.ref r.a_order_made)
  fn_order_made : Fun K "order_made" "order_made" s_order_made r.a_order_made r.d_order_made
  bd_order_made : Binds K r.d_order_made ["yard", "moves"] []
  mg_is_run : mg "is_run" = some (.ref r.a_is_run)
  fn_is_run : Fun K "is_run" "is_run" s_is_run r.a_is_run r.d_is_run
  bd_is_run : Binds K r.d_is_run ["yard", "thing"] []
  mg__law_caught : mg "_law_caught" = some (.ref r.a__law_caught)
  fn__law_caught : Fun K "_law_caught" "_law_caught" s__law_caught r.a__law_caught r.d__law_caught
  bd__law_caught : Binds K r.d__law_caught ["made", "row_of"] []
  mg__law_mixed : mg "_law_mixed" = some (.ref r.a__law_mixed)
  fn__law_mixed : Fun K "_law_mixed" "_law_mixed" s__law_mixed r.a__law_mixed r.d__law_mixed
  bd__law_mixed : Binds K r.d__law_mixed ["cell", "k"] []
  mg__law_draw : mg "_law_draw" = some (.ref r.a__law_draw)
  fn__law_draw : Fun K "_law_draw" "_law_draw" s__law_draw r.a__law_draw r.d__law_draw
  bd__law_draw : Binds K r.d__law_draw ["purse", "out_of"] []
  mg__law_menu : mg "_law_menu" = some (.ref r.a__law_menu)
  fn__law_menu : Fun K "_law_menu" "_law_menu" s__law_menu r.a__law_menu r.d__law_menu
  bd__law_menu : Binds K r.d__law_menu ["which"] []
  mg__law_flipped : mg "_law_flipped" = some (.ref r.a__law_flipped)
  fn__law_flipped : Fun K "_law_flipped" "_law_flipped" s__law_flipped r.a__law_flipped r.d__law_flipped
  bd__law_flipped : Binds K r.d__law_flipped ["purse", "raw"] []
  mg__law_raw : mg "_law_raw" = some (.ref r.a__law_raw)
  fn__law_raw : Fun K "_law_raw" "_law_raw" s__law_raw r.a__law_raw r.d__law_raw
  bd__law_raw : Binds K r.d__law_raw ["purse", "most"] []
  mg__law_built : mg "_law_built" = some (.ref r.a__law_built)
  fn__law_built : Fun K "_law_built" "_law_built" s__law_built r.a__law_built r.d__law_built
  bd__law_built : Binds K r.d__law_built ["raw"] []
  mg__law_open : mg "_law_open" = some (.ref r.a__law_open)
  fn__law_open : Fun K "_law_open" "_law_open" s__law_open r.a__law_open r.d__law_open
  bd__law_open : Binds K r.d__law_open ["raw", "inside"] []
  mg__law_led : mg "_law_led" = some (.ref r.a__law_led)
  fn__law_led : Fun K "_law_led" "_law_led" s__law_led r.a__law_led r.d__law_led
  bd__law_led : Binds K r.d__law_led ["purse", "raw", "most"] []
  mg__law_bent : mg "_law_bent" = some (.ref r.a__law_bent)
  fn__law_bent : Fun K "_law_bent" "_law_bent" s__law_bent r.a__law_bent r.d__law_bent
  bd__law_bent : Binds K r.d__law_bent ["purse", "raw", "deeds"] []
  mg__law_order_in : mg "_law_order_in" = some (.ref r.a__law_order_in)
  fn__law_order_in : Fun K "_law_order_in" "_law_order_in" s__law_order_in r.a__law_order_in r.d__law_order_in
  bd__law_order_in : Binds K r.d__law_order_in ["raw", "deeds"] []
  mg__law_right : mg "_law_right" = some (.ref r.a__law_right)
  fn__law_right : Fun K "_law_right" "_law_right" s__law_right r.a__law_right r.d__law_right
  bd__law_right : Binds K r.d__law_right ["purse"] []
  mg_law : mg "law" = some (.ref r.a_law)
  fn_law : Fun K "law" "law" s_law r.a_law r.d_law
  bd_law : Binds K r.d_law ["script"] []
  mg_Yard : mg "Yard" = some (.ref r.C_Yard)
  cl_Yard : Cls K r.C_Yard
  mk_Yard : Mk K r.C_Yard r.a_Yard_init
  oi_Yard : OwnIs K r.C_Yard
  fo_cells : FldOk K mg ["Yard"] "cells"
  fo_entries : FldOk K mg ["Yard"] "entries"
  fo_exits : FldOk K mg ["Yard"] "exits"
  fo_roads : FldOk K mg ["Yard"] "roads"
  kb_Yard_init_1_roads_entries_exits : KBz K r.d_Yard_init ["self", "cells", "roads", "entries", "exits"] 2 ["roads", "entries", "exits"] [0, 1, 2, 3, 4] []
  kb_is_run_0_thing_yard : KBz K r.d_is_run ["yard", "thing"] 0 ["thing", "yard"] [1, 0] []
  kb_order_made_0_moves_yard : KBz K r.d_order_made ["yard", "moves"] 0 ["moves", "yard"] [1, 0] []
  mg_YardError : mg "YardError" = some (.ref r.C_YardError)
  mg_InvalidNumber : mg "InvalidNumber" = some (.ref r.C_InvalidNumber)
  ox_InvalidNumber : OexC K r.C_InvalidNumber
  nf_InvalidNumber_thing : PySem.W.findIn K (.ref r.C_InvalidNumber) "thing" = some none
  mg_InvalidRoads : mg "InvalidRoads" = some (.ref r.C_InvalidRoads)
  ox_InvalidRoads : OexC K r.C_InvalidRoads
  nf_InvalidRoads_place : PySem.W.findIn K (.ref r.C_InvalidRoads) "place" = some none
  mg_InvalidCells : mg "InvalidCells" = some (.ref r.C_InvalidCells)
  ox_InvalidCells : OexC K r.C_InvalidCells
  nf_InvalidCells_place : PySem.W.findIn K (.ref r.C_InvalidCells) "place" = some none
  mg_InvalidYard : mg "InvalidYard" = some (.ref r.C_InvalidYard)
  ox_InvalidYard : OexC K r.C_InvalidYard
  nf_InvalidYard_thing : PySem.W.findIn K (.ref r.C_InvalidYard) "thing" = some none
  xf_InvalidYard : XfC K r.C_InvalidYard
  mg_InvalidMove : mg "InvalidMove" = some (.ref r.C_InvalidMove)
  ox_InvalidMove : OexC K r.C_InvalidMove
  nf_InvalidMove_thing : PySem.W.findIn K (.ref r.C_InvalidMove) "thing" = some none
  xf_InvalidMove : XfC K r.C_InvalidMove
  in_InvalidNumber : PySem.W.findIn K (.ref r.C_InvalidNumber) "__init__" = some (some (.ref r.i_InvalidNumber))
  ti_InvalidNumber : PySem.W.typeIn K (.ref r.i_InvalidNumber) = some (.type "function")
  fi_InvalidNumber : Fun K "__init__" "InvalidNumber.__init__" si_InvalidNumber r.i_InvalidNumber r.e_InvalidNumber
  bi_InvalidNumber : Binds K r.e_InvalidNumber ["self", "thing"] []
  in_InvalidRoads : PySem.W.findIn K (.ref r.C_InvalidRoads) "__init__" = some (some (.ref r.i_InvalidRoads))
  ti_InvalidRoads : PySem.W.typeIn K (.ref r.i_InvalidRoads) = some (.type "function")
  fi_InvalidRoads : Fun K "__init__" "InvalidRoads.__init__" si_InvalidRoads r.i_InvalidRoads r.e_InvalidRoads
  bi_InvalidRoads : Binds K r.e_InvalidRoads ["self", "place"] []
  in_InvalidCells : PySem.W.findIn K (.ref r.C_InvalidCells) "__init__" = some (some (.ref r.i_InvalidCells))
  ti_InvalidCells : PySem.W.typeIn K (.ref r.i_InvalidCells) = some (.type "function")
  fi_InvalidCells : Fun K "__init__" "InvalidCells.__init__" si_InvalidCells r.i_InvalidCells r.e_InvalidCells
  bi_InvalidCells : Binds K r.e_InvalidCells ["self", "place"] []
  in_InvalidYard : PySem.W.findIn K (.ref r.C_InvalidYard) "__init__" = some (some (.ref r.i_InvalidYard))
  ti_InvalidYard : PySem.W.typeIn K (.ref r.i_InvalidYard) = some (.type "function")
  fi_InvalidYard : Fun K "__init__" "InvalidYard.__init__" si_InvalidYard r.i_InvalidYard r.e_InvalidYard
  bi_InvalidYard : Binds K r.e_InvalidYard ["self", "thing"] []
  in_InvalidMove : PySem.W.findIn K (.ref r.C_InvalidMove) "__init__" = some (some (.ref r.i_InvalidMove))
  ti_InvalidMove : PySem.W.typeIn K (.ref r.i_InvalidMove) = some (.type "function")
  fi_InvalidMove : Fun K "__init__" "InvalidMove.__init__" si_InvalidMove r.i_InvalidMove r.e_InvalidMove
  bi_InvalidMove : Binds K r.e_InvalidMove ["self", "thing"] []
  em_InvalidMove_InvalidMove : PySem.W.exmOne K (.ref r.C_InvalidMove) (.ref r.C_InvalidMove) = some true
  em_InvalidMove_InvalidYard : PySem.W.exmOne K (.ref r.C_InvalidMove) (.ref r.C_InvalidYard) = some false
  em_InvalidMove_YardError : PySem.W.exmOne K (.ref r.C_InvalidMove) (.ref r.C_YardError) = some true
  em_InvalidYard_InvalidMove : PySem.W.exmOne K (.ref r.C_InvalidYard) (.ref r.C_InvalidMove) = some false
  em_InvalidYard_InvalidYard : PySem.W.exmOne K (.ref r.C_InvalidYard) (.ref r.C_InvalidYard) = some true
  em_InvalidYard_YardError : PySem.W.exmOne K (.ref r.C_InvalidYard) (.ref r.C_YardError) = some true
/-! the derivations -/
section
variable {P : Program} {w : World} {K : PySem.W.Frag} {mg : Str → Option Value} {base : Heap} {r : Ad}
theorem sci_InvalidNumber : FnScope ["self", "thing"] ["self", "thing"] (defScope si_InvalidNumber) := ⟨rfl, rfl, rfl, by decide +kernel, rfl, by decide +kernel, by decide +kernel⟩
theorem ok_init_InvalidNumber (T : Fa K mg r) : FnOk P w K mg base L2.CX0 1 r.i_InvalidNumber r.e_InvalidNumber ["self", "thing"] (spI K "thing") := ok_init1 T.fi_InvalidNumber sci_InvalidNumber rfl rfl rfl (by decide) (by decide) (by decide) (by decide)
theorem sci_InvalidRoads : FnScope ["self", "place"] ["self", "place"] (defScope si_InvalidRoads) := ⟨rfl, rfl, rfl, by decide +kernel, rfl, by decide +kernel, by decide +kernel⟩
theorem ok_init_InvalidRoads (T : Fa K mg r) : FnOk P w K mg base L2.CX0 1 r.i_InvalidRoads r.e_InvalidRoads ["self", "place"] (spI K "place") := ok_init1 T.fi_InvalidRoads sci_InvalidRoads rfl rfl rfl (by decide) (by decide) (by decide) (by decide)
theorem sci_InvalidCells : FnScope ["self", "place"] ["self", "place"] (defScope si_InvalidCells) := ⟨rfl, rfl, rfl, by decide +kernel, rfl, by decide +kernel, by decide +kernel⟩
theorem ok_init_InvalidCells (T : Fa K mg r) : FnOk P w K mg base L2.CX0 1 r.i_InvalidCells r.e_InvalidCells ["self", "place"] (spI K "place") := ok_init1 T.fi_InvalidCells sci_InvalidCells rfl rfl rfl (by decide) (by decide) (by decide) (by decide)
theorem sci_InvalidYard : FnScope ["self", "thing"] ["self", "thing"] (defScope si_InvalidYard) := ⟨rfl, rfl, rfl, by decide +kernel, rfl, by decide +kernel, by decide +kernel⟩
theorem ok_init_InvalidYard (T : Fa K mg r) : FnOk P w K mg base L2.CX0 1 r.i_InvalidYard r.e_InvalidYard ["self", "thing"] (spI K "thing") := ok_init1 T.fi_InvalidYard sci_InvalidYard rfl rfl rfl (by decide) (by decide) (by decide) (by decide)
theorem sci_InvalidMove : FnScope ["self", "thing"] ["self", "thing"] (defScope si_InvalidMove) := ⟨rfl, rfl, rfl, by decide +kernel, rfl, by decide +kernel, by decide +kernel⟩
theorem ok_init_InvalidMove (T : Fa K mg r) : FnOk P w K mg base L2.CX0 1 r.i_InvalidMove r.e_InvalidMove ["self", "thing"] (spI K "thing") := ok_init1 T.fi_InvalidMove sci_InvalidMove rfl rfl rfl (by decide) (by decide) (by decide) (by decide)
theorem sc_is_number : FnScope ["thing"] ["thing"] (defScope s_is_number) := ⟨rfl, rfl, rfl, by decide +kernel, rfl, by decide +kernel, by decide +kernel⟩
theorem ok_is_number (T : Fa K mg r) : FnZ P w K mg base 1 r.a_is_number r.d_is_number ["thing"] f_is_number := .of T.fn_is_number sc_is_number fun cdv A outer s H W hg hr => (show DSs _ _ _ m_is_number from
  (dss_one (ds_ret (de_and (de_isi (t := .int) T.b_isinstance T.b_int (de_v 0)) (de_and (de_not (de_isi (t := .bool) T.b_isinstance T.b_bool (de_v 0))) (de_one (de_cp od_ge (de_v 0) de_int)))))))
theorem sc_is_cell : FnScope ["thing", "cells"] ["thing", "cells"] (defScope s_is_cell) := ⟨rfl, rfl, rfl, by decide +kernel, rfl, by decide +kernel, by decide +kernel⟩
theorem ok_is_cell (T : Fa K mg r) : FnZ P w K mg base 2 r.a_is_cell r.d_is_cell ["thing", "cells"] f_is_cell := .of T.fn_is_cell sc_is_cell fun cdv A outer s H W hg hr => (show DSs _ _ _ m_is_cell from
  (dss_one (ds_ret (de_and (de_call (md := [false]) (ok_is_number T) T.mg_is_number T.fn_is_number.kp T.bd_is_number hg (hr.mono (by decide)) (takes_of rfl rfl rfl rfl) (da_cons (de_v 0) da_nil)) (de_one (de_cp od_lt (de_v 0) (de_v 1)))))))
theorem sc_is_road : FnScope ["thing", "cells"] ["thing", "cells"] (defScope s_is_road) := ⟨rfl, rfl, rfl, by decide +kernel, rfl, by decide +kernel, by decide +kernel⟩
theorem ok_is_road (T : Fa K mg r) : FnZ P w K mg base 3 r.a_is_road r.d_is_road ["thing", "cells"] f_is_road := .of T.fn_is_road sc_is_road fun cdv A outer s H W hg hr => (show DSs _ _ _ m_is_road from
  (dss_cons (ds_if (DW.dt (dw_or (dt_not (dt_val (de_isi (t := .tuple) T.b_isinstance T.b_tuple (de_v 0)))) (dw_or (dt_cp (od_ne hr.units) (de_callB cd_len T.b_len (da_cons (de_v 0) da_nil)) de_int) (dw_or (dt_not (dt_val (de_call (md := [false, false]) (ok_is_cell T) T.mg_is_cell T.fn_is_cell.kp T.bd_is_cell hg (hr.mono (by decide)) (takes_of rfl rfl rfl rfl) (da_cons (de_ix (de_v 0) de_int (fun _ _ => rfl)) (da_cons (de_v 1) da_nil))))) (dw_or1 (dt_not (dt_val (de_call (md := [false, false]) (ok_is_cell T) T.mg_is_cell T.fn_is_cell.kp T.bd_is_cell hg (hr.mono (by decide)) (takes_of rfl rfl rfl rfl) (da_cons (de_ix (de_v 0) de_int (fun _ _ => rfl)) (da_cons (de_v 1) da_nil)))))))))) (dss_one (ds_ret de_bl)) dss_nil) (dss_one (ds_ret (de_cp (od_ne hr.units) (de_ix (de_v 0) de_int (fun _ _ => rfl)) (de_ix (de_v 0) de_int (fun _ _ => rfl)))))))
theorem sc_checked_roads : FnScope ["thing", "cells", "place", "road"] ["thing", "cells"] (defScope s_checked_roads) := ⟨rfl, rfl, rfl, by decide +kernel, rfl, by decide +kernel, by decide +kernel⟩
theorem ok_checked_roads (T : Fa K mg r) : FnZ P w K mg base 4 r.a_checked_roads r.d_checked_roads ["thing", "cells"] f_checked_roads := .of T.fn_checked_roads sc_checked_roads fun cdv A outer s H W hg hr => (show DSs _ _ _ m_checked_roads from
  (dss_cons (ds_if (dt_not (dt_val (de_isLT T.b_isinstance T.b_list T.b_tuple (de_v 0)))) (dss_one (ds_raise1 rfl T.ox_InvalidRoads T.nf_InvalidRoads_place T.in_InvalidRoads T.ti_InvalidRoads (ok_init_InvalidRoads T) (hr.mono (by decide)) T.bi_InvalidRoads T.mg_InvalidRoads (takes_of rfl rfl rfl rfl) (da_cons de_non da_nil))) dss_nil) (dss_cons (ds_for (passes_of rfl) rfl (di_enum T.b_enumerate (de_v 0)) (dg_tup rfl (dgs_cons (pgn sc_checked_roads.nd 2) keeps_name (dgs_cons (pgn sc_checked_roads.nd 3) keeps_name dgs_nil))) (dss_one (ds_if (dt_not (dt_val (de_call (md := [false, false]) (ok_is_road T) T.mg_is_road T.fn_is_road.kp T.bd_is_road hg (hr.mono (by decide)) (takes_of rfl rfl rfl rfl) (da_cons (de_v 3) (da_cons (de_v 1) da_nil))))) (dss_one (ds_raise1 rfl T.ox_InvalidRoads T.nf_InvalidRoads_place T.in_InvalidRoads T.ti_InvalidRoads (ok_init_InvalidRoads T) (hr.mono (by decide)) T.bi_InvalidRoads T.mg_InvalidRoads (takes_of rfl rfl rfl rfl) (da_cons (de_v 2) da_nil))) dss_nil))) (dss_one (ds_ret (de_callT cd_tuple T.b_tuple (da_cons (de_ss rfl hr.units T.b_sorted T.b_set (de_v 0)) da_nil)))))))
theorem sc_checked_cells : FnScope ["thing", "cells", "place", "cell"] ["thing", "cells"] (defScope s_checked_cells) := ⟨rfl, rfl, rfl, by decide +kernel, rfl, by decide +kernel, by decide +kernel⟩
theorem ok_checked_cells (T : Fa K mg r) : FnZ P w K mg base 3 r.a_checked_cells r.d_checked_cells ["thing", "cells"] f_checked_cells := .of T.fn_checked_cells sc_checked_cells fun cdv A outer s H W hg hr => (show DSs _ _ _ m_checked_cells from
  (dss_cons (ds_if (dt_not (dt_val (de_isLT T.b_isinstance T.b_list T.b_tuple (de_v 0)))) (dss_one (ds_raise1 rfl T.ox_InvalidCells T.nf_InvalidCells_place T.in_InvalidCells T.ti_InvalidCells (ok_init_InvalidCells T) (hr.mono (by decide)) T.bi_InvalidCells T.mg_InvalidCells (takes_of rfl rfl rfl rfl) (da_cons de_non da_nil))) dss_nil) (dss_cons (ds_for (passes_of rfl) rfl (di_enum T.b_enumerate (de_v 0)) (dg_tup rfl (dgs_cons (pgn sc_checked_cells.nd 2) keeps_name (dgs_cons (pgn sc_checked_cells.nd 3) keeps_name dgs_nil))) (dss_one (ds_if (dt_not (dt_val (de_call (md := [false, false]) (ok_is_cell T) T.mg_is_cell T.fn_is_cell.kp T.bd_is_cell hg (hr.mono (by decide)) (takes_of rfl rfl rfl rfl) (da_cons (de_v 3) (da_cons (de_v 1) da_nil))))) (dss_one (ds_raise1 rfl T.ox_InvalidCells T.nf_InvalidCells_place T.in_InvalidCells T.ti_InvalidCells (ok_init_InvalidCells T) (hr.mono (by decide)) T.bi_InvalidCells T.mg_InvalidCells (takes_of rfl rfl rfl rfl) (da_cons (de_v 2) da_nil))) dss_nil))) (dss_one (ds_ret (de_callT cd_tuple T.b_tuple (da_cons (de_ss rfl hr.units T.b_sorted T.b_set (de_v 0)) da_nil)))))))
theorem sc_Yard_init : FnScope ["self", "cells", "roads", "entries", "exits"] ["self", "cells", "roads", "entries", "exits"] (defScope s_Yard_init) := ⟨rfl, rfl, rfl, by decide +kernel, rfl, by decide +kernel, by decide +kernel⟩
theorem ok_Yard_init (T : Fa K mg r) : FnZ P w K mg base 5 r.a_Yard_init r.d_Yard_init ["self", "cells", "roads", "entries", "exits"] f_Yard_init := .of T.fn_Yard_init sc_Yard_init fun cdv A outer s H W hg hr => (show DSs _ _ _ m_Yard_init from
  (dss_cons (ds_if (DW.dt (dw_or (dt_not (dt_val (de_call (md := [false]) (ok_is_number T) T.mg_is_number T.fn_is_number.kp T.bd_is_number hg (hr.mono (by decide)) (takes_of rfl rfl rfl rfl) (da_cons (de_v 1) da_nil)))) (dw_or1 (dt_cp (od_eq hr.units) (de_v 1) de_int)))) (dss_one (ds_raise1 rfl T.ox_InvalidNumber T.nf_InvalidNumber_thing T.in_InvalidNumber T.ti_InvalidNumber (ok_init_InvalidNumber T) (hr.mono (by decide)) T.bi_InvalidNumber T.mg_InvalidNumber (takes_of rfl rfl rfl rfl) (da_cons (de_v 1) da_nil))) dss_nil) (dss_cons (ds_fld (cs := ["Yard"]) T.fo_cells (pv_ 0) (de_v 1)) (dss_cons (ds_fld (cs := ["Yard"]) T.fo_roads (pv_ 0) (de_call (md := [false, false]) (ok_checked_roads T) T.mg_checked_roads T.fn_checked_roads.kp T.bd_checked_roads hg (hr.mono (by decide)) (takes_of rfl rfl rfl rfl) (da_cons (de_v 2) (da_cons (de_v 1) da_nil)))) (dss_cons (ds_fld (cs := ["Yard"]) T.fo_entries (pv_ 0) (de_call (md := [false, false]) (ok_checked_cells T) T.mg_checked_cells T.fn_checked_cells.kp T.bd_checked_cells hg (hr.mono (by decide)) (takes_of rfl rfl rfl rfl) (da_cons (de_v 3) (da_cons (de_v 1) da_nil)))) (dss_one (ds_fld (cs := ["Yard"]) T.fo_exits (pv_ 0) (de_call (md := [false, false]) (ok_checked_cells T) T.mg_checked_cells T.fn_checked_cells.kp T.bd_checked_cells hg (hr.mono (by decide)) (takes_of rfl rfl rfl rfl) (da_cons (de_v 4) (da_cons (de_v 1) da_nil))))))))))
theorem sc__law_purse : FnScope ["cells", "at", "cell"] ["cells", "at"] (defScope s__law_purse) := ⟨rfl, rfl, rfl, by decide +kernel, rfl, by decide +kernel, by decide +kernel⟩
theorem ok__law_purse (T : Fa K mg r) : FnZ P w K mg base 1 r.a__law_purse r.d__law_purse ["cells", "at"] f__law_purse := .of T.fn__law_purse sc__law_purse fun cdv A outer s H W hg hr => (show DSs _ _ _ m__law_purse from
  (dss_cons (ds_st sc__law_purse.nd 2 de_int) (dss_cons (ds_if (dt_cp od_lt (de_v 1) (de_callB cd_len T.b_len (da_cons (de_v 0) da_nil))) (dss_one (ds_st sc__law_purse.nd 2 (de_ix (de_v 0) (de_v 1) (fun _ _ => rfl)))) dss_nil) (dss_one (ds_ret (de_lst (da_cons (de_bin od_mod (de_callT cd_int T.b_int (da_cons (de_callB (cd_max rfl) T.b_max (da_cons (de_bin od_sub (de_v 2) (de_bin od_pow de_int de_int)) (da_cons de_int da_nil))) da_nil)) (de_bin od_pow (de_bin od_pow de_int de_int) de_int)) (da_cons (de_bin od_mod (de_callT cd_int T.b_int (da_cons (de_v 2) da_nil)) de_int) (da_cons (de_bin od_mulI de_int (de_v 1)) da_nil)))))))))
theorem sc_require_yard : FnScope ["thing"] ["thing"] (defScope s_require_yard) := ⟨rfl, rfl, rfl, by decide +kernel, rfl, by decide +kernel, by decide +kernel⟩
theorem ok_require_yard (T : Fa K mg r) : FnZ P w K mg base 3 r.a_require_yard r.d_require_yard ["thing"] f_require_yard := .of T.fn_require_yard sc_require_yard fun cdv A outer s H W hg hr => (show DSs _ _ _ m_require_yard from
  (dss_one (ds_if (dt_not (dt_val (de_isOwn T.oi_Yard T.mg_Yard T.b_isinstance (de_v 0)))) (dss_one (ds_raise1 rfl T.ox_InvalidYard T.nf_InvalidYard_thing T.in_InvalidYard T.ti_InvalidYard (ok_init_InvalidYard T) (hr.mono (by decide)) T.bi_InvalidYard T.mg_InvalidYard (takes_of rfl rfl rfl rfl) (da_cons (de_v 0) da_nil))) dss_nil)))
theorem sc_empty_of : FnScope ["yard"] ["yard"] (defScope s_empty_of) := ⟨rfl, rfl, rfl, by decide +kernel, rfl, by decide +kernel, by decide +kernel⟩
theorem ok_empty_of (T : Fa K mg r) : FnZ P w K mg base 1 r.a_empty_of r.d_empty_of ["yard"] f_empty_of := .of T.fn_empty_of sc_empty_of fun cdv A outer s H W hg hr => (show DSs _ _ _ m_empty_of from
  (dss_one (ds_ret (de_bin od_mul (de_tup (da_cons de_int da_nil)) (de_fld (cs := ["Yard"]) T.fo_cells (de_v 0))))))
theorem sc_with_cell : FnScope ["cells", "x", "item"] ["cells", "x", "item"] (defScope s_with_cell) := ⟨rfl, rfl, rfl, by decide +kernel, rfl, by decide +kernel, by decide +kernel⟩
theorem ok_with_cell (T : Fa K mg r) : FnZ P w K mg base 1 r.a_with_cell r.d_with_cell ["cells", "x", "item"] f_with_cell := .of T.fn_with_cell sc_with_cell fun cdv A outer s H W hg hr => (show DSs _ _ _ m_with_cell from
  (dss_one (ds_ret (de_bin od_add (de_bin od_add (de_cut (de_v 0) do_none (do_some (de_v 1))) (de_tup (da_cons (de_v 2) da_nil))) (de_cut (de_v 0) (do_some (de_bin od_add (de_v 1) de_int)) do_none)))))
theorem sc_moved : FnScope ["cells", "move", "item"] ["cells", "move", "item"] (defScope s_moved) := ⟨rfl, rfl, rfl, by decide +kernel, rfl, by decide +kernel, by decide +kernel⟩
theorem ok_moved (T : Fa K mg r) : FnZ P w K mg base 2 r.a_moved r.d_moved ["cells", "move", "item"] f_moved := .of T.fn_moved sc_moved fun cdv A outer s H W hg hr => (show DSs _ _ _ m_moved from
  (dss_cons (ds_if (dt_cp (od_eq2 hr.units) (de_ix (de_v 1) de_int (fun _ _ => rfl)) de_str) (dss_one (ds_ret (de_call (md := [false, false, false]) (ok_with_cell T) T.mg_with_cell T.fn_with_cell.kp T.bd_with_cell hg (hr.mono (by decide)) (takes_of rfl rfl rfl rfl) (da_cons (de_v 0) (da_cons (de_ix (de_v 1) de_int (fun _ _ => rfl)) (da_cons (de_v 2) da_nil)))))) dss_nil) (dss_cons (ds_if (dt_cp (od_eq2 hr.units) (de_ix (de_v 1) de_int (fun _ _ => rfl)) de_str) (dss_one (ds_ret (de_call (md := [false, false, false]) (ok_with_cell T) T.mg_with_cell T.fn_with_cell.kp T.bd_with_cell hg (hr.mono (by decide)) (takes_of rfl rfl rfl rfl) (da_cons (de_v 0) (da_cons (de_ix (de_v 1) de_int (fun _ _ => rfl)) (da_cons de_int da_nil)))))) dss_nil) (dss_one (ds_ret (de_call (md := [false, false, false]) (ok_with_cell T) T.mg_with_cell T.fn_with_cell.kp T.bd_with_cell hg (hr.mono (by decide)) (takes_of rfl rfl rfl rfl) (da_cons (de_call (md := [false, false, false]) (ok_with_cell T) T.mg_with_cell T.fn_with_cell.kp T.bd_with_cell hg (hr.mono (by decide)) (takes_of rfl rfl rfl rfl) (da_cons (de_v 0) (da_cons (de_ix (de_v 1) de_int (fun _ _ => rfl)) (da_cons de_int da_nil)))) (da_cons (de_ix (de_v 1) de_int (fun _ _ => rfl)) (da_cons (de_ix (de_v 0) (de_ix (de_v 1) de_int (fun _ _ => rfl)) (fun _ _ => rfl)) da_nil)))))))))
theorem sc_is_move : FnScope ["yard", "thing"] ["yard", "thing"] (defScope s_is_move) := ⟨rfl, rfl, rfl, by decide +kernel, rfl, by decide +kernel, by decide +kernel⟩
theorem ok_is_move (T : Fa K mg r) : FnZ P w K mg base 4 r.a_is_move r.d_is_move ["yard", "thing"] f_is_move := .of T.fn_is_move sc_is_move fun cdv A outer s H W hg hr => (show DSs _ _ _ m_is_move from
  (dss_cons (ds_if (DW.dt (dw_or (dt_not (dt_val (de_isi (t := .tuple) T.b_isinstance T.b_tuple (de_v 1)))) (dw_or (dt_cp (od_nin hr.units65) (de_callB cd_len T.b_len (da_cons (de_v 1) da_nil)) (de_tup (da_cons de_int (da_cons de_int da_nil)))) (dw_or1 (dt_not (dt_val (de_isi (t := .str) T.b_isinstance T.b_str (de_ix (de_v 1) de_int (fun _ _ => rfl))))))))) (dss_one (ds_ret de_bl)) dss_nil) (dss_cons (ds_if (dt_cp (od_eq2 hr.units) (de_ix (de_v 1) de_int (fun _ _ => rfl)) de_str) (dss_one (ds_ret (de_and (de_cp (od_eq hr.units) (de_callB cd_len T.b_len (da_cons (de_v 1) da_nil)) de_int) (de_and (de_call (md := [false, false]) (ok_is_road T) T.mg_is_road T.fn_is_road.kp T.bd_is_road hg (hr.mono (by decide)) (takes_of rfl rfl rfl rfl) (da_cons (de_cut (de_v 1) (do_some de_int) do_none) (da_cons (de_fld (cs := ["Yard"]) T.fo_cells (de_v 0)) da_nil))) (de_one (de_cp (od_in hr.units65) (de_cut (de_v 1) (do_some de_int) do_none) (de_fld (cs := ["Yard"]) T.fo_roads (de_v 0)))))))) dss_nil) (dss_cons (ds_if (DW.dt (dw_or (dt_cp (od_eq hr.units) (de_callB cd_len T.b_len (da_cons (de_v 1) da_nil)) de_int) (dw_or1 (dt_not (dt_val (de_call (md := [false, false]) (ok_is_cell T) T.mg_is_cell T.fn_is_cell.kp T.bd_is_cell hg (hr.mono (by decide)) (takes_of rfl rfl rfl rfl) (da_cons (de_ix (de_v 1) de_int (fun _ _ => rfl)) (da_cons (de_fld (cs := ["Yard"]) T.fo_cells (de_v 0)) da_nil)))))))) (dss_one (ds_ret de_bl)) dss_nil) (dss_cons (ds_if (dt_cp (od_eq2 hr.units) (de_ix (de_v 1) de_int (fun _ _ => rfl)) de_str) (dss_one (ds_ret (de_cp (od_in hr.units65) (de_ix (de_v 1) de_int (fun _ _ => rfl)) (de_fld (cs := ["Yard"]) T.fo_entries (de_v 0))))) dss_nil) (dss_one (ds_ret (de_and (de_cp (od_eq2 hr.units) (de_ix (de_v 1) de_int (fun _ _ => rfl)) de_str) (de_one (de_cp (od_in hr.units65) (de_ix (de_v 1) de_int (fun _ _ => rfl)) (de_fld (cs := ["Yard"]) T.fo_exits (de_v 0))))))))))))
theorem sc_blocked_at : FnScope ["cells", "move"] ["cells", "move"] (defScope s_blocked_at) := ⟨rfl, rfl, rfl, by decide +kernel, rfl, by decide +kernel, by decide +kernel⟩
theorem ok_blocked_at (T : Fa K mg r) : FnZ P w K mg base 1 r.a_blocked_at r.d_blocked_at ["cells", "move"] f_blocked_at := .of T.fn_blocked_at sc_blocked_at fun cdv A outer s H W hg hr => (show DSs _ _ _ m_blocked_at from
  (dss_cons (ds_if (dt_cp (od_eq2 hr.units) (de_ix (de_v 1) de_int (fun _ _ => rfl)) de_str) (dss_one (ds_ret (de_if (dt_cp (od_ne hr.units) (de_ix (de_v 0) (de_ix (de_v 1) de_int (fun _ _ => rfl)) (fun _ _ => rfl)) de_int) (de_ix (de_v 1) de_int (fun _ _ => rfl)) de_non))) dss_nil) (dss_cons (ds_if (dt_cp (od_eq hr.units) (de_ix (de_v 0) (de_ix (de_v 1) de_int (fun _ _ => rfl)) (fun _ _ => rfl)) de_int) (dss_one (ds_ret (de_ix (de_v 1) de_int (fun _ _ => rfl)))) dss_nil) (dss_cons (ds_if (DW.dt (dw_and (dt_cp (od_eq2 hr.units) (de_ix (de_v 1) de_int (fun _ _ => rfl)) de_str) (dw_and1 (dt_cp (od_ne hr.units) (de_ix (de_v 0) (de_ix (de_v 1) de_int (fun _ _ => rfl)) (fun _ _ => rfl)) de_int)))) (dss_one (ds_ret (de_ix (de_v 1) de_int (fun _ _ => rfl)))) dss_nil) (dss_one (ds_ret de_non))))))
theorem sc_order_in : FnScope ["yard", "thing", "cells", "came", "found", "move"] ["yard", "thing"] (defScope s_order_in) := ⟨rfl, rfl, rfl, by decide +kernel, rfl, by decide +kernel, by decide +kernel⟩
theorem ok_order_in (T : Fa K mg r) : FnZ P w K mg base 5 r.a_order_in r.d_order_in ["yard", "thing"] f_order_in := .of T.fn_order_in sc_order_in fun cdv A outer s H W hg hr => (show DSs _ _ _ m_order_in from
  (dss_cons (ds_if (dt_not (dt_val (de_isLT T.b_isinstance T.b_list T.b_tuple (de_v 1)))) (dss_one (ds_ret de_non)) dss_nil) (dss_cons (ds_st sc_order_in.nd 2 (de_call (md := [false]) (ok_empty_of T) T.mg_empty_of T.fn_empty_of.kp T.bd_empty_of hg (hr.mono (by decide)) (takes_of rfl rfl rfl rfl) (da_cons (de_v 0) da_nil))) (dss_cons (ds_st sc_order_in.nd 3 de_int) (dss_cons (ds_st sc_order_in.nd 4 (de_tup da_nil)) (dss_cons (ds_for (passes_of rfl) rfl (di_seq (de_v 1)) (dg_name (pgn sc_order_in.nd 5)) (dss_cons (ds_if (DW.dt (dw_or (dt_not (dt_val (de_call (md := [false, false]) (ok_is_move T) T.mg_is_move T.fn_is_move.kp T.bd_is_move hg (hr.mono (by decide)) (takes_of rfl rfl rfl rfl) (da_cons (de_v 0) (da_cons (de_v 5) da_nil))))) (dw_or1 (dt_cp od_isN (de_call (md := [false, false]) (ok_blocked_at T) T.mg_blocked_at T.fn_blocked_at.kp T.bd_blocked_at hg (hr.mono (by decide)) (takes_of rfl rfl rfl rfl) (da_cons (de_v 2) (da_cons (de_v 5) da_nil))) de_non)))) (dss_one (ds_ret de_non)) dss_nil) (dss_cons (ds_if (dt_cp (od_eq2 hr.units) (de_ix (de_v 5) de_int (fun _ _ => rfl)) de_str) (dss_one (ds_st sc_order_in.nd 3 (de_bin od_add (de_v 3) de_int))) dss_nil) (dss_cons (ds_if (dt_cp (od_eq2 hr.units) (de_ix (de_v 5) de_int (fun _ _ => rfl)) de_str) (dss_one (ds_st sc_order_in.nd 4 (de_bin od_add (de_v 4) (de_tup (da_cons (de_ix (de_v 2) (de_ix (de_v 5) de_int (fun _ _ => rfl)) (fun _ _ => rfl)) da_nil))))) dss_nil) (dss_one (ds_st sc_order_in.nd 2 (de_call (md := [false, false, false]) (ok_moved T) T.mg_moved T.fn_moved.kp T.bd_moved hg (hr.mono (by decide)) (takes_of rfl rfl rfl rfl) (da_cons (de_v 2) (da_cons (de_v 5) (da_cons (de_v 3) da_nil)))))))))) (dss_one (ds_ret (de_if (dt_cp (od_eq hr.units) (de_v 2) (de_call (md := [false]) (ok_empty_of T) T.mg_empty_of T.fn_empty_of.kp T.bd_empty_of hg (hr.mono (by decide)) (takes_of rfl rfl rfl rfl) (da_cons (de_v 0) da_nil))) (de_v 4) de_non)))))))))
theorem sc_order_made : FnScope ["yard", "moves", "found"] ["yard", "moves"] (defScope s_order_made) := ⟨rfl, rfl, rfl, by decide +kernel, rfl, by decide +kernel, by decide +kernel⟩
theorem ok_order_made (T : Fa K mg r) : FnZ P w K mg base 6 r.a_order_made r.d_order_made ["yard", "moves"] f_order_made := .of T.fn_order_made sc_order_made fun cdv A outer s H W hg hr => (show DSs _ _ _ m_order_made from
  (dss_cons (ds_expr (de_call (md := [false]) (ok_require_yard T) T.mg_require_yard T.fn_require_yard.kp T.bd_require_yard hg (hr.mono (by decide)) (takes_of rfl rfl rfl rfl) (da_cons (de_v 0) da_nil))) (dss_cons (ds_st sc_order_made.nd 2 (de_call (md := [false, false]) (ok_order_in T) T.mg_order_in T.fn_order_in.kp T.bd_order_in hg (hr.mono (by decide)) (takes_of rfl rfl rfl rfl) (da_cons (de_v 0) (da_cons (de_v 1) da_nil)))) (dss_cons (ds_if (dt_cp od_is (de_v 2) de_non) (dss_one (ds_raise1 rfl T.ox_InvalidMove T.nf_InvalidMove_thing T.in_InvalidMove T.ti_InvalidMove (ok_init_InvalidMove T) (hr.mono (by decide)) T.bi_InvalidMove T.mg_InvalidMove (takes_of rfl rfl rfl rfl) (da_cons (de_v 1) da_nil))) dss_nil) (dss_one (ds_ret (de_v 2)))))))
theorem sc_is_run : FnScope ["yard", "thing"] ["yard", "thing"] (defScope s_is_run) := ⟨rfl, rfl, rfl, by decide +kernel, rfl, by decide +kernel, by decide +kernel⟩
theorem ok_is_run (T : Fa K mg r) : FnZ P w K mg base 6 r.a_is_run r.d_is_run ["yard", "thing"] f_is_run := .of T.fn_is_run sc_is_run fun cdv A outer s H W hg hr => (show DSs _ _ _ m_is_run from
  (dss_cons (ds_expr (de_call (md := [false]) (ok_require_yard T) T.mg_require_yard T.fn_require_yard.kp T.bd_require_yard hg (hr.mono (by decide)) (takes_of rfl rfl rfl rfl) (da_cons (de_v 0) da_nil))) (dss_one (ds_ret (de_cp od_isN (de_call (md := [false, false]) (ok_order_in T) T.mg_order_in T.fn_order_in.kp T.bd_order_in hg (hr.mono (by decide)) (takes_of rfl rfl rfl rfl) (da_cons (de_v 0) (da_cons (de_v 1) da_nil))) de_non)))))
theorem sc__law_caught : FnScope ["made", "row_of", "caught", "error"] ["made", "row_of"] (defScope s__law_caught) := ⟨rfl, rfl, rfl, by decide +kernel, rfl, by decide +kernel, by decide +kernel⟩
theorem ok__law_caught (T : Fa K mg r) : FnZ P w K mg base 7 r.a__law_caught r.d__law_caught ["made", "row_of"] f__law_caught := .of T.fn__law_caught sc__law_caught fun cdv A outer s H W hg hr => (show DSs _ _ _ m__law_caught from
  (dss_cons (ds_st sc__law_caught.nd 2 de_non) (dss_cons (ds_try (l := [(.ref r.C_InvalidMove, [("InvalidYard", false), ("InvalidMove", true)], some 3, (sAsg (eLst (aCons (eC (.str "move")) (aCons (eXf 3 "InvalidMove" "thing") aNil))) (tgName 2))), (.ref r.C_InvalidYard, [("InvalidYard", true), ("InvalidMove", false)], some 3, (sAsg (eLst (aCons (eC (.str "yard")) (aCons (eXf 3 "InvalidYard" "thing") aNil))) (tgName 2))), (.ref r.C_YardError, [("InvalidYard", true), ("InvalidMove", true)], none, (sAsg (eLst (aCons (eC (.str "other")) aNil)) (tgName 2)))]) rfl rfl sc__law_caught.nd (takes_of rfl rfl rfl rfl) rfl (fun W pn xe tk ps => (dss_one (ds_st sc__law_caught.nd 2 (de_call (md := [false, false]) (ok_order_made T) T.mg_order_made T.fn_order_made.kp T.bd_order_made hg (hr.mono (by decide)) tk (da_cons (de_v 0) (da_cons (de_v 1) da_nil)))))) (.named (names_ T.mg_InvalidMove) (tbl_cons T.mg_InvalidYard T.em_InvalidYard_InvalidMove (tbl_cons T.mg_InvalidMove T.em_InvalidMove_InvalidMove tbl_nil)) rfl rfl (fun a oe cls d pn hz hf => (dss_one (ds_st sc__law_caught.nd 2 (de_lst (da_cons de_str (da_cons (de_xf T.xf_InvalidMove T.nf_InvalidMove_thing T.mg_InvalidMove hz hf (pv_ 3)) da_nil)))))) (.named (names_ T.mg_InvalidYard) (tbl_cons T.mg_InvalidYard T.em_InvalidYard_InvalidYard (tbl_cons T.mg_InvalidMove T.em_InvalidMove_InvalidYard tbl_nil)) rfl rfl (fun a oe cls d pn hz hf => (dss_one (ds_st sc__law_caught.nd 2 (de_lst (da_cons de_str (da_cons (de_xf T.xf_InvalidYard T.nf_InvalidYard_thing T.mg_InvalidYard hz hf (pv_ 3)) da_nil)))))) (.plain (names_ T.mg_YardError) (tbl_cons T.mg_InvalidYard T.em_InvalidYard_YardError (tbl_cons T.mg_InvalidMove T.em_InvalidMove_YardError tbl_nil)) (fun a oe cls d pn hz hf => (dss_one (ds_st sc__law_caught.nd 2 (de_lst (da_cons de_str da_nil))))) .nil)))) (dss_one (ds_ret (de_v 2))))))
theorem sc__law_mixed : FnScope ["cell", "k", "stirred"] ["cell", "k"] (defScope s__law_mixed) := ⟨rfl, rfl, rfl, by decide +kernel, rfl, by decide +kernel, by decide +kernel⟩
theorem ok__law_mixed (T : Fa K mg r) : FnZ P w K mg base 1 r.a__law_mixed r.d__law_mixed ["cell", "k"] f__law_mixed := .of T.fn__law_mixed sc__law_mixed fun cdv A outer s H W hg hr => (show DSs _ _ _ m__law_mixed from
  (dss_cons (ds_st sc__law_mixed.nd 2 (de_bin od_mod (de_callT cd_int T.b_int (da_cons (de_bin od_add (de_bin od_add (de_bin od_add (de_bin od_mulI (de_v 0) de_int) (de_bin od_mulI (de_bin od_mulI de_int (de_v 1)) (de_v 1))) (de_bin od_mulI de_int (de_v 1))) de_int) da_nil)) de_int)) (dss_one (ds_ret (de_bin od_div (de_bin od_mod (de_callT cd_int T.b_int (da_cons (de_bin od_add (de_bin od_add (de_bin od_mulI (de_v 2) (de_v 2)) (de_bin od_mulI de_int (de_v 2))) de_int) da_nil)) de_int) de_int)))))
theorem sc__law_draw : FnScope ["purse", "out_of", "drawn"] ["purse", "out_of"] (defScope s__law_draw) := ⟨rfl, rfl, rfl, by decide +kernel, rfl, by decide +kernel, by decide +kernel⟩
theorem ok__law_draw (T : Fa K mg r) : FnZ P w K mg base 2 r.a__law_draw r.d__law_draw ["purse", "out_of"] f__law_draw := .of T.fn__law_draw sc__law_draw fun cdv A outer s H W hg hr => (show DSs _ _ _ m__law_draw from
  (dss_cons (ds_if (dt_cp od_gt (de_ix (de_v 0) de_int (fun _ _ => rfl)) de_int) (dss_cons (ds_st sc__law_draw.nd 2 (de_bin od_mod (de_callT cd_int T.b_int (da_cons (de_ix (de_v 0) de_int (fun _ _ => rfl)) da_nil)) (de_v 1))) (dss_cons (ds_sub (de_bin od_div (de_ix (de_v 0) de_int (fun _ _ => rfl)) (de_v 1)) (de_v 0) de_int) (dss_one (ds_ret (de_v 2))))) dss_nil) (dss_cons (ds_sub (de_bin od_add (de_ix (de_v 0) de_int (fun _ _ => rfl)) de_int) (de_v 0) de_int) (dss_one (ds_ret (de_bin od_mod (de_callT cd_int T.b_int (da_cons (de_call (md := [false, false]) (ok__law_mixed T) T.mg__law_mixed T.fn__law_mixed.kp T.bd__law_mixed hg (hr.mono (by decide)) (takes_of rfl rfl rfl rfl) (da_cons (de_ix (de_v 0) de_int (fun _ _ => rfl)) (da_cons (de_ix (de_v 0) de_int (fun _ _ => rfl)) da_nil))) da_nil)) (de_v 1)))))))
theorem sc__law_menu : FnScope ["which", "some"] ["which"] (defScope s__law_menu) := ⟨rfl, rfl, rfl, by decide +kernel, rfl, by decide +kernel, by decide +kernel⟩
theorem ok__law_menu (T : Fa K mg r) : FnZ P w K mg base 1 r.a__law_menu r.d__law_menu ["which"] f__law_menu := .of T.fn__law_menu sc__law_menu fun cdv A outer s H W hg hr => (show DSs _ _ _ m__law_menu from
  (dss_cons (ds_st sc__law_menu.nd 1 (de_lst (da_cons (de_tup (da_cons de_int (da_cons (de_lst (da_cons (de_tup (da_cons de_int (da_cons de_int da_nil))) (da_cons (de_tup (da_cons de_int (da_cons de_int da_nil))) da_nil))) (da_cons (de_lst (da_cons de_int da_nil)) (da_cons (de_lst (da_cons de_int da_nil)) da_nil))))) (da_cons (de_tup (da_cons de_int (da_cons (de_lst (da_cons (de_tup (da_cons de_int (da_cons de_int da_nil))) (da_cons (de_tup (da_cons de_int (da_cons de_int da_nil))) (da_cons (de_tup (da_cons de_int (da_cons de_int da_nil))) (da_cons (de_tup (da_cons de_int (da_cons de_int da_nil))) da_nil))))) (da_cons (de_lst (da_cons de_int da_nil)) (da_cons (de_lst (da_cons de_int da_nil)) da_nil))))) da_nil)))) (dss_cons (ds_st sc__law_menu.nd 1 (de_bin od_add (de_v 1) (de_lst (da_cons (de_tup (da_cons de_int (da_cons (de_lst (da_cons (de_tup (da_cons de_int (da_cons de_int da_nil))) da_nil)) (da_cons (de_lst (da_cons de_int da_nil)) (da_cons (de_lst (da_cons de_int da_nil)) da_nil))))) (da_cons (de_tup (da_cons de_int (da_cons (de_lst (da_cons (de_tup (da_cons de_int (da_cons de_int da_nil))) (da_cons (de_tup (da_cons de_int (da_cons de_int da_nil))) da_nil))) (da_cons (de_lst (da_cons de_int da_nil)) (da_cons (de_lst (da_cons de_int da_nil)) da_nil))))) (da_cons (de_tup (da_cons de_int (da_cons (de_lst (da_cons (de_tup (da_cons de_int (da_cons de_int da_nil))) da_nil)) (da_cons (de_lst (da_cons de_int (da_cons de_int da_nil))) (da_cons (de_lst (da_cons de_int (da_cons de_int da_nil))) da_nil))))) da_nil)))))) (dss_cons (ds_st sc__law_menu.nd 1 (de_bin od_add (de_v 1) (de_lst (da_cons (de_tup (da_cons de_int (da_cons (de_lst (da_cons (de_tup (da_cons de_int (da_cons de_int da_nil))) (da_cons (de_tup (da_cons de_int (da_cons de_int da_nil))) (da_cons (de_tup (da_cons de_int (da_cons de_int da_nil))) (da_cons (de_tup (da_cons de_int (da_cons de_int da_nil))) da_nil))))) (da_cons (de_lst (da_cons de_int da_nil)) (da_cons (de_lst (da_cons de_int da_nil)) da_nil))))) (da_cons (de_tup (da_cons de_int (da_cons (de_lst (da_cons (de_tup (da_cons de_int (da_cons de_int da_nil))) (da_cons (de_tup (da_cons de_int (da_cons de_int da_nil))) (da_cons (de_tup (da_cons de_int (da_cons de_int da_nil))) da_nil)))) (da_cons (de_lst (da_cons de_int da_nil)) (da_cons (de_lst (da_cons de_int da_nil)) da_nil))))) da_nil))))) (dss_cons (ds_st sc__law_menu.nd 1 (de_bin od_add (de_v 1) (de_lst (da_cons (de_tup (da_cons de_int (da_cons (de_lst (da_cons (de_tup (da_cons de_int (da_cons de_int da_nil))) (da_cons (de_tup (da_cons de_int (da_cons de_int da_nil))) da_nil))) (da_cons (de_lst (da_cons de_int (da_cons de_int da_nil))) (da_cons (de_lst (da_cons de_int (da_cons de_int da_nil))) da_nil))))) (da_cons (de_tup (da_cons de_int (da_cons (de_lst (da_cons (de_tup (da_cons de_int (da_cons de_int da_nil))) (da_cons (de_tup (da_cons de_int (da_cons de_int da_nil))) da_nil))) (da_cons (de_lst (da_cons de_int (da_cons de_int da_nil))) (da_cons (de_lst (da_cons de_int (da_cons de_int da_nil))) da_nil))))) da_nil))))) (dss_cons (ds_st sc__law_menu.nd 1 (de_bin od_add (de_v 1) (de_lst (da_cons (de_tup (da_cons de_int (da_cons (de_lst (da_cons (de_tup (da_cons de_int (da_cons de_int da_nil))) (da_cons (de_tup (da_cons de_int (da_cons de_int da_nil))) (da_cons (de_tup (da_cons de_int (da_cons de_int da_nil))) (da_cons (de_tup (da_cons de_int (da_cons de_int da_nil))) da_nil))))) (da_cons (de_lst (da_cons de_int (da_cons de_int da_nil))) (da_cons (de_lst (da_cons de_int (da_cons de_int da_nil))) da_nil))))) da_nil)))) (dss_cons (ds_st sc__law_menu.nd 1 (de_bin od_add (de_v 1) (de_lst (da_cons (de_tup (da_cons de_int (da_cons (de_lst (da_cons (de_tup (da_cons de_int (da_cons de_int da_nil))) (da_cons (de_tup (da_cons de_int (da_cons de_int da_nil))) (da_cons (de_tup (da_cons de_int (da_cons de_int da_nil))) da_nil)))) (da_cons (de_lst (da_cons de_int (da_cons de_int da_nil))) (da_cons (de_lst (da_cons de_int (da_cons de_int da_nil))) da_nil))))) (da_cons (de_tup (da_cons de_int (da_cons (de_lst (da_cons (de_tup (da_cons de_int (da_cons de_int da_nil))) (da_cons (de_tup (da_cons de_int (da_cons de_int da_nil))) (da_cons (de_tup (da_cons de_int (da_cons de_int da_nil))) da_nil)))) (da_cons (de_lst (da_cons de_int da_nil)) (da_cons (de_lst (da_cons de_int da_nil)) da_nil))))) da_nil))))) (dss_cons (ds_st sc__law_menu.nd 1 (de_bin od_add (de_v 1) (de_lst (da_cons (de_tup (da_cons de_int (da_cons (de_lst da_nil) (da_cons (de_lst (da_cons de_int da_nil)) (da_cons (de_lst (da_cons de_int da_nil)) da_nil))))) (da_cons (de_tup (da_cons de_int (da_cons (de_lst (da_cons (de_tup (da_cons de_int (da_cons de_int da_nil))) (da_cons (de_tup (da_cons de_int (da_cons de_int da_nil))) (da_cons (de_tup (da_cons de_int (da_cons de_int da_nil))) da_nil)))) (da_cons (de_lst (da_cons de_int da_nil)) (da_cons (de_lst (da_cons de_int da_nil)) da_nil))))) da_nil))))) (dss_one (ds_ret (de_ix (de_v 1) (de_v 0) (fun _ _ => rfl))))))))))))
theorem sc__law_flipped : FnScope ["purse", "raw", "size", "ways", "ins", "outs", "u", "v", "kind", "way", "cell"] ["purse", "raw"] (defScope s__law_flipped) := ⟨rfl, rfl, rfl, by decide +kernel, rfl, by decide +kernel, by decide +kernel⟩
theorem ok__law_flipped (T : Fa K mg r) : FnZ P w K mg base 3 r.a__law_flipped r.d__law_flipped ["purse", "raw"] f__law_flipped := .of T.fn__law_flipped sc__law_flipped fun cdv A outer s H W hg hr => (show DSs _ _ _ m__law_flipped from
  (dss_cons (ds_asg (de_v 1) (dg_tup rfl (dgs_cons (pgn sc__law_flipped.nd 2) keeps_name (dgs_cons (pgn sc__law_flipped.nd 3) keeps_name (dgs_cons (pgn sc__law_flipped.nd 4) keeps_name (dgs_cons (pgn sc__law_flipped.nd 5) keeps_name dgs_nil)))))) (dss_cons (ds_asg (de_tup (da_cons (de_call (md := [true, false]) (ok__law_draw T) T.mg__law_draw T.fn__law_draw.kp T.bd__law_draw hg (hr.mono (by decide)) (takes_of rfl rfl rfl rfl) (da_cons (de_v 0) (da_cons (de_v 2) da_nil))) (da_cons (de_call (md := [true, false]) (ok__law_draw T) T.mg__law_draw T.fn__law_draw.kp T.bd__law_draw hg (hr.mono (by decide)) (takes_of rfl rfl rfl rfl) (da_cons (de_v 0) (da_cons (de_v 2) da_nil))) da_nil))) (dg_tup rfl (dgs_cons (pgn sc__law_flipped.nd 6) keeps_name (dgs_cons (pgn sc__law_flipped.nd 7) keeps_name dgs_nil)))) (dss_cons (ds_st sc__law_flipped.nd 8 (de_call (md := [true, false]) (ok__law_draw T) T.mg__law_draw T.fn__law_draw.kp T.bd__law_draw hg (hr.mono (by decide)) (takes_of rfl rfl rfl rfl) (da_cons (de_v 0) (da_cons de_int da_nil)))) (dss_cons (ds_if (DW.dt (dw_and (dt_cp od_lt (de_v 8) de_int) (dw_and1 (dt_cp (od_ne hr.units) (de_v 6) (de_v 7))))) (dss_one (ds_st sc__law_flipped.nd 3 (de_bin od_add (de_comp (own := [("way", 9)]) rfl sc__law_flipped.nd (di_seq (de_v 3)) (blk_ok (N := ["purse", "raw", "size", "ways", "ins", "outs", "u", "v", "kind", "way", "cell"]) (sc := defScope s__law_flipped)) (fun _ _ _ _ _ => (pgn sc__law_flipped.nd 9)) (comp_name (by decide)) (fun _ _ _ _ _ => (dts_one (dt_cp (od_ne hr.units) (de_v 9) (de_tup (da_cons (de_v 6) (da_cons (de_v 7) da_nil)))))) (fun _ _ _ _ _ => (de_v 9))) (de_rep (de_lst (da_cons (de_tup (da_cons (de_v 6) (da_cons (de_v 7) da_nil))) da_nil)) (de_callT cd_int T.b_int (da_cons (de_cp (od_nin hr.units65) (de_tup (da_cons (de_v 6) (da_cons (de_v 7) da_nil))) (de_v 3)) da_nil)))))) dss_nil) (dss_cons (ds_if (dt_cp (od_eq hr.units) (de_v 8) de_int) (dss_one (ds_st sc__law_flipped.nd 4 (de_bin od_add (de_comp (own := [("cell", 10)]) rfl sc__law_flipped.nd (di_seq (de_v 4)) (blk_ok (N := ["purse", "raw", "size", "ways", "ins", "outs", "u", "v", "kind", "way", "cell"]) (sc := defScope s__law_flipped)) (fun _ _ _ _ _ => (pgn sc__law_flipped.nd 10)) (comp_name (by decide)) (fun _ _ _ _ _ => (dts_one (dt_cp (od_ne hr.units) (de_v 10) (de_v 6)))) (fun _ _ _ _ _ => (de_v 10))) (de_rep (de_lst (da_cons (de_v 6) da_nil)) (de_callT cd_int T.b_int (da_cons (de_cp (od_nin hr.units65) (de_v 6) (de_v 4)) da_nil)))))) dss_nil) (dss_cons (ds_if (dt_cp (od_eq hr.units) (de_v 8) de_int) (dss_one (ds_st sc__law_flipped.nd 5 (de_bin od_add (de_comp (own := [("cell", 10)]) rfl sc__law_flipped.nd (di_seq (de_v 5)) (blk_ok (N := ["purse", "raw", "size", "ways", "ins", "outs", "u", "v", "kind", "way", "cell"]) (sc := defScope s__law_flipped)) (fun _ _ _ _ _ => (pgn sc__law_flipped.nd 10)) (comp_name (by decide)) (fun _ _ _ _ _ => (dts_one (dt_cp (od_ne hr.units) (de_v 10) (de_v 6)))) (fun _ _ _ _ _ => (de_v 10))) (de_rep (de_lst (da_cons (de_v 6) da_nil)) (de_callT cd_int T.b_int (da_cons (de_cp (od_nin hr.units65) (de_v 6) (de_v 5)) da_nil)))))) dss_nil) (dss_one (ds_ret (de_tup (da_cons (de_v 2) (da_cons (de_v 3) (da_cons (de_v 4) (da_cons (de_v 5) da_nil))))))))))))))
theorem sc__law_raw : FnScope ["purse", "most", "raw", "size", "ways", "u", "v", "ins", "outs", "cell", "end"] ["purse", "most"] (defScope s__law_raw) := ⟨rfl, rfl, rfl, by decide +kernel, rfl, by decide +kernel, by decide +kernel⟩
theorem ok__law_raw (T : Fa K mg r) : FnZ P w K mg base 4 r.a__law_raw r.d__law_raw ["purse", "most"] f__law_raw := .of T.fn__law_raw sc__law_raw fun cdv A outer s H W hg hr => (show DSs _ _ _ m__law_raw from
  (dss_cons (ds_if (dt_cp od_gt (de_call (md := [true, false]) (ok__law_draw T) T.mg__law_draw T.fn__law_draw.kp T.bd__law_draw hg (hr.mono (by decide)) (takes_of rfl rfl rfl rfl) (da_cons (de_v 0) (da_cons de_int da_nil))) de_int) (dss_cons (ds_st sc__law_raw.nd 2 (de_call (md := [false]) (ok__law_menu T) T.mg__law_menu T.fn__law_menu.kp T.bd__law_menu hg (hr.mono (by decide)) (takes_of rfl rfl rfl rfl) (da_cons (de_call (md := [true, false]) (ok__law_draw T) T.mg__law_draw T.fn__law_draw.kp T.bd__law_draw hg (hr.mono (by decide)) (takes_of rfl rfl rfl rfl) (da_cons (de_v 0) (da_cons de_int da_nil))) da_nil))) (dss_cons (ds_if (dt_cp od_gt (de_ix (de_v 2) de_int (fun _ _ => rfl)) (de_v 1)) (dss_one (ds_st sc__law_raw.nd 2 (de_call (md := [false]) (ok__law_menu T) T.mg__law_menu T.fn__law_menu.kp T.bd__law_menu hg (hr.mono (by decide)) (takes_of rfl rfl rfl rfl) (da_cons (de_call (md := [true, false]) (ok__law_draw T) T.mg__law_draw T.fn__law_draw.kp T.bd__law_draw hg (hr.mono (by decide)) (takes_of rfl rfl rfl rfl) (da_cons (de_v 0) (da_cons de_int da_nil))) da_nil)))) dss_nil) (dss_cons (ds_if (dt_cp od_gt (de_ix (de_v 2) de_int (fun _ _ => rfl)) (de_v 1)) (dss_one (ds_st sc__law_raw.nd 2 (de_call (md := [false]) (ok__law_menu T) T.mg__law_menu T.fn__law_menu.kp T.bd__law_menu hg (hr.mono (by decide)) (takes_of rfl rfl rfl rfl) (da_cons de_int da_nil)))) dss_nil) (dss_one (ds_ret (de_if (dt_cp (od_eq hr.units) (de_call (md := [true, false]) (ok__law_draw T) T.mg__law_draw T.fn__law_draw.kp T.bd__law_draw hg (hr.mono (by decide)) (takes_of rfl rfl rfl rfl) (da_cons (de_v 0) (da_cons de_int da_nil))) de_int) (de_call (md := [true, false]) (ok__law_flipped T) T.mg__law_flipped T.fn__law_flipped.kp T.bd__law_flipped hg (hr.mono (by decide)) (takes_of rfl rfl rfl rfl) (da_cons (de_v 0) (da_cons (de_v 2) da_nil))) (de_v 2))))))) dss_nil) (dss_cons (ds_st sc__law_raw.nd 3 (de_bin od_add de_int (de_call (md := [true, false]) (ok__law_draw T) T.mg__law_draw T.fn__law_draw.kp T.bd__law_draw hg (hr.mono (by decide)) (takes_of rfl rfl rfl rfl) (da_cons (de_v 0) (da_cons (de_v 1) da_nil))))) (dss_cons (ds_st sc__law_raw.nd 4 (de_lst da_nil)) (dss_cons (ds_for (passes_of rfl) rfl (di_range1 T.b_range (da_cons (de_v 3) da_nil)) (dg_name (pgn sc__law_raw.nd 5)) (dss_one (ds_st sc__law_raw.nd 4 (de_bin od_add (de_v 4) (de_comp (own := [("v", 6)]) rfl sc__law_raw.nd (di_range1 T.b_range (da_cons (de_v 3) da_nil)) (blk_ok (N := ["purse", "most", "raw", "size", "ways", "u", "v", "ins", "outs", "cell", "end"]) (sc := defScope s__law_raw)) (fun _ _ _ _ _ => (pgn sc__law_raw.nd 6)) (comp_name (by decide)) (fun _ _ _ _ _ => (dts_one (DW.dt (dw_and (dt_cp (od_ne hr.units) (de_v 5) (de_v 6)) (dw_and1 (dt_cp (od_eq hr.units) (de_call (md := [true, false]) (ok__law_draw T) T.mg__law_draw T.fn__law_draw.kp T.bd__law_draw hg (hr.mono (by decide)) takes_none5 (da_cons (de_v 0) (da_cons de_int da_nil))) de_int)))))) (fun _ _ _ _ _ => (de_tup (da_cons (de_v 5) (da_cons (de_v 6) da_nil))))))))) (dss_cons (ds_asg (de_comp (own := [("end", 10)]) rfl sc__law_raw.nd (di_range1 T.b_range (da_cons de_int da_nil)) (blk_ok (N := ["purse", "most", "raw", "size", "ways", "u", "v", "ins", "outs", "cell", "end"]) (sc := defScope s__law_raw)) (fun _ _ _ _ _ => (pgn sc__law_raw.nd 10)) (comp_name (by decide)) (fun _ _ _ _ _ => dts_nil) (fun _ _ _ _ _ => (de_comp (own := [("cell", 9)]) rfl sc__law_raw.nd (di_range1 T.b_range (da_cons (de_v 3) da_nil)) (blk_okN ["purse", "most", "raw", "size", "ways", "u", "v", "ins", "outs", "cell", "end"]) (fun _ _ _ _ _ => (pgn sc__law_raw.nd 9)) (comp_name (by decide)) (fun _ _ _ _ _ => (dts_one (dt_cp (od_eq hr.units) (de_call (md := [true, false]) (ok__law_draw T) T.mg__law_draw T.fn__law_draw.kp T.bd__law_draw hg (hr.mono (by decide)) takes_none5 (da_cons (de_v 0) (da_cons de_int da_nil))) de_int))) (fun _ _ _ _ _ => (de_v 9))))) (dg_seq rfl (dgs_cons (pgn sc__law_raw.nd 7) keeps_name (dgs_cons (pgn sc__law_raw.nd 8) keeps_name dgs_nil)))) (dss_one (ds_ret (de_tup (da_cons (de_v 3) (da_cons (de_v 4) (da_cons (de_v 7) (da_cons (de_v 8) da_nil)))))))))))))
theorem sc__law_built : FnScope ["raw"] ["raw"] (defScope s__law_built) := ⟨rfl, rfl, rfl, by decide +kernel, rfl, by decide +kernel, by decide +kernel⟩
theorem ok__law_built (T : Fa K mg r) : FnZ P w K mg base 7 r.a__law_built r.d__law_built ["raw"] f__law_built := .of T.fn__law_built sc__law_built fun cdv A outer s H W hg hr => (show DSs _ _ _ m__law_built from
  (dss_one (ds_ret (de_mkK (n := 1) (ks := ["roads", "entries", "exits"]) (perm := [0, 1, 2, 3]) (dvs := []) (dds := []) T.mk_Yard (ok_Yard_init T) T.mg_Yard T.kb_Yard_init_1_roads_entries_exits (fun _ => .nil) hg (hr.mono (by decide)) (takes_of rfl rfl rfl rfl) (da_cons (de_ix (de_v 0) de_int (fun _ _ => rfl)) da_nil) (dk_cons (de_ix (de_v 0) de_int (fun _ _ => rfl)) (dk_cons (de_ix (de_v 0) de_int (fun _ _ => rfl)) (dk_cons (de_ix (de_v 0) de_int (fun _ _ => rfl)) dk_nil)))))))
theorem sc__law_open : FnScope ["raw", "inside", "size", "ways", "ins", "outs", "found", "u", "v"] ["raw", "inside"] (defScope s__law_open) := ⟨rfl, rfl, rfl, by decide +kernel, rfl, by decide +kernel, by decide +kernel⟩
theorem ok__law_open (T : Fa K mg r) : FnZ P w K mg base 1 r.a__law_open r.d__law_open ["raw", "inside"] f__law_open := .of T.fn__law_open sc__law_open fun cdv A outer s H W hg hr => (show DSs _ _ _ m__law_open from
  (dss_cons (ds_asg (de_v 0) (dg_tup rfl (dgs_cons (pgn sc__law_open.nd 2) keeps_name (dgs_cons (pgn sc__law_open.nd 3) keeps_name (dgs_cons (pgn sc__law_open.nd 4) keeps_name (dgs_cons (pgn sc__law_open.nd 5) keeps_name dgs_nil)))))) (dss_cons (ds_st sc__law_open.nd 6 (de_bin od_add (de_comp (own := [("u", 7)]) rfl sc__law_open.nd (di_seq (de_v 5)) (blk_ok (N := ["raw", "inside", "size", "ways", "ins", "outs", "found", "u", "v"]) (sc := defScope s__law_open)) (fun _ _ _ _ _ => (pgn sc__law_open.nd 7)) (comp_name (by decide)) (fun _ _ _ _ _ => (dts_one (dt_cp od_gt (de_ix (de_v 1) (de_v 7) (fun _ _ => rfl)) de_int))) (fun _ _ _ _ _ => (de_tup (da_cons de_str (da_cons (de_v 7) da_nil))))) (de_comp (own := [("u", 7)]) rfl sc__law_open.nd (di_seq (de_v 4)) (blk_ok (N := ["raw", "inside", "size", "ways", "ins", "outs", "found", "u", "v"]) (sc := defScope s__law_open)) (fun _ _ _ _ _ => (pgn sc__law_open.nd 7)) (comp_name (by decide)) (fun _ _ _ _ _ => (dts_one (dt_cp (od_eq hr.units) (de_ix (de_v 1) (de_v 7) (fun _ _ => rfl)) de_int))) (fun _ _ _ _ _ => (de_tup (da_cons de_str (da_cons (de_v 7) da_nil))))))) (dss_one (ds_ret (de_bin od_add (de_v 6) (de_comp (own := [("u", 7), ("v", 8)]) rfl sc__law_open.nd (di_seq (de_v 3)) (blk_ok (N := ["raw", "inside", "size", "ways", "ins", "outs", "found", "u", "v"]) (sc := defScope s__law_open)) (fun _ _ _ _ _ => (pg_tup rfl (pgs_cons (pgn sc__law_open.nd 7) (pgs_cons (pgn sc__law_open.nd 8) pgs_nil)))) (comp_tup (comps_cons (comp_name (by decide)) (comps_cons (comp_name (by decide)) comps_nil))) (fun _ _ _ _ _ => (dts_one (DW.dt (dw_and (dt_cp od_gt (de_ix (de_v 1) (de_v 7) (fun _ _ => rfl)) de_int) (dw_and1 (dt_cp (od_eq hr.units) (de_ix (de_v 1) (de_v 8) (fun _ _ => rfl)) de_int)))))) (fun _ _ _ _ _ => (de_tup (da_cons de_str (da_cons (de_v 7) (da_cons (de_v 8) da_nil))))))))))))
theorem sc__law_led : FnScope ["purse", "raw", "most", "inside", "deeds", "turn", "some", "move"] ["purse", "raw", "most"] (defScope s__law_led) := ⟨rfl, rfl, rfl, by decide +kernel, rfl, by decide +kernel, by decide +kernel⟩
theorem ok__law_led (T : Fa K mg r) : FnZ P w K mg base 3 r.a__law_led r.d__law_led ["purse", "raw", "most"] f__law_led := .of T.fn__law_led sc__law_led fun cdv A outer s H W hg hr => (show DSs _ _ _ m__law_led from
  (dss_cons (ds_par2 3 4 rfl sc__law_led.nd (dp_cons (de_rep (de_lst (da_cons de_int da_nil)) (de_ix (de_v 1) de_int (fun _ _ => rfl))) (dp_cons (de_lst da_nil) dp_nil))) (dss_cons (ds_for (passes_of rfl) rfl (di_range1 T.b_range (da_cons (de_v 2) da_nil)) (dg_name (pgn sc__law_led.nd 5)) (dss_cons (ds_st sc__law_led.nd 6 (de_call (md := [false, true]) (ok__law_open T) T.mg__law_open T.fn__law_open.kp T.bd__law_open hg (hr.mono (by decide)) (takes_of rfl rfl rfl rfl) (da_cons (de_v 1) (da_cons (de_v 3) da_nil)))) (dss_cons (ds_if (dt_cp od_gt (de_v 5) (de_bin od_div (de_v 2) de_int)) (dss_one (ds_setComp (own := [("move", 7)]) rfl sc__law_led.nd rfl rfl rfl (di_seq (de_v 6)) (blk_ok (N := ["purse", "raw", "most", "inside", "deeds", "turn", "some", "move"]) (sc := defScope s__law_led)) (fun _ _ _ _ _ => (pgn sc__law_led.nd 7)) (comp_name (by decide)) (fun _ _ _ _ _ => (dts_one (dt_cp (od_ne hr.units) (de_ix (de_v 7) de_int (fun _ _ => rfl)) de_str))) (fun _ _ _ _ _ => (de_v 7)))) dss_nil) (dss_cons (ds_if (dt_cp (od_eq hr.units) (de_v 6) (de_lst da_nil)) (dss_one (ds_ret (de_v 4))) dss_nil) (dss_cons (ds_st sc__law_led.nd 7 (de_ix (de_v 6) (de_call (md := [true, false]) (ok__law_draw T) T.mg__law_draw T.fn__law_draw.kp T.bd__law_draw hg (hr.mono (by decide)) (takes_of rfl rfl rfl rfl) (da_cons (de_v 0) (da_cons (de_callB cd_len T.b_len (da_cons (de_v 6) da_nil)) da_nil))) (fun _ _ => rfl))) (dss_cons (ds_expr (de_app (pv_ 4) (da_cons (de_v 7) da_nil))) (dss_cons (ds_if (dt_cp (od_eq2 hr.units) (de_ix (de_v 7) de_int (fun _ _ => rfl)) de_str) (dss_one (ds_sub de_int (de_v 3) (de_ix (de_v 7) de_int (fun _ _ => rfl)))) dss_nil) (dss_one (ds_sub (de_callT cd_int T.b_int (da_cons (de_cp (od_eq2 hr.units) (de_ix (de_v 7) de_int (fun _ _ => rfl)) de_str) da_nil)) (de_v 3) (de_ix (de_v 7) de_int (fun _ _ => rfl))))))))))) (dss_one (ds_ret (de_v 4))))))
theorem sc__law_bent : FnScope ["purse", "raw", "deeds", "odd", "at", "way", "move", "some"] ["purse", "raw", "deeds"] (defScope s__law_bent) := ⟨rfl, rfl, rfl, by decide +kernel, rfl, by decide +kernel, by decide +kernel⟩
theorem ok__law_bent (T : Fa K mg r) : FnZ P w K mg base 3 r.a__law_bent r.d__law_bent ["purse", "raw", "deeds"] f__law_bent := .of T.fn__law_bent sc__law_bent fun cdv A outer s H W hg hr => (show DSs _ _ _ m__law_bent from
  (dss_cons (ds_st sc__law_bent.nd 3 (de_lst (da_cons (de_tup (da_cons de_str (da_cons de_int da_nil))) (da_cons (de_tup (da_cons de_str (da_cons de_int da_nil))) (da_cons (de_tup (da_cons de_str (da_cons de_int (da_cons de_int da_nil)))) (da_cons (de_tup (da_cons de_str (da_cons (de_neg de_int) da_nil))) (da_cons (de_tup (da_cons de_str (da_cons de_bl da_nil))) (da_cons (de_tup (da_cons de_str (da_cons de_int (da_cons de_int da_nil)))) (da_cons (de_tup (da_cons de_str da_nil)) (da_cons (de_tup (da_cons de_str (da_cons de_int (da_cons de_int da_nil)))) da_nil)))))))))) (dss_cons (ds_st sc__law_bent.nd 3 (de_bin od_add (de_v 3) (de_lst (da_cons de_non (da_cons (de_lst (da_cons de_str (da_cons de_int da_nil))) (da_cons de_str (da_cons (de_tup (da_cons de_str (da_cons de_int da_nil))) (da_cons (de_tup (da_cons de_int (da_cons de_str da_nil))) (da_cons (de_tup (da_cons de_str (da_cons de_int da_nil))) (da_cons (de_tup (da_cons de_str (da_cons de_int da_nil))) (da_cons (de_tup (da_cons de_str (da_cons de_int (da_cons de_int da_nil)))) (da_cons (de_tup (da_cons de_dic0 (da_cons de_int da_nil))) da_nil)))))))))))) (dss_cons (ds_st sc__law_bent.nd 3 (de_bin od_add (de_v 3) (de_lst (da_cons (de_tup (da_cons de_str (da_cons de_non da_nil))) (da_cons (de_tup (da_cons de_str (da_cons de_int (da_cons de_bl da_nil)))) (da_cons (de_tup (da_cons de_str (da_cons de_bl (da_cons de_int da_nil)))) da_nil)))))) (dss_cons (ds_par2 4 5 rfl sc__law_bent.nd (dp_cons (de_call (md := [true, false]) (ok__law_draw T) T.mg__law_draw T.fn__law_draw.kp T.bd__law_draw hg (hr.mono (by decide)) (takes_of rfl rfl rfl rfl) (da_cons (de_v 0) (da_cons (de_bin od_add (de_callB cd_len T.b_len (da_cons (de_v 2) da_nil)) de_int) da_nil))) (dp_cons (de_call (md := [true, false]) (ok__law_draw T) T.mg__law_draw T.fn__law_draw.kp T.bd__law_draw hg (hr.mono (by decide)) (takes_of rfl rfl rfl rfl) (da_cons (de_v 0) (da_cons de_int da_nil))) dp_nil))) (dss_cons (ds_st sc__law_bent.nd 6 (de_ix (de_v 3) (de_call (md := [true, false]) (ok__law_draw T) T.mg__law_draw T.fn__law_draw.kp T.bd__law_draw hg (hr.mono (by decide)) (takes_of rfl rfl rfl rfl) (da_cons (de_v 0) (da_cons de_int da_nil))) (fun _ _ => rfl))) (dss_cons (ds_st sc__law_bent.nd 7 (de_lst (da_cons (de_bin od_add (de_bin od_add (de_cut (de_v 2) do_none (do_some (de_v 4))) (de_lst (da_cons (de_v 6) da_nil))) (de_cut (de_v 2) (do_some (de_v 4)) do_none)) (da_cons (de_bin od_add (de_cut (de_v 2) do_none (do_some (de_v 4))) (de_cut (de_v 2) (do_some (de_bin od_add (de_v 4) de_int)) do_none)) (da_cons (de_cut (de_v 2) do_none (do_some (de_v 4))) (da_cons (de_cut (de_v 2) (do_some (de_v 4)) do_none) (da_cons (de_bin od_add (de_cut (de_v 2) do_none (do_some (de_v 4))) (de_lst (da_cons (de_v 6) da_nil))) da_nil))))))) (dss_one (ds_ret (de_ix (de_v 7) (de_v 5) (fun _ _ => rfl)))))))))))
theorem sc__law_order_in : FnScope ["raw", "deeds", "size", "ways", "ins", "outs", "inside", "came", "gone", "move", "one"] ["raw", "deeds"] (defScope s__law_order_in) := ⟨rfl, rfl, rfl, by decide +kernel, rfl, by decide +kernel, by decide +kernel⟩
theorem ok__law_order_in (T : Fa K mg r) : FnZ P w K mg base 1 r.a__law_order_in r.d__law_order_in ["raw", "deeds"] f__law_order_in := .of T.fn__law_order_in sc__law_order_in fun cdv A outer s H W hg hr => (show DSs _ _ _ m__law_order_in from
  (dss_cons (ds_asg (de_v 0) (dg_tup rfl (dgs_cons (pgn sc__law_order_in.nd 2) keeps_name (dgs_cons (pgn sc__law_order_in.nd 3) keeps_name (dgs_cons (pgn sc__law_order_in.nd 4) keeps_name (dgs_cons (pgn sc__law_order_in.nd 5) keeps_name dgs_nil)))))) (dss_cons (ds_if (dt_not (dt_val (de_isLT T.b_isinstance T.b_list T.b_tuple (de_v 1)))) (dss_one (ds_ret de_non)) dss_nil) (dss_cons (ds_par3 6 7 8 rfl sc__law_order_in.nd (dp_cons (de_rep (de_lst (da_cons de_int da_nil)) (de_v 2)) (dp_cons de_int (dp_cons (de_tup da_nil) dp_nil)))) (dss_cons (ds_for (passes_of rfl) rfl (di_seq (de_v 1)) (dg_name (pgn sc__law_order_in.nd 9)) (dss_cons (ds_if (DW.dt (dw_or (dt_not (dt_val (de_isi (t := .tuple) T.b_isinstance T.b_tuple (de_v 9)))) (dw_or1 (dt_cp (od_nin hr.units65) (de_callB cd_len T.b_len (da_cons (de_v 9) da_nil)) (de_tup (da_cons de_int (da_cons de_int da_nil))))))) (dss_one (ds_ret de_non)) dss_nil) (dss_cons (ds_if (dt_cp (od_ne hr.units) (de_comp (own := [("one", 10)]) rfl sc__law_order_in.nd (di_seq (de_cut (de_v 9) (do_some de_int) do_none)) (blk_ok (N := ["raw", "deeds", "size", "ways", "ins", "outs", "inside", "came", "gone", "move", "one"]) (sc := defScope s__law_order_in)) (fun _ _ _ _ _ => (pgn sc__law_order_in.nd 10)) (comp_name (by decide)) (fun _ _ _ _ _ => (dts_one (DW.dt (dw_or (dt_val (de_isi (t := .bool) T.b_isinstance T.b_bool (de_v 10))) (dw_or1 (dt_not (dt_val (de_isi (t := .int) T.b_isinstance T.b_int (de_v 10))))))))) (fun _ _ _ _ _ => de_int)) (de_lst da_nil)) (dss_one (ds_ret de_non)) dss_nil) (dss_one (ds_if (DW.dt (dw_and (dt_cp (od_eq2 hr.units) (de_ix (de_v 9) de_int (fun _ _ => rfl)) de_str) (dw_and (dt_cp (od_eq hr.units) (de_callB cd_len T.b_len (da_cons (de_v 9) da_nil)) de_int) (dw_and (dt_cp (od_in hr.units65) (de_ix (de_v 9) de_int (fun _ _ => rfl)) (de_v 4)) (dw_and1 (dt_cp (od_eq hr.units) (de_ix (de_v 6) (de_ix (de_v 9) de_int (fun _ _ => rfl)) (fun _ _ => rfl)) de_int)))))) (dss_cons (ds_st sc__law_order_in.nd 7 (de_bin od_add (de_v 7) de_int)) (dss_one (ds_sub (de_v 7) (de_v 6) (de_ix (de_v 9) de_int (fun _ _ => rfl))))) (dss_one (ds_if (DW.dt (dw_and (dt_cp (od_eq2 hr.units) (de_ix (de_v 9) de_int (fun _ _ => rfl)) de_str) (dw_and (dt_cp (od_eq hr.units) (de_callB cd_len T.b_len (da_cons (de_v 9) da_nil)) de_int) (dw_and (dt_cp (od_in hr.units65) (de_ix (de_v 9) de_int (fun _ _ => rfl)) (de_v 5)) (dw_and1 (dt_cp od_gt (de_ix (de_v 6) (de_ix (de_v 9) de_int (fun _ _ => rfl)) (fun _ _ => rfl)) de_int)))))) (dss_cons (ds_st sc__law_order_in.nd 8 (de_bin od_add (de_v 8) (de_tup (da_cons (de_ix (de_v 6) (de_ix (de_v 9) de_int (fun _ _ => rfl)) (fun _ _ => rfl)) da_nil)))) (dss_one (ds_sub de_int (de_v 6) (de_ix (de_v 9) de_int (fun _ _ => rfl))))) (dss_one (ds_if (DW.dt (dw_and (dt_cp (od_eq2 hr.units) (de_ix (de_v 9) de_int (fun _ _ => rfl)) de_str) (dw_and (dt_cp (od_in hr.units65) (de_cut (de_v 9) (do_some de_int) do_none) (de_v 3)) (dw_and (dt_cp od_gt (de_ix (de_v 6) (de_ix (de_v 9) de_int (fun _ _ => rfl)) (fun _ _ => rfl)) de_int) (dw_and1 (dt_cp (od_eq hr.units) (de_ix (de_v 6) (de_ix (de_v 9) de_int (fun _ _ => rfl)) (fun _ _ => rfl)) de_int)))))) (dss_cons (ds_sub (de_ix (de_v 6) (de_ix (de_v 9) de_int (fun _ _ => rfl)) (fun _ _ => rfl)) (de_v 6) (de_ix (de_v 9) de_int (fun _ _ => rfl))) (dss_one (ds_sub de_int (de_v 6) (de_ix (de_v 9) de_int (fun _ _ => rfl))))) (dss_one (ds_ret de_non))))))))))) (dss_one (ds_ret (de_if (dt_cp (od_eq hr.units) (de_v 6) (de_rep (de_lst (da_cons de_int da_nil)) (de_v 2))) (de_v 8) de_non))))))))
theorem sc__law_right : FnScope ["purse", "raw", "made", "deeds", "flipped", "rows", "row", "due"] ["purse"] (defScope s__law_right) := ⟨rfl, rfl, rfl, by decide +kernel, rfl, by decide +kernel, by decide +kernel⟩
theorem ok__law_right (T : Fa K mg r) : FnZ P w K mg base 8 r.a__law_right r.d__law_right ["purse"] f__law_right := .of T.fn__law_right sc__law_right fun cdv A outer s H W hg hr => (show DSs _ _ _ m__law_right from
  (dss_cons (ds_st sc__law_right.nd 1 (de_call (md := [true, false]) (ok__law_raw T) T.mg__law_raw T.fn__law_raw.kp T.bd__law_raw hg (hr.mono (by decide)) (takes_of rfl rfl rfl rfl) (da_cons (de_v 0) (da_cons de_int da_nil)))) (dss_cons (ds_st sc__law_right.nd 2 (de_call (md := [false]) (ok__law_built T) T.mg__law_built T.fn__law_built.kp T.bd__law_built hg (hr.mono (by decide)) (takes_of rfl rfl rfl rfl) (da_cons (de_v 1) da_nil))) (dss_cons (ds_st sc__law_right.nd 3 (de_call (md := [true, false, false]) (ok__law_led T) T.mg__law_led T.fn__law_led.kp T.bd__law_led hg (hr.mono (by decide)) (takes_of rfl rfl rfl rfl) (da_cons (de_v 0) (da_cons (de_v 1) (da_cons (de_bin od_add de_int (de_call (md := [true, false]) (ok__law_draw T) T.mg__law_draw T.fn__law_draw.kp T.bd__law_draw hg (hr.mono (by decide)) (takes_of rfl rfl rfl rfl) (da_cons (de_v 0) (da_cons de_int da_nil)))) da_nil))))) (dss_cons (ds_st sc__law_right.nd 4 (de_call (md := [true, false]) (ok__law_flipped T) T.mg__law_flipped T.fn__law_flipped.kp T.bd__law_flipped hg (hr.mono (by decide)) (takes_of rfl rfl rfl rfl) (da_cons (de_v 0) (da_cons (de_call (md := [true, false]) (ok__law_flipped T) T.mg__law_flipped T.fn__law_flipped.kp T.bd__law_flipped hg (hr.mono (by decide)) (takes_of rfl rfl rfl rfl) (da_cons (de_v 0) (da_cons (de_v 1) da_nil))) da_nil)))) (dss_cons (ds_st sc__law_right.nd 5 (de_lst (da_cons (de_v 3) (da_cons (de_callT cd_tuple T.b_tuple (da_cons (de_v 3) da_nil)) (da_cons (de_call (md := [true, false, false]) (ok__law_bent T) T.mg__law_bent T.fn__law_bent.kp T.bd__law_bent hg (hr.mono (by decide)) (takes_of rfl rfl rfl rfl) (da_cons (de_v 0) (da_cons (de_v 1) (da_cons (de_v 3) da_nil)))) (da_cons (de_call (md := [true, false, false]) (ok__law_bent T) T.mg__law_bent T.fn__law_bent.kp T.bd__law_bent hg (hr.mono (by decide)) (takes_of rfl rfl rfl rfl) (da_cons (de_v 0) (da_cons (de_v 1) (da_cons (de_cut (de_v 3) do_none (do_some de_int)) da_nil)))) da_nil)))))) (dss_cons (ds_st sc__law_right.nd 5 (de_bin od_add (de_v 5) (de_lst (da_cons (de_call (md := [true, false, false]) (ok__law_led T) T.mg__law_led T.fn__law_led.kp T.bd__law_led hg (hr.mono (by decide)) (takes_of rfl rfl rfl rfl) (da_cons (de_v 0) (da_cons (de_v 4) (da_cons (de_bin od_add de_int (de_call (md := [true, false]) (ok__law_draw T) T.mg__law_draw T.fn__law_draw.kp T.bd__law_draw hg (hr.mono (by decide)) (takes_of rfl rfl rfl rfl) (da_cons (de_v 0) (da_cons de_int da_nil)))) da_nil)))) (da_cons (de_call (md := [true, false, false]) (ok__law_led T) T.mg__law_led T.fn__law_led.kp T.bd__law_led hg (hr.mono (by decide)) (takes_of rfl rfl rfl rfl) (da_cons (de_v 0) (da_cons (de_v 4) (da_cons de_int da_nil)))) da_nil))))) (dss_cons (ds_expr (de_app (pv_ 5) (da_cons (de_ix (de_lst (da_cons de_non (da_cons de_int (da_cons de_str (da_cons de_dic0 (da_cons de_bl (da_cons (de_lst (da_cons (de_lst da_nil) da_nil)) (da_cons (de_lst (da_cons (de_tup (da_cons de_str da_nil)) da_nil)) (da_cons (de_tup (da_cons de_dic0 da_nil)) da_nil))))))))) (de_call (md := [true, false]) (ok__law_draw T) T.mg__law_draw T.fn__law_draw.kp T.bd__law_draw hg (hr.mono (by decide)) (takes_of rfl rfl rfl rfl) (da_cons (de_v 0) (da_cons de_int da_nil))) (fun _ _ => rfl)) da_nil))) (dss_cons (ds_for (passes_of rfl) rfl (di_seq (de_v 5)) (dg_name (pgn sc__law_right.nd 6)) (dss_cons (ds_st sc__law_right.nd 7 (de_call (md := [false, false]) (ok__law_order_in T) T.mg__law_order_in T.fn__law_order_in.kp T.bd__law_order_in hg (hr.mono (by decide)) (takes_of rfl rfl rfl rfl) (da_cons (de_v 1) (da_cons (de_v 6) da_nil)))) (dss_cons (ds_if (DW.dt (dw_or (dt_cp (od_ne hr.units) (de_callT (cd_str2 hg hr.units) T.b_str (da_cons (de_call (md := [false, false]) (ok_is_run T) T.mg_is_run T.fn_is_run.kp T.bd_is_run hg (hr.mono (by decide)) (takes_of rfl rfl rfl rfl) (da_cons (de_v 2) (da_cons (de_v 6) da_nil))) da_nil)) (de_callT (cd_str2 hg hr.units) T.b_str (da_cons (de_cp od_isN (de_v 7) de_non) da_nil))) (dw_or1 (dt_cp (od_ne hr.units) (de_callT (cd_str2 hg hr.units) T.b_str (da_cons (de_callK0 (md := [false, false]) (ks := ["thing", "yard"]) (perm := [1, 0]) (dvs := []) (dds := []) (ok_is_run T) T.mg_is_run T.fn_is_run.kp (T.kb_is_run_0_thing_yard) (fun _ => .nil) hg (hr.mono (by decide)) (takes_of rfl rfl rfl rfl) (dk_cons (de_v 6) (dk_cons (de_v 2) dk_nil))) da_nil)) (de_callT (cd_str2 hg hr.units) T.b_str (da_cons (de_cp od_isN (de_v 7) de_non) da_nil)))))) (dss_one (ds_ret de_bl)) dss_nil) (dss_cons (ds_if (DW.dt (dw_and (dt_cp od_is (de_v 7) de_non) (dw_and1 (dt_cp (od_ne hr.units) (de_callT (cd_str2 hg hr.units) T.b_str (da_cons (de_call (md := [false, false]) (ok__law_caught T) T.mg__law_caught T.fn__law_caught.kp T.bd__law_caught hg (hr.mono (by decide)) (takes_of rfl rfl rfl rfl) (da_cons (de_v 2) (da_cons (de_v 6) da_nil))) da_nil)) (de_callT (cd_str2 hg hr.units) T.b_str (da_cons (de_lst (da_cons de_str (da_cons (de_v 6) da_nil))) da_nil)))))) (dss_one (ds_ret de_bl)) dss_nil) (dss_one (ds_if (dt_cp od_isN (de_v 7) de_non) (dss_one (ds_if (DW.dt (dw_or (dt_cp (od_ne hr.units) (de_call (md := [false, false]) (ok_order_made T) T.mg_order_made T.fn_order_made.kp T.bd_order_made hg (hr.mono (by decide)) (takes_of rfl rfl rfl rfl) (da_cons (de_v 2) (da_cons (de_v 6) da_nil))) (de_v 7)) (dw_or1 (dt_cp (od_ne hr.units) (de_callK0 (md := [false, false]) (ks := ["moves", "yard"]) (perm := [1, 0]) (dvs := []) (dds := []) (ok_order_made T) T.mg_order_made T.fn_order_made.kp (T.kb_order_made_0_moves_yard) (fun _ => .nil) hg (hr.mono (by decide)) (takes_of rfl rfl rfl rfl) (dk_cons (de_v 6) (dk_cons (de_v 2) dk_nil))) (de_v 7))))) (dss_one (ds_ret de_bl)) dss_nil)) dss_nil)))))) (dss_one (ds_ret (de_and (de_cp od_is (de_call (md := [false, false]) (ok_is_run T) T.mg_is_run T.fn_is_run.kp T.bd_is_run hg (hr.mono (by decide)) (takes_of rfl rfl rfl rfl) (da_cons (de_v 2) (da_cons (de_lst da_nil) da_nil))) de_bl) (de_one (de_cp (od_eq hr.units) (de_call (md := [false, false]) (ok_order_made T) T.mg_order_made T.fn_order_made.kp T.bd_order_made hg (hr.mono (by decide)) (takes_of rfl rfl rfl rfl) (da_cons (de_v 2) (da_cons (de_tup da_nil) da_nil))) (de_tup da_nil)))))))))))))))
theorem sc_law : FnScope ["script", "at", "purse", "turn", "stub", "deeds"] ["script"] (defScope s_law) := ⟨rfl, rfl, rfl, by decide +kernel, rfl, by decide +kernel, by decide +kernel⟩
theorem ok_law (T : Fa K mg r) : FnZ P w K mg base 9 r.a_law r.d_law ["script"] f_law := .of T.fn_law sc_law fun cdv A outer s H W hg hr => (show DSs _ _ _ m_law from
  (dss_cons (ds_for (passes_of rfl) rfl (di_range1 T.b_range (da_cons (de_bin od_add de_int (de_callB (cd_min rfl) T.b_min (da_cons de_int (da_cons (de_callB cd_len T.b_len (da_cons (de_v 0) da_nil)) da_nil)))) da_nil)) (dg_name (pgn sc_law.nd 1)) (dss_cons (ds_st sc_law.nd 2 (de_call (md := [false, false]) (ok__law_purse T) T.mg__law_purse T.fn__law_purse.kp T.bd__law_purse hg (hr.mono (by decide)) (takes_of rfl rfl rfl rfl) (da_cons (de_v 0) (da_cons (de_v 1) da_nil)))) (dss_one (ds_for (passes_of rfl) rfl (di_range1 T.b_range (da_cons de_int da_nil)) (dg_name (pgn sc_law.nd 3)) (dss_one (ds_if (dt_not (dt_val (de_call (md := [true]) (ok__law_right T) T.mg__law_right T.fn__law_right.kp T.bd__law_right hg (hr.mono (by decide)) (takes_of rfl rfl rfl rfl) (da_cons (de_v 2) da_nil)))) (dss_one (ds_ret de_bl)) dss_nil)))))) (dss_cons (ds_st sc_law.nd 4 (de_mkK (n := 1) (ks := ["roads", "entries", "exits"]) (perm := [0, 1, 2, 3]) (dvs := []) (dds := []) T.mk_Yard (ok_Yard_init T) T.mg_Yard T.kb_Yard_init_1_roads_entries_exits (fun _ => .nil) hg (hr.mono (by decide)) (takes_of rfl rfl rfl rfl) (da_cons de_int da_nil) (dk_cons (de_lst (da_cons (de_tup (da_cons de_int (da_cons de_int da_nil))) (da_cons (de_tup (da_cons de_int (da_cons de_int da_nil))) da_nil))) (dk_cons (de_lst (da_cons de_int da_nil)) (dk_cons (de_lst (da_cons de_int da_nil)) dk_nil))))) (dss_cons (ds_st sc_law.nd 5 (de_lst (da_cons (de_tup (da_cons de_str (da_cons de_int da_nil))) (da_cons (de_tup (da_cons de_str (da_cons de_int (da_cons de_int da_nil)))) (da_cons (de_tup (da_cons de_str (da_cons de_int da_nil))) (da_cons (de_tup (da_cons de_str (da_cons de_int da_nil))) (da_cons (de_tup (da_cons de_str (da_cons de_int (da_cons de_int da_nil)))) (da_cons (de_tup (da_cons de_str (da_cons de_int da_nil))) da_nil)))))))) (dss_cons (ds_if (DW.dt (dw_or (dt_cp (od_ne hr.units) (de_call (md := [false, false]) (ok_order_made T) T.mg_order_made T.fn_order_made.kp T.bd_order_made hg (hr.mono (by decide)) (takes_of rfl rfl rfl rfl) (da_cons (de_v 4) (da_cons (de_v 5) da_nil))) (de_tup (da_cons de_int (da_cons de_int da_nil)))) (dw_or1 (dt_cp od_isN (de_call (md := [false, false]) (ok_is_run T) T.mg_is_run T.fn_is_run.kp T.bd_is_run hg (hr.mono (by decide)) (takes_of rfl rfl rfl rfl) (da_cons (de_v 4) (da_cons (de_cut (de_v 5) do_none (do_some (de_neg de_int))) da_nil))) de_bl)))) (dss_one (ds_ret de_bl)) dss_nil) (dss_one (ds_ret (de_and (de_cp (od_eq hr.units) (de_call (md := [false, false]) (ok__law_caught T) T.mg__law_caught T.fn__law_caught.kp T.bd__law_caught hg (hr.mono (by decide)) (takes_of rfl rfl rfl rfl) (da_cons de_non (da_cons (de_v 5) da_nil))) (de_lst (da_cons de_str (da_cons de_non da_nil)))) (de_one (de_cp od_is (de_call (md := [false, false]) (ok_is_run T) T.mg_is_run T.fn_is_run.kp T.bd_is_run hg (hr.mono (by decide)) (takes_of rfl rfl rfl rfl) (da_cons (de_v 4) (da_cons (de_cut (de_v 5) (do_some de_int) do_none) da_nil))) de_bl))))))))))
end
/-! the head -/
theorem all_mk {l : PySem.W.OpenLaw} {w : World} {K : PySem.W.Frag} {h : Heap} {mg : Str → Option Value} {fa : Addr} (X : K.In h) (G : h.Ns mainGlobals mg) (hfa : mg "law" = some (.ref fa))
    {a_is_number a_is_cell a_is_road a_checked_roads a_checked_cells a_Yard_init a__law_purse a_require_yard a_empty_of a_with_cell a_moved a_is_move a_blocked_at a_order_in a_order_made a_is_run a__law_caught a__law_mixed a__law_draw a__law_menu a__law_flipped a__law_raw a__law_built a__law_open a__law_led a__law_bent a__law_order_in a__law_right a_law C_Yard C_YardError C_InvalidNumber C_InvalidRoads C_InvalidCells C_InvalidYard C_InvalidMove i_InvalidNumber i_InvalidRoads i_InvalidCells i_InvalidYard i_InvalidMove : Addr}
    {oc_is_number : Value}
    {kV_is_number : Value}
    {dc_is_number : Value}
    {pm_is_number : Value}
    {cd_is_number : Value}
    {ct_is_number : Value}
    {od_is_number : Option Addr}
    {an_is_number : Option Addr}
    {sl_is_number : Array (Option Value)}
    {oc_is_cell : Value}
    {kV_is_cell : Value}
    {dc_is_cell : Value}
    {pm_is_cell : Value}
    {cd_is_cell : Value}
    {ct_is_cell : Value}
    {od_is_cell : Option Addr}
    {an_is_cell : Option Addr}
    {sl_is_cell : Array (Option Value)}
    {oc_is_road : Value}
    {kV_is_road : Value}
    {dc_is_road : Value}
    {pm_is_road : Value}
    {cd_is_road : Value}
    {ct_is_road : Value}
    {od_is_road : Option Addr}
    {an_is_road : Option Addr}
    {sl_is_road : Array (Option Value)}
    {oc_checked_roads : Value}
    {kV_checked_roads : Value}
    {dc_checked_roads : Value}
    {pm_checked_roads : Value}
    {cd_checked_roads : Value}
    {ct_checked_roads : Value}
    {od_checked_roads : Option Addr}
    {an_checked_roads : Option Addr}
    {sl_checked_roads : Array (Option Value)}
    {oc_checked_cells : Value}
    {kV_checked_cells : Value}
    {dc_checked_cells : Value}
    {pm_checked_cells : Value}
    {cd_checked_cells : Value}
    {ct_checked_cells : Value}
    {od_checked_cells : Option Addr}
    {an_checked_cells : Option Addr}
    {sl_checked_cells : Array (Option Value)}
    {oc_Yard_init : Value}
    {kV_Yard_init : Value}
    {dc_Yard_init : Value}
    {pm_Yard_init : Value}
    {cd_Yard_init : Value}
    {ct_Yard_init : Value}
    {od_Yard_init : Option Addr}
    {an_Yard_init : Option Addr}
    {sl_Yard_init : Array (Option Value)}
    {oc__law_purse : Value}
    {kV__law_purse : Value}
    {dc__law_purse : Value}
    {pm__law_purse : Value}
    {cd__law_purse : Value}
    {ct__law_purse : Value}
    {od__law_purse : Option Addr}
    {an__law_purse : Option Addr}
    {sl__law_purse : Array (Option Value)}
    {oc_require_yard : Value}
    {kV_require_yard : Value}
    {dc_require_yard : Value}
    {pm_require_yard : Value}
    {cd_require_yard : Value}
    {ct_require_yard : Value}
    {od_require_yard : Option Addr}
    {an_require_yard : Option Addr}
    {sl_require_yard : Array (Option Value)}
    {oc_empty_of : Value}
    {kV_empty_of : Value}
    {dc_empty_of : Value}
    {pm_empty_of : Value}
    {cd_empty_of : Value}
    {ct_empty_of : Value}
    {od_empty_of : Option Addr}
    {an_empty_of : Option Addr}
    {sl_empty_of : Array (Option Value)}
    {oc_with_cell : Value}
    {kV_with_cell : Value}
    {dc_with_cell : Value}
    {pm_with_cell : Value}
    {cd_with_cell : Value}
    {ct_with_cell : Value}
    {od_with_cell : Option Addr}
    {an_with_cell : Option Addr}
    {sl_with_cell : Array (Option Value)}
    {oc_moved : Value}
    {kV_moved : Value}
    {dc_moved : Value}
    {pm_moved : Value}
    {cd_moved : Value}
    {ct_moved : Value}
    {od_moved : Option Addr}
    {an_moved : Option Addr}
    {sl_moved : Array (Option Value)}
    {oc_is_move : Value}
    {kV_is_move : Value}
    {dc_is_move : Value}
    {pm_is_move : Value}
    {cd_is_move : Value}
    {ct_is_move : Value}
    {od_is_move : Option Addr}
    {an_is_move : Option Addr}
    {sl_is_move : Array (Option Value)}
    {oc_blocked_at : Value}
    {kV_blocked_at : Value}
    {dc_blocked_at : Value}
    {pm_blocked_at : Value}
    {cd_blocked_at : Value}
    {ct_blocked_at : Value}
    {od_blocked_at : Option Addr}
    {an_blocked_at : Option Addr}
    {sl_blocked_at : Array (Option Value)}
    {oc_order_in : Value}
    {kV_order_in : Value}
    {dc_order_in : Value}
    {pm_order_in : Value}
    {cd_order_in : Value}
    {ct_order_in : Value}
    {od_order_in : Option Addr}
    {an_order_in : Option Addr}
    {sl_order_in : Array (Option Value)}
    {oc_order_made : Value}
    {kV_order_made : Value}
    {dc_order_made : Value}
    {pm_order_made : Value}
    {cd_order_made : Value}
    {ct_order_made : Value}
    {od_order_made : Option Addr}
    {an_order_made : Option Addr}
    {sl_order_made : Array (Option Value)}
    {oc_is_run : Value}
    {kV_is_run : Value}
    {dc_is_run : Value}
    {pm_is_run : Value}
    {cd_is_run : Value}
    {ct_is_run : Value}
    {od_is_run : Option Addr}
    {an_is_run : Option Addr}
    {sl_is_run : Array (Option Value)}
    {oc__law_caught : Value}
    {kV__law_caught : Value}
    {dc__law_caught : Value}
    {pm__law_caught : Value}
    {cd__law_caught : Value}
    {ct__law_caught : Value}
    {od__law_caught : Option Addr}
    {an__law_caught : Option Addr}
    {sl__law_caught : Array (Option Value)}
    {oc__law_mixed : Value}
    {kV__law_mixed : Value}
    {dc__law_mixed : Value}
    {pm__law_mixed : Value}
    {cd__law_mixed : Value}
    {ct__law_mixed : Value}
    {od__law_mixed : Option Addr}
    {an__law_mixed : Option Addr}
    {sl__law_mixed : Array (Option Value)}
    {oc__law_draw : Value}
    {kV__law_draw : Value}
    {dc__law_draw : Value}
    {pm__law_draw : Value}
    {cd__law_draw : Value}
    {ct__law_draw : Value}
    {od__law_draw : Option Addr}
    {an__law_draw : Option Addr}
    {sl__law_draw : Array (Option Value)}
    {oc__law_menu : Value}
    {kV__law_menu : Value}
    {dc__law_menu : Value}
    {pm__law_menu : Value}
    {cd__law_menu : Value}
    {ct__law_menu : Value}
    {od__law_menu : Option Addr}
    {an__law_menu : Option Addr}
    {sl__law_menu : Array (Option Value)}
    {oc__law_flipped : Value}
    {kV__law_flipped : Value}
    {dc__law_flipped : Value}
    {pm__law_flipped : Value}
    {cd__law_flipped : Value}
    {ct__law_flipped : Value}
    {od__law_flipped : Option Addr}
    {an__law_flipped : Option Addr}
    {sl__law_flipped : Array (Option Value)}
    {oc__law_raw : Value}
    {kV__law_raw : Value}
    {dc__law_raw : Value}
    {pm__law_raw : Value}
    {cd__law_raw : Value}
    {ct__law_raw : Value}
    {od__law_raw : Option Addr}
    {an__law_raw : Option Addr}
    {sl__law_raw : Array (Option Value)}
    {oc__law_built : Value}
    {kV__law_built : Value}
    {dc__law_built : Value}
    {pm__law_built : Value}
    {cd__law_built : Value}
    {ct__law_built : Value}
    {od__law_built : Option Addr}
    {an__law_built : Option Addr}
    {sl__law_built : Array (Option Value)}
    {oc__law_open : Value}
    {kV__law_open : Value}
    {dc__law_open : Value}
    {pm__law_open : Value}
    {cd__law_open : Value}
    {ct__law_open : Value}
    {od__law_open : Option Addr}
    {an__law_open : Option Addr}
    {sl__law_open : Array (Option Value)}
    {oc__law_led : Value}
    {kV__law_led : Value}
    {dc__law_led : Value}
    {pm__law_led : Value}
    {cd__law_led : Value}
    {ct__law_led : Value}
    {od__law_led : Option Addr}
    {an__law_led : Option Addr}
    {sl__law_led : Array (Option Value)}
    {oc__law_bent : Value}
    {kV__law_bent : Value}
    {dc__law_bent : Value}
    {pm__law_bent : Value}
    {cd__law_bent : Value}
    {ct__law_bent : Value}
    {od__law_bent : Option Addr}
    {an__law_bent : Option Addr}
    {sl__law_bent : Array (Option Value)}
    {oc__law_order_in : Value}
    {kV__law_order_in : Value}
    {dc__law_order_in : Value}
    {pm__law_order_in : Value}
    {cd__law_order_in : Value}
    {ct__law_order_in : Value}
    {od__law_order_in : Option Addr}
    {an__law_order_in : Option Addr}
    {sl__law_order_in : Array (Option Value)}
    {oc__law_right : Value}
    {kV__law_right : Value}
    {dc__law_right : Value}
    {pm__law_right : Value}
    {cd__law_right : Value}
    {ct__law_right : Value}
    {od__law_right : Option Addr}
    {an__law_right : Option Addr}
    {sl__law_right : Array (Option Value)}
    {oc_law : Value}
    {kV_law : Value}
    {dc_law : Value}
    {pm_law : Value}
    {cd_law : Value}
    {ct_law : Value}
    {od_law : Option Addr}
    {an_law : Option Addr}
    {sl_law : Array (Option Value)}
    {nm_InvalidNumber : Str}
    {qq_InvalidNumber : Str}
    {NN_InvalidNumber : Addr}
    {bs_InvalidNumber : List Value}
    {bm_InvalidNumber : List Value}
    {sn_InvalidNumber : List Str}
    {sub_InvalidNumber : List Value}
    {ab_InvalidNumber : Bool}
    {col_InvalidNumber : Option Bool}
    {dd_InvalidNumber : Option Addr}
    {k0_InvalidNumber : Option Value}
    {k1_InvalidNumber : Option Value}
    {k2_InvalidNumber : Option Value}
    {k3_InvalidNumber : Option Value}
    {k5_InvalidNumber : Option Value}
    {nm_InvalidRoads : Str}
    {qq_InvalidRoads : Str}
    {NN_InvalidRoads : Addr}
    {bs_InvalidRoads : List Value}
    {bm_InvalidRoads : List Value}
    {sn_InvalidRoads : List Str}
    {sub_InvalidRoads : List Value}
    {ab_InvalidRoads : Bool}
    {col_InvalidRoads : Option Bool}
    {dd_InvalidRoads : Option Addr}
    {k0_InvalidRoads : Option Value}
    {k1_InvalidRoads : Option Value}
    {k2_InvalidRoads : Option Value}
    {k3_InvalidRoads : Option Value}
    {k5_InvalidRoads : Option Value}
    {nm_InvalidCells : Str}
    {qq_InvalidCells : Str}
    {NN_InvalidCells : Addr}
    {bs_InvalidCells : List Value}
    {bm_InvalidCells : List Value}
    {sn_InvalidCells : List Str}
    {sub_InvalidCells : List Value}
    {ab_InvalidCells : Bool}
    {col_InvalidCells : Option Bool}
    {dd_InvalidCells : Option Addr}
    {k0_InvalidCells : Option Value}
    {k1_InvalidCells : Option Value}
    {k2_InvalidCells : Option Value}
    {k3_InvalidCells : Option Value}
    {k5_InvalidCells : Option Value}
    {nm_InvalidYard : Str}
    {qq_InvalidYard : Str}
    {NN_InvalidYard : Addr}
    {bs_InvalidYard : List Value}
    {bm_InvalidYard : List Value}
    {sn_InvalidYard : List Str}
    {sub_InvalidYard : List Value}
    {ab_InvalidYard : Bool}
    {col_InvalidYard : Option Bool}
    {dd_InvalidYard : Option Addr}
    {k0_InvalidYard : Option Value}
    {k1_InvalidYard : Option Value}
    {k2_InvalidYard : Option Value}
    {k3_InvalidYard : Option Value}
    {k5_InvalidYard : Option Value}
    {nm_InvalidMove : Str}
    {qq_InvalidMove : Str}
    {NN_InvalidMove : Addr}
    {bs_InvalidMove : List Value}
    {bm_InvalidMove : List Value}
    {sn_InvalidMove : List Str}
    {sub_InvalidMove : List Value}
    {ab_InvalidMove : Bool}
    {col_InvalidMove : Option Bool}
    {dd_InvalidMove : Option Addr}
    {k0_InvalidMove : Option Value}
    {k1_InvalidMove : Option Value}
    {k2_InvalidMove : Option Value}
    {k3_InvalidMove : Option Value}
    {k5_InvalidMove : Option Value}
    {oc_i_InvalidNumber : Value}
    {kV_i_InvalidNumber : Value}
    {dc_i_InvalidNumber : Value}
    {pm_i_InvalidNumber : Value}
    {cd_i_InvalidNumber : Value}
    {ct_i_InvalidNumber : Value}
    {od_i_InvalidNumber : Option Addr}
    {an_i_InvalidNumber : Option Addr}
    {sl_i_InvalidNumber : Array (Option Value)}
    {oc_i_InvalidRoads : Value}
    {kV_i_InvalidRoads : Value}
    {dc_i_InvalidRoads : Value}
    {pm_i_InvalidRoads : Value}
    {cd_i_InvalidRoads : Value}
    {ct_i_InvalidRoads : Value}
    {od_i_InvalidRoads : Option Addr}
    {an_i_InvalidRoads : Option Addr}
    {sl_i_InvalidRoads : Array (Option Value)}
    {oc_i_InvalidCells : Value}
    {kV_i_InvalidCells : Value}
    {dc_i_InvalidCells : Value}
    {pm_i_InvalidCells : Value}
    {cd_i_InvalidCells : Value}
    {ct_i_InvalidCells : Value}
    {od_i_InvalidCells : Option Addr}
    {an_i_InvalidCells : Option Addr}
    {sl_i_InvalidCells : Array (Option Value)}
    {oc_i_InvalidYard : Value}
    {kV_i_InvalidYard : Value}
    {dc_i_InvalidYard : Value}
    {pm_i_InvalidYard : Value}
    {cd_i_InvalidYard : Value}
    {ct_i_InvalidYard : Value}
    {od_i_InvalidYard : Option Addr}
    {an_i_InvalidYard : Option Addr}
    {sl_i_InvalidYard : Array (Option Value)}
    {oc_i_InvalidMove : Value}
    {kV_i_InvalidMove : Value}
    {dc_i_InvalidMove : Value}
    {pm_i_InvalidMove : Value}
    {cd_i_InvalidMove : Value}
    {ct_i_InvalidMove : Value}
    {od_i_InvalidMove : Option Addr}
    {an_i_InvalidMove : Option Addr}
    {sl_i_InvalidMove : Array (Option Value)}
    (z_set : PySem.W.nsIn K mainGlobals "set" = some none)
    (z_len : PySem.W.nsIn K mainGlobals "len" = some none)
    (z_int : PySem.W.nsIn K mainGlobals "int" = some none)
    (z_max : PySem.W.nsIn K mainGlobals "max" = some none)
    (z_min : PySem.W.nsIn K mainGlobals "min" = some none)
    (z_all : PySem.W.nsIn K mainGlobals "all" = some none)
    (z_sum : PySem.W.nsIn K mainGlobals "sum" = some none)
    (z_sorted : PySem.W.nsIn K mainGlobals "sorted" = some none)
    (z_list : PySem.W.nsIn K mainGlobals "list" = some none)
    (z_tuple : PySem.W.nsIn K mainGlobals "tuple" = some none)
    (z_str : PySem.W.nsIn K mainGlobals "str" = some none)
    (z_isinstance : PySem.W.nsIn K mainGlobals "isinstance" = some none)
    (z_range : PySem.W.nsIn K mainGlobals "range" = some none)
    (z_enumerate : PySem.W.nsIn K mainGlobals "enumerate" = some none)
    (z_bool : PySem.W.nsIn K mainGlobals "bool" = some none)
    (z_dict : PySem.W.nsIn K mainGlobals "dict" = some none)
    (n_is_number : PySem.W.nsIn K mainGlobals "is_number" = some (some (.ref a_is_number)))
    (l_is_number : K.lookup a_is_number = some ⟨oc_is_number, od_is_number, .func (PySem.W.fnOf "is_number" "is_number" (defArgs s_is_number) (defBody s_is_number) (defScope s_is_number) .none kV_is_number dc_is_number pm_is_number an_is_number cd_is_number ct_is_number), sl_is_number⟩)
    (c_is_number : PySem.W.codeIn K cd_is_number "is_number" = true)
    (k_is_number : PySem.W.keepIn K (.ref a_is_number) = true)
    (n_is_cell : PySem.W.nsIn K mainGlobals "is_cell" = some (some (.ref a_is_cell)))
    (l_is_cell : K.lookup a_is_cell = some ⟨oc_is_cell, od_is_cell, .func (PySem.W.fnOf "is_cell" "is_cell" (defArgs s_is_cell) (defBody s_is_cell) (defScope s_is_cell) .none kV_is_cell dc_is_cell pm_is_cell an_is_cell cd_is_cell ct_is_cell), sl_is_cell⟩)
    (c_is_cell : PySem.W.codeIn K cd_is_cell "is_cell" = true)
    (k_is_cell : PySem.W.keepIn K (.ref a_is_cell) = true)
    (n_is_road : PySem.W.nsIn K mainGlobals "is_road" = some (some (.ref a_is_road)))
    (l_is_road : K.lookup a_is_road = some ⟨oc_is_road, od_is_road, .func (PySem.W.fnOf "is_road" "is_road" (defArgs s_is_road) (defBody s_is_road) (defScope s_is_road) .none kV_is_road dc_is_road pm_is_road an_is_road cd_is_road ct_is_road), sl_is_road⟩)
    (c_is_road : PySem.W.codeIn K cd_is_road "is_road" = true)
    (k_is_road : PySem.W.keepIn K (.ref a_is_road) = true)
    (n_checked_roads : PySem.W.nsIn K mainGlobals "checked_roads" = some (some (.ref a_checked_roads)))
    (l_checked_roads : K.lookup a_checked_roads = some ⟨oc_checked_roads, od_checked_roads, .func (PySem.W.fnOf "checked_roads" "checked_roads" (defArgs s_checked_roads) (defBody s_checked_roads) (defScope s_checked_roads) .none kV_checked_roads dc_checked_roads pm_checked_roads an_checked_roads cd_checked_roads ct_checked_roads), sl_checked_roads⟩)
    (c_checked_roads : PySem.W.codeIn K cd_checked_roads "checked_roads" = true)
    (k_checked_roads : PySem.W.keepIn K (.ref a_checked_roads) = true)
    (n_checked_cells : PySem.W.nsIn K mainGlobals "checked_cells" = some (some (.ref a_checked_cells)))
    (l_checked_cells : K.lookup a_checked_cells = some ⟨oc_checked_cells, od_checked_cells, .func (PySem.W.fnOf "checked_cells" "checked_cells" (defArgs s_checked_cells) (defBody s_checked_cells) (defScope s_checked_cells) .none kV_checked_cells dc_checked_cells pm_checked_cells an_checked_cells cd_checked_cells ct_checked_cells), sl_checked_cells⟩)
    (c_checked_cells : PySem.W.codeIn K cd_checked_cells "checked_cells" = true)
    (k_checked_cells : PySem.W.keepIn K (.ref a_checked_cells) = true)
    (l_Yard_init : K.lookup a_Yard_init = some ⟨oc_Yard_init, od_Yard_init, .func (PySem.W.fnOf "__init__" "Yard.__init__" (defArgs s_Yard_init) (defBody s_Yard_init) (defScope s_Yard_init) .none kV_Yard_init dc_Yard_init pm_Yard_init an_Yard_init cd_Yard_init ct_Yard_init), sl_Yard_init⟩)
    (c_Yard_init : PySem.W.codeIn K cd_Yard_init "Yard.__init__" = true)
    (k_Yard_init : PySem.W.keepIn K (.ref a_Yard_init) = true)
    (n__law_purse : PySem.W.nsIn K mainGlobals "_law_purse" = some (some (.ref a__law_purse)))
    (l__law_purse : K.lookup a__law_purse = some ⟨oc__law_purse, od__law_purse, .func (PySem.W.fnOf "_law_purse" "_law_purse" (defArgs s__law_purse) (defBody s__law_purse) (defScope s__law_purse) .none kV__law_purse dc__law_purse pm__law_purse an__law_purse cd__law_purse ct__law_purse), sl__law_purse⟩)
    (c__law_purse : PySem.W.codeIn K cd__law_purse "_law_purse" = true)
    (k__law_purse : PySem.W.keepIn K (.ref a__law_purse) = true)
    (n_require_yard : PySem.W.nsIn K mainGlobals "require_yard" = some (some (.ref a_require_yard)))
    (l_require_yard : K.lookup a_require_yard = some ⟨oc_require_yard, od_require_yard, .func (PySem.W.fnOf "require_yard" "require_yard" (defArgs s_require_yard) (defBody s_require_yard) (defScope s_require_yard) .none kV_require_yard dc_require_yard pm_require_yard an_require_yard cd_require_yard ct_require_yard), sl_require_yard⟩)
    (c_require_yard : PySem.W.codeIn K cd_require_yard "require_yard" = true)
    (k_require_yard : PySem.W.keepIn K (.ref a_require_yard) = true)
    (n_empty_of : PySem.W.nsIn K mainGlobals "empty_of" = some (some (.ref a_empty_of)))
    (l_empty_of : K.lookup a_empty_of = some ⟨oc_empty_of, od_empty_of, .func (PySem.W.fnOf "empty_of" "empty_of" (defArgs s_empty_of) (defBody s_empty_of) (defScope s_empty_of) .none kV_empty_of dc_empty_of pm_empty_of an_empty_of cd_empty_of ct_empty_of), sl_empty_of⟩)
    (c_empty_of : PySem.W.codeIn K cd_empty_of "empty_of" = true)
    (k_empty_of : PySem.W.keepIn K (.ref a_empty_of) = true)
    (n_with_cell : PySem.W.nsIn K mainGlobals "with_cell" = some (some (.ref a_with_cell)))
    (l_with_cell : K.lookup a_with_cell = some ⟨oc_with_cell, od_with_cell, .func (PySem.W.fnOf "with_cell" "with_cell" (defArgs s_with_cell) (defBody s_with_cell) (defScope s_with_cell) .none kV_with_cell dc_with_cell pm_with_cell an_with_cell cd_with_cell ct_with_cell), sl_with_cell⟩)
    (c_with_cell : PySem.W.codeIn K cd_with_cell "with_cell" = true)
    (k_with_cell : PySem.W.keepIn K (.ref a_with_cell) = true)
    (n_moved : PySem.W.nsIn K mainGlobals "moved" = some (some (.ref a_moved)))
    (l_moved : K.lookup a_moved = some ⟨oc_moved, od_moved, .func (PySem.W.fnOf "moved" "moved" (defArgs s_moved) (defBody s_moved) (defScope s_moved) .none kV_moved dc_moved pm_moved an_moved cd_moved ct_moved), sl_moved⟩)
    (c_moved : PySem.W.codeIn K cd_moved "moved" = true)
    (k_moved : PySem.W.keepIn K (.ref a_moved) = true)
    (n_is_move : PySem.W.nsIn K mainGlobals "is_move" = some (some (.ref a_is_move)))
    (l_is_move : K.lookup a_is_move = some ⟨oc_is_move, od_is_move, .func (PySem.W.fnOf "is_move" "is_move" (defArgs s_is_move) (defBody s_is_move) (defScope s_is_move) .none kV_is_move dc_is_move pm_is_move an_is_move cd_is_move ct_is_move), sl_is_move⟩)
    (c_is_move : PySem.W.codeIn K cd_is_move "is_move" = true)
    (k_is_move : PySem.W.keepIn K (.ref a_is_move) = true)
    (n_blocked_at : PySem.W.nsIn K mainGlobals "blocked_at" = some (some (.ref a_blocked_at)))
    (l_blocked_at : K.lookup a_blocked_at = some ⟨oc_blocked_at, od_blocked_at, .func (PySem.W.fnOf "blocked_at" "blocked_at" (defArgs s_blocked_at) (defBody s_blocked_at) (defScope s_blocked_at) .none kV_blocked_at dc_blocked_at pm_blocked_at an_blocked_at cd_blocked_at ct_blocked_at), sl_blocked_at⟩)
    (c_blocked_at : PySem.W.codeIn K cd_blocked_at "blocked_at" = true)
    (k_blocked_at : PySem.W.keepIn K (.ref a_blocked_at) = true)
    (n_order_in : PySem.W.nsIn K mainGlobals "order_in" = some (some (.ref a_order_in)))
    (l_order_in : K.lookup a_order_in = some ⟨oc_order_in, od_order_in, .func (PySem.W.fnOf "order_in" "order_in" (defArgs s_order_in) (defBody s_order_in) (defScope s_order_in) .none kV_order_in dc_order_in pm_order_in an_order_in cd_order_in ct_order_in), sl_order_in⟩)
    (c_order_in : PySem.W.codeIn K cd_order_in "order_in" = true)
    (k_order_in : PySem.W.keepIn K (.ref a_order_in) = true)
    (n_order_made : PySem.W.nsIn K mainGlobals "order_made" = some (some (.ref a_order_made)))
    (l_order_made : K.lookup a_order_made = some ⟨oc_order_made, od_order_made, .func (PySem.W.fnOf "order_made" "order_made" (defArgs s_order_made) (defBody s_order_made) (defScope s_order_made) .none kV_order_made dc_order_made pm_order_made an_order_made cd_order_made ct_order_made), sl_order_made⟩)
    (c_order_made : PySem.W.codeIn K cd_order_made "order_made" = true)
    (k_order_made : PySem.W.keepIn K (.ref a_order_made) = true)
    (n_is_run : PySem.W.nsIn K mainGlobals "is_run" = some (some (.ref a_is_run)))
    (l_is_run : K.lookup a_is_run = some ⟨oc_is_run, od_is_run, .func (PySem.W.fnOf "is_run" "is_run" (defArgs s_is_run) (defBody s_is_run) (defScope s_is_run) .none kV_is_run dc_is_run pm_is_run an_is_run cd_is_run ct_is_run), sl_is_run⟩)
    (c_is_run : PySem.W.codeIn K cd_is_run "is_run" = true)
    (k_is_run : PySem.W.keepIn K (.ref a_is_run) = true)
    (n__law_caught : PySem.W.nsIn K mainGlobals "_law_caught" = some (some (.ref a__law_caught)))
    (l__law_caught : K.lookup a__law_caught = some ⟨oc__law_caught, od__law_caught, .func (PySem.W.fnOf "_law_caught" "_law_caught" (defArgs s__law_caught) (defBody s__law_caught) (defScope s__law_caught) .none kV__law_caught dc__law_caught pm__law_caught an__law_caught cd__law_caught ct__law_caught), sl__law_caught⟩)
    (c__law_caught : PySem.W.codeIn K cd__law_caught "_law_caught" = true)
    (k__law_caught : PySem.W.keepIn K (.ref a__law_caught) = true)
    (n__law_mixed : PySem.W.nsIn K mainGlobals "_law_mixed" = some (some (.ref a__law_mixed)))
    (l__law_mixed : K.lookup a__law_mixed = some ⟨oc__law_mixed, od__law_mixed, .func (PySem.W.fnOf "_law_mixed" "_law_mixed" (defArgs s__law_mixed) (defBody s__law_mixed) (defScope s__law_mixed) .none kV__law_mixed dc__law_mixed pm__law_mixed an__law_mixed cd__law_mixed ct__law_mixed), sl__law_mixed⟩)
    (c__law_mixed : PySem.W.codeIn K cd__law_mixed "_law_mixed" = true)
    (k__law_mixed : PySem.W.keepIn K (.ref a__law_mixed) = true)
    (n__law_draw : PySem.W.nsIn K mainGlobals "_law_draw" = some (some (.ref a__law_draw)))
    (l__law_draw : K.lookup a__law_draw = some ⟨oc__law_draw, od__law_draw, .func (PySem.W.fnOf "_law_draw" "_law_draw" (defArgs s__law_draw) (defBody s__law_draw) (defScope s__law_draw) .none kV__law_draw dc__law_draw pm__law_draw an__law_draw cd__law_draw ct__law_draw), sl__law_draw⟩)
    (c__law_draw : PySem.W.codeIn K cd__law_draw "_law_draw" = true)
    (k__law_draw : PySem.W.keepIn K (.ref a__law_draw) = true)
    (n__law_menu : PySem.W.nsIn K mainGlobals "_law_menu" = some (some (.ref a__law_menu)))
    (l__law_menu : K.lookup a__law_menu = some ⟨oc__law_menu, od__law_menu, .func (PySem.W.fnOf "_law_menu" "_law_menu" (defArgs s__law_menu) (defBody s__law_menu) (defScope s__law_menu) .none kV__law_menu dc__law_menu pm__law_menu an__law_menu cd__law_menu ct__law_menu), sl__law_menu⟩)
    (c__law_menu : PySem.W.codeIn K cd__law_menu "_law_menu" = true)
    (k__law_menu : PySem.W.keepIn K (.ref a__law_menu) = true)
    (n__law_flipped : PySem.W.nsIn K mainGlobals "_law_flipped" = some (some (.ref a__law_flipped)))
    (l__law_flipped : K.lookup a__law_flipped = some ⟨oc__law_flipped, od__law_flipped, .func (PySem.W.fnOf "_law_flipped" "_law_flipped" (defArgs s__law_flipped) (defBody s__law_flipped) (defScope s__law_flipped) .none kV__law_flipped dc__law_flipped pm__law_flipped an__law_flipped cd__law_flipped ct__law_flipped), sl__law_flipped⟩)
    (c__law_flipped : PySem.W.codeIn K cd__law_flipped "_law_flipped" = true)
    (k__law_flipped : PySem.W.keepIn K (.ref a__law_flipped) = true)
    (n__law_raw : PySem.W.nsIn K mainGlobals "_law_raw" = some (some (.ref a__law_raw)))
    (l__law_raw : K.lookup a__law_raw = some ⟨oc__law_raw, od__law_raw, .func (PySem.W.fnOf "_law_raw" "_law_raw" (defArgs s__law_raw) (defBody s__law_raw) (defScope s__law_raw) .none kV__law_raw dc__law_raw pm__law_raw an__law_raw cd__law_raw ct__law_raw), sl__law_raw⟩)
    (c__law_raw : PySem.W.codeIn K cd__law_raw "_law_raw" = true)
    (k__law_raw : PySem.W.keepIn K (.ref a__law_raw) = true)
    (n__law_built : PySem.W.nsIn K mainGlobals "_law_built" = some (some (.ref a__law_built)))
    (l__law_built : K.lookup a__law_built = some ⟨oc__law_built, od__law_built, .func (PySem.W.fnOf "_law_built" "_law_built" (defArgs s__law_built) (defBody s__law_built) (defScope s__law_built) .none kV__law_built dc__law_built pm__law_built an__law_built cd__law_built ct__law_built), sl__law_built⟩)
    (c__law_built : PySem.W.codeIn K cd__law_built "_law_built" = true)
    (k__law_built : PySem.W.keepIn K (.ref a__law_built) = true)
    (n__law_open : PySem.W.nsIn K mainGlobals "_law_open" = some (some (.ref a__law_open)))
    (l__law_open : K.lookup a__law_open = some ⟨oc__law_open, od__law_open, .func (PySem.W.fnOf "_law_open" "_law_open" (defArgs s__law_open) (defBody s__law_open) (defScope s__law_open) .none kV__law_open dc__law_open pm__law_open an__law_open cd__law_open ct__law_open), sl__law_open⟩)
    (c__law_open : PySem.W.codeIn K cd__law_open "_law_open" = true)
    (k__law_open : PySem.W.keepIn K (.ref a__law_open) = true)
    (n__law_led : PySem.W.nsIn K mainGlobals "_law_led" = some (some (.ref a__law_led)))
    (l__law_led : K.lookup a__law_led = some ⟨oc__law_led, od__law_led, .func (PySem.W.fnOf "_law_led" "_law_led" (defArgs s__law_led) (defBody s__law_led) (defScope s__law_led) .none kV__law_led dc__law_led pm__law_led an__law_led cd__law_led ct__law_led), sl__law_led⟩)
    (c__law_led : PySem.W.codeIn K cd__law_led "_law_led" = true)
    (k__law_led : PySem.W.keepIn K (.ref a__law_led) = true)
    (n__law_bent : PySem.W.nsIn K mainGlobals "_law_bent" = some (some (.ref a__law_bent)))
    (l__law_bent : K.lookup a__law_bent = some ⟨oc__law_bent, od__law_bent, .func (PySem.W.fnOf "_law_bent" "_law_bent" (defArgs s__law_bent) (defBody s__law_bent) (defScope s__law_bent) .none kV__law_bent dc__law_bent pm__law_bent an__law_bent cd__law_bent ct__law_bent), sl__law_bent⟩)
    (c__law_bent : PySem.W.codeIn K cd__law_bent "_law_bent" = true)
    (k__law_bent : PySem.W.keepIn K (.ref a__law_bent) = true)
    (n__law_order_in : PySem.W.nsIn K mainGlobals "_law_order_in" = some (some (.ref a__law_order_in)))
    (l__law_order_in : K.lookup a__law_order_in = some ⟨oc__law_order_in, od__law_order_in, .func (PySem.W.fnOf "_law_order_in" "_law_order_in" (defArgs s__law_order_in) (defBody s__law_order_in) (defScope s__law_order_in) .none kV__law_order_in dc__law_order_in pm__law_order_in an__law_order_in cd__law_order_in ct__law_order_in), sl__law_order_in⟩)
    (c__law_order_in : PySem.W.codeIn K cd__law_order_in "_law_order_in" = true)
    (k__law_order_in : PySem.W.keepIn K (.ref a__law_order_in) = true)
    (n__law_right : PySem.W.nsIn K mainGlobals "_law_right" = some (some (.ref a__law_right)))
    (l__law_right : K.lookup a__law_right = some ⟨oc__law_right, od__law_right, .func (PySem.W.fnOf "_law_right" "_law_right" (defArgs s__law_right) (defBody s__law_right) (defScope s__law_right) .none kV__law_right dc__law_right pm__law_right an__law_right cd__law_right ct__law_right), sl__law_right⟩)
    (c__law_right : PySem.W.codeIn K cd__law_right "_law_right" = true)
    (k__law_right : PySem.W.keepIn K (.ref a__law_right) = true)
    (n_law : PySem.W.nsIn K mainGlobals "law" = some (some (.ref a_law)))
    (l_law : K.lookup a_law = some ⟨oc_law, od_law, .func (PySem.W.fnOf "law" "law" (defArgs s_law) (defBody s_law) (defScope s_law) .none kV_law dc_law pm_law an_law cd_law ct_law), sl_law⟩)
    (c_law : PySem.W.codeIn K cd_law "law" = true)
    (k_law : PySem.W.keepIn K (.ref a_law) = true)
    (nC_Yard : PySem.W.nsIn K mainGlobals "Yard" = some (some (.ref C_Yard)))
    (pg_Yard : PySem.W.plainGet K C_Yard Str.empty = true)
    (hd_Yard : PySem.W.hasDictIn K C_Yard = true)
    (po_Yard : PySem.W.plainOver K C_Yard = true)
    (sa_Yard : PySem.W.findIn K (.ref C_Yard) "__setattr__" = some (some (.builtin "object.__setattr__")))
    (ms_Yard : PySem.W.makesIn K C_Yard = true)
    (mi_Yard : PySem.W.findIn K (.ref C_Yard) "__init__" = some (some (.ref a_Yard_init)))
    (mf_Yard : PySem.W.isFn K (.ref a_Yard_init) = true)
    (mp_Yard : PySem.W.keepIn K (.ref C_Yard) = true)
    (ia_Yard : PySem.W.findIn K (.ref C_Yard) "__class__" = some (some (.builtin "object.__class__")))
    (ib_Yard : PySem.W.specialIn K (.builtin "object.__class__") "__get__" = some (some (.builtin "getset_descriptor.__get__")))
    (ic_Yard : PySem.W.takesIn K (.builtin "object.__class__") = some true)
    (id_Yard : PySem.W.mroIn K C_Yard (.type "object") = some true)
    (ie_Yard : PySem.W.kitOne K (.ref C_Yard) (.ref C_Yard) = some true)
    (if_Yard_NoneType : PySem.W.kitOne K (.type "NoneType") (.ref C_Yard) = some false)
    (if_Yard_bool : PySem.W.kitOne K (.type "bool") (.ref C_Yard) = some false)
    (if_Yard_int : PySem.W.kitOne K (.type "int") (.ref C_Yard) = some false)
    (if_Yard_str : PySem.W.kitOne K (.type "str") (.ref C_Yard) = some false)
    (if_Yard_list : PySem.W.kitOne K (.type "list") (.ref C_Yard) = some false)
    (if_Yard_tuple : PySem.W.kitOne K (.type "tuple") (.ref C_Yard) = some false)
    (if_Yard_dict : PySem.W.kitOne K (.type "dict") (.ref C_Yard) = some false)
    (no_Yard_cells : PySem.W.findIn K (.ref C_Yard) "cells" = some none)
    (no_Yard_entries : PySem.W.findIn K (.ref C_Yard) "entries" = some none)
    (no_Yard_exits : PySem.W.findIn K (.ref C_Yard) "exits" = some none)
    (no_Yard_roads : PySem.W.findIn K (.ref C_Yard) "roads" = some none)
    (nC_YardError : PySem.W.nsIn K mainGlobals "YardError" = some (some (.ref C_YardError)))
    (nC_InvalidNumber : PySem.W.nsIn K mainGlobals "InvalidNumber" = some (some (.ref C_InvalidNumber)))
    (nf_InvalidNumber_thing : PySem.W.findIn K (.ref C_InvalidNumber) "thing" = some none)
    (ex_InvalidNumber : PySem.W.subIn K (.ref C_InvalidNumber) (.type "BaseException") = some true)
    (xl_InvalidNumber : K.lookup C_InvalidNumber = some (excClassObj nm_InvalidNumber qq_InvalidNumber C_InvalidNumber NN_InvalidNumber bs_InvalidNumber bm_InvalidNumber true sn_InvalidNumber sub_InvalidNumber ab_InvalidNumber col_InvalidNumber dd_InvalidNumber k0_InvalidNumber k1_InvalidNumber k2_InvalidNumber k3_InvalidNumber k5_InvalidNumber "ValueError.__new__"))
    (rv_InvalidNumber : PySem.HandSPX.refsVE bm_InvalidNumber = true)
    (sa_InvalidNumber : PySem.W.findIn K (.ref C_InvalidNumber) "__setattr__" = some (some (.builtin "object.__setattr__")))
    (ty_InvalidNumber : PySem.W.typeIn K (.ref C_InvalidNumber) = some (.type "type"))
    (kC_InvalidNumber : PySem.W.keepIn K (.ref C_InvalidNumber) = true)
    (nC_InvalidRoads : PySem.W.nsIn K mainGlobals "InvalidRoads" = some (some (.ref C_InvalidRoads)))
    (nf_InvalidRoads_place : PySem.W.findIn K (.ref C_InvalidRoads) "place" = some none)
    (ex_InvalidRoads : PySem.W.subIn K (.ref C_InvalidRoads) (.type "BaseException") = some true)
    (xl_InvalidRoads : K.lookup C_InvalidRoads = some (excClassObj nm_InvalidRoads qq_InvalidRoads C_InvalidRoads NN_InvalidRoads bs_InvalidRoads bm_InvalidRoads true sn_InvalidRoads sub_InvalidRoads ab_InvalidRoads col_InvalidRoads dd_InvalidRoads k0_InvalidRoads k1_InvalidRoads k2_InvalidRoads k3_InvalidRoads k5_InvalidRoads "ValueError.__new__"))
    (rv_InvalidRoads : PySem.HandSPX.refsVE bm_InvalidRoads = true)
    (sa_InvalidRoads : PySem.W.findIn K (.ref C_InvalidRoads) "__setattr__" = some (some (.builtin "object.__setattr__")))
    (ty_InvalidRoads : PySem.W.typeIn K (.ref C_InvalidRoads) = some (.type "type"))
    (kC_InvalidRoads : PySem.W.keepIn K (.ref C_InvalidRoads) = true)
    (nC_InvalidCells : PySem.W.nsIn K mainGlobals "InvalidCells" = some (some (.ref C_InvalidCells)))
    (nf_InvalidCells_place : PySem.W.findIn K (.ref C_InvalidCells) "place" = some none)
    (ex_InvalidCells : PySem.W.subIn K (.ref C_InvalidCells) (.type "BaseException") = some true)
    (xl_InvalidCells : K.lookup C_InvalidCells = some (excClassObj nm_InvalidCells qq_InvalidCells C_InvalidCells NN_InvalidCells bs_InvalidCells bm_InvalidCells true sn_InvalidCells sub_InvalidCells ab_InvalidCells col_InvalidCells dd_InvalidCells k0_InvalidCells k1_InvalidCells k2_InvalidCells k3_InvalidCells k5_InvalidCells "ValueError.__new__"))
    (rv_InvalidCells : PySem.HandSPX.refsVE bm_InvalidCells = true)
    (sa_InvalidCells : PySem.W.findIn K (.ref C_InvalidCells) "__setattr__" = some (some (.builtin "object.__setattr__")))
    (ty_InvalidCells : PySem.W.typeIn K (.ref C_InvalidCells) = some (.type "type"))
    (kC_InvalidCells : PySem.W.keepIn K (.ref C_InvalidCells) = true)
    (nC_InvalidYard : PySem.W.nsIn K mainGlobals "InvalidYard" = some (some (.ref C_InvalidYard)))
    (nf_InvalidYard_thing : PySem.W.findIn K (.ref C_InvalidYard) "thing" = some none)
    (ex_InvalidYard : PySem.W.subIn K (.ref C_InvalidYard) (.type "BaseException") = some true)
    (xl_InvalidYard : K.lookup C_InvalidYard = some (excClassObj nm_InvalidYard qq_InvalidYard C_InvalidYard NN_InvalidYard bs_InvalidYard bm_InvalidYard true sn_InvalidYard sub_InvalidYard ab_InvalidYard col_InvalidYard dd_InvalidYard k0_InvalidYard k1_InvalidYard k2_InvalidYard k3_InvalidYard k5_InvalidYard "ValueError.__new__"))
    (rv_InvalidYard : PySem.HandSPX.refsVE bm_InvalidYard = true)
    (sa_InvalidYard : PySem.W.findIn K (.ref C_InvalidYard) "__setattr__" = some (some (.builtin "object.__setattr__")))
    (ty_InvalidYard : PySem.W.typeIn K (.ref C_InvalidYard) = some (.type "type"))
    (kC_InvalidYard : PySem.W.keepIn K (.ref C_InvalidYard) = true)
    (ga_InvalidYard : PySem.W.findIn K (.ref C_InvalidYard) "__getattribute__" = some (some (.builtin "BaseException.__getattribute__")))
    (gg_InvalidYard : PySem.W.findIn K (.ref C_InvalidYard) "__getattr__" = some none)
    (hd_InvalidYard : PySem.W.hasDictIn K C_InvalidYard = true)
    (nC_InvalidMove : PySem.W.nsIn K mainGlobals "InvalidMove" = some (some (.ref C_InvalidMove)))
    (nf_InvalidMove_thing : PySem.W.findIn K (.ref C_InvalidMove) "thing" = some none)
    (ex_InvalidMove : PySem.W.subIn K (.ref C_InvalidMove) (.type "BaseException") = some true)
    (xl_InvalidMove : K.lookup C_InvalidMove = some (excClassObj nm_InvalidMove qq_InvalidMove C_InvalidMove NN_InvalidMove bs_InvalidMove bm_InvalidMove true sn_InvalidMove sub_InvalidMove ab_InvalidMove col_InvalidMove dd_InvalidMove k0_InvalidMove k1_InvalidMove k2_InvalidMove k3_InvalidMove k5_InvalidMove "ValueError.__new__"))
    (rv_InvalidMove : PySem.HandSPX.refsVE bm_InvalidMove = true)
    (sa_InvalidMove : PySem.W.findIn K (.ref C_InvalidMove) "__setattr__" = some (some (.builtin "object.__setattr__")))
    (ty_InvalidMove : PySem.W.typeIn K (.ref C_InvalidMove) = some (.type "type"))
    (kC_InvalidMove : PySem.W.keepIn K (.ref C_InvalidMove) = true)
    (ga_InvalidMove : PySem.W.findIn K (.ref C_InvalidMove) "__getattribute__" = some (some (.builtin "BaseException.__getattribute__")))
    (gg_InvalidMove : PySem.W.findIn K (.ref C_InvalidMove) "__getattr__" = some none)
    (hd_InvalidMove : PySem.W.hasDictIn K C_InvalidMove = true)
    (in_InvalidNumber : PySem.W.findIn K (.ref C_InvalidNumber) "__init__" = some (some (.ref i_InvalidNumber)))
    (ti_InvalidNumber : PySem.W.typeIn K (.ref i_InvalidNumber) = some (.type "function"))
    (li_InvalidNumber : K.lookup i_InvalidNumber = some ⟨oc_i_InvalidNumber, od_i_InvalidNumber, .func (PySem.W.fnOf "__init__" "InvalidNumber.__init__" (defArgs si_InvalidNumber) (defBody si_InvalidNumber) (defScope si_InvalidNumber) .none kV_i_InvalidNumber dc_i_InvalidNumber pm_i_InvalidNumber an_i_InvalidNumber cd_i_InvalidNumber ct_i_InvalidNumber), sl_i_InvalidNumber⟩)
    (ci_InvalidNumber : PySem.W.codeIn K cd_i_InvalidNumber "InvalidNumber.__init__" = true)
    (ki_InvalidNumber : PySem.W.keepIn K (.ref i_InvalidNumber) = true)
    (in_InvalidRoads : PySem.W.findIn K (.ref C_InvalidRoads) "__init__" = some (some (.ref i_InvalidRoads)))
    (ti_InvalidRoads : PySem.W.typeIn K (.ref i_InvalidRoads) = some (.type "function"))
    (li_InvalidRoads : K.lookup i_InvalidRoads = some ⟨oc_i_InvalidRoads, od_i_InvalidRoads, .func (PySem.W.fnOf "__init__" "InvalidRoads.__init__" (defArgs si_InvalidRoads) (defBody si_InvalidRoads) (defScope si_InvalidRoads) .none kV_i_InvalidRoads dc_i_InvalidRoads pm_i_InvalidRoads an_i_InvalidRoads cd_i_InvalidRoads ct_i_InvalidRoads), sl_i_InvalidRoads⟩)
    (ci_InvalidRoads : PySem.W.codeIn K cd_i_InvalidRoads "InvalidRoads.__init__" = true)
    (ki_InvalidRoads : PySem.W.keepIn K (.ref i_InvalidRoads) = true)
    (in_InvalidCells : PySem.W.findIn K (.ref C_InvalidCells) "__init__" = some (some (.ref i_InvalidCells)))
    (ti_InvalidCells : PySem.W.typeIn K (.ref i_InvalidCells) = some (.type "function"))
    (li_InvalidCells : K.lookup i_InvalidCells = some ⟨oc_i_InvalidCells, od_i_InvalidCells, .func (PySem.W.fnOf "__init__" "InvalidCells.__init__" (defArgs si_InvalidCells) (defBody si_InvalidCells) (defScope si_InvalidCells) .none kV_i_InvalidCells dc_i_InvalidCells pm_i_InvalidCells an_i_InvalidCells cd_i_InvalidCells ct_i_InvalidCells), sl_i_InvalidCells⟩)
    (ci_InvalidCells : PySem.W.codeIn K cd_i_InvalidCells "InvalidCells.__init__" = true)
    (ki_InvalidCells : PySem.W.keepIn K (.ref i_InvalidCells) = true)
    (in_InvalidYard : PySem.W.findIn K (.ref C_InvalidYard) "__init__" = some (some (.ref i_InvalidYard)))
    (ti_InvalidYard : PySem.W.typeIn K (.ref i_InvalidYard) = some (.type "function"))
    (li_InvalidYard : K.lookup i_InvalidYard = some ⟨oc_i_InvalidYard, od_i_InvalidYard, .func (PySem.W.fnOf "__init__" "InvalidYard.__init__" (defArgs si_InvalidYard) (defBody si_InvalidYard) (defScope si_InvalidYard) .none kV_i_InvalidYard dc_i_InvalidYard pm_i_InvalidYard an_i_InvalidYard cd_i_InvalidYard ct_i_InvalidYard), sl_i_InvalidYard⟩)
    (ci_InvalidYard : PySem.W.codeIn K cd_i_InvalidYard "InvalidYard.__init__" = true)
    (ki_InvalidYard : PySem.W.keepIn K (.ref i_InvalidYard) = true)
    (in_InvalidMove : PySem.W.findIn K (.ref C_InvalidMove) "__init__" = some (some (.ref i_InvalidMove)))
    (ti_InvalidMove : PySem.W.typeIn K (.ref i_InvalidMove) = some (.type "function"))
    (li_InvalidMove : K.lookup i_InvalidMove = some ⟨oc_i_InvalidMove, od_i_InvalidMove, .func (PySem.W.fnOf "__init__" "InvalidMove.__init__" (defArgs si_InvalidMove) (defBody si_InvalidMove) (defScope si_InvalidMove) .none kV_i_InvalidMove dc_i_InvalidMove pm_i_InvalidMove an_i_InvalidMove cd_i_InvalidMove ct_i_InvalidMove), sl_i_InvalidMove⟩)
    (ci_InvalidMove : PySem.W.codeIn K cd_i_InvalidMove "InvalidMove.__init__" = true)
    (ki_InvalidMove : PySem.W.keepIn K (.ref i_InvalidMove) = true)
    (em_InvalidMove_InvalidMove : PySem.W.exmOne K (.ref C_InvalidMove) (.ref C_InvalidMove) = some true)
    (em_InvalidMove_InvalidYard : PySem.W.exmOne K (.ref C_InvalidMove) (.ref C_InvalidYard) = some false)
    (em_InvalidMove_YardError : PySem.W.exmOne K (.ref C_InvalidMove) (.ref C_YardError) = some true)
    (em_InvalidYard_InvalidMove : PySem.W.exmOne K (.ref C_InvalidYard) (.ref C_InvalidMove) = some false)
    (em_InvalidYard_InvalidYard : PySem.W.exmOne K (.ref C_InvalidYard) (.ref C_InvalidYard) = some true)
    (em_InvalidYard_YardError : PySem.W.exmOne K (.ref C_InvalidYard) (.ref C_YardError) = some true)
    : ∃ fd : FuncData, (∀ (s : Shared) (v : Value), BindsTo s fd ⟨[v], []⟩ [("script", v)]) ∧ ∀ base : Heap, K.In base → base.Ns mainGlobals mg → FnZ l.prog w K mg base 9 fa fd ["script"] f_law := by
  have e := hfa.symm.trans (PySem.W.mg_of X G n_law)
  have e2 : fa = a_law := by
    cases e
    rfl
  rw [e2]
  have F_is_number := fun_mk (st := s_is_number) l_is_number c_is_number k_is_number
  have F_is_cell := fun_mk (st := s_is_cell) l_is_cell c_is_cell k_is_cell
  have F_is_road := fun_mk (st := s_is_road) l_is_road c_is_road k_is_road
  have F_checked_roads := fun_mk (st := s_checked_roads) l_checked_roads c_checked_roads k_checked_roads
  have F_checked_cells := fun_mk (st := s_checked_cells) l_checked_cells c_checked_cells k_checked_cells
  have F_Yard_init := fun_mk (st := s_Yard_init) l_Yard_init c_Yard_init k_Yard_init
  have F__law_purse := fun_mk (st := s__law_purse) l__law_purse c__law_purse k__law_purse
  have F_require_yard := fun_mk (st := s_require_yard) l_require_yard c_require_yard k_require_yard
  have F_empty_of := fun_mk (st := s_empty_of) l_empty_of c_empty_of k_empty_of
  have F_with_cell := fun_mk (st := s_with_cell) l_with_cell c_with_cell k_with_cell
  have F_moved := fun_mk (st := s_moved) l_moved c_moved k_moved
  have F_is_move := fun_mk (st := s_is_move) l_is_move c_is_move k_is_move
  have F_blocked_at := fun_mk (st := s_blocked_at) l_blocked_at c_blocked_at k_blocked_at
  have F_order_in := fun_mk (st := s_order_in) l_order_in c_order_in k_order_in
  have F_order_made := fun_mk (st := s_order_made) l_order_made c_order_made k_order_made
  have F_is_run := fun_mk (st := s_is_run) l_is_run c_is_run k_is_run
  have F__law_caught := fun_mk (st := s__law_caught) l__law_caught c__law_caught k__law_caught
  have F__law_mixed := fun_mk (st := s__law_mixed) l__law_mixed c__law_mixed k__law_mixed
  have F__law_draw := fun_mk (st := s__law_draw) l__law_draw c__law_draw k__law_draw
  have F__law_menu := fun_mk (st := s__law_menu) l__law_menu c__law_menu k__law_menu
  have F__law_flipped := fun_mk (st := s__law_flipped) l__law_flipped c__law_flipped k__law_flipped
  have F__law_raw := fun_mk (st := s__law_raw) l__law_raw c__law_raw k__law_raw
  have F__law_built := fun_mk (st := s__law_built) l__law_built c__law_built k__law_built
  have F__law_open := fun_mk (st := s__law_open) l__law_open c__law_open k__law_open
  have F__law_led := fun_mk (st := s__law_led) l__law_led c__law_led k__law_led
  have F__law_bent := fun_mk (st := s__law_bent) l__law_bent c__law_bent k__law_bent
  have F__law_order_in := fun_mk (st := s__law_order_in) l__law_order_in c__law_order_in k__law_order_in
  have F__law_right := fun_mk (st := s__law_right) l__law_right c__law_right k__law_right
  have F_law := fun_mk (st := s_law) l_law c_law k_law
  have I_InvalidNumber := fun_mk (st := si_InvalidNumber) li_InvalidNumber ci_InvalidNumber ki_InvalidNumber
  have I_InvalidRoads := fun_mk (st := si_InvalidRoads) li_InvalidRoads ci_InvalidRoads ki_InvalidRoads
  have I_InvalidCells := fun_mk (st := si_InvalidCells) li_InvalidCells ci_InvalidCells ki_InvalidCells
  have I_InvalidYard := fun_mk (st := si_InvalidYard) li_InvalidYard ci_InvalidYard ki_InvalidYard
  have I_InvalidMove := fun_mk (st := si_InvalidMove) li_InvalidMove ci_InvalidMove ki_InvalidMove
  let r : Ad := { a_is_number := a_is_number, d_is_number := PySem.W.fnOf "is_number" "is_number" (defArgs s_is_number) (defBody s_is_number) (defScope s_is_number) .none kV_is_number dc_is_number pm_is_number an_is_number cd_is_number ct_is_number, a_is_cell := a_is_cell, d_is_cell := PySem.W.fnOf "is_cell" "is_cell" (defArgs s_is_cell) (defBody s_is_cell) (defScope s_is_cell) .none kV_is_cell dc_is_cell pm_is_cell an_is_cell cd_is_cell ct_is_cell, a_is_road := a_is_road, d_is_road := PySem.W.fnOf "is_road" "is_road" (defArgs s_is_road) (defBody s_is_road) (defScope s_is_road) .none kV_is_road dc_is_road pm_is_road an_is_road cd_is_road ct_is_road, a_checked_roads := a_checked_roads, d_checked_roads := PySem.W.fnOf "checked_roads" "checked_roads" (defArgs s_checked_roads) (defBody s_checked_roads) (defScope s_checked_roads) .none kV_checked_roads dc_checked_roads pm_checked_roads an_checked_roads cd_checked_roads ct_checked_roads, a_checked_cells := a_checked_cells, d_checked_cells := PySem.W.fnOf "checked_cells" "checked_cells" (defArgs s_checked_cells) (defBody s_checked_cells) (defScope s_checked_cells) .none kV_checked_cells dc_checked_cells pm_checked_cells an_checked_cells cd_checked_cells ct_checked_cells, a_Yard_init := a_Yard_init, d_Yard_init := PySem.W.fnOf "__init__" "Yard.__init__" (defArgs s_Yard_init) (defBody s_Yard_init) (defScope s_Yard_init) .none kV_Yard_init dc_Yard_init pm_Yard_init an_Yard_init cd_Yard_init ct_Yard_init, a__law_purse := a__law_purse, d__law_purse := PySem.W.fnOf "_law_purse" "_law_purse" (defArgs s__law_purse) (defBody s__law_purse) (defScope s__law_purse) .none kV__law_purse dc__law_purse pm__law_purse an__law_purse cd__law_purse ct__law_purse, a_require_yard := a_require_yard, d_require_yard := PySem.W.fnOf "require_yard" "require_yard" (defArgs s_require_yard) (defBody s_require_yard) (defScope s_require_yard) .none kV_require_yard dc_require_yard pm_require_yard an_require_yard cd_require_yard ct_require_yard, a_empty_of := a_empty_of, d_empty_of := PySem.W.fnOf "empty_of" "empty_of" (defArgs s_empty_of) (defBody s_empty_of) (defScope s_empty_of) .none kV_empty_of dc_empty_of pm_empty_of an_empty_of cd_empty_of ct_empty_of, a_with_cell := a_with_cell, d_with_cell := PySem.W.fnOf "with_cell" "with_cell" (defArgs s_with_cell) (defBody s_with_cell) (defScope s_with_cell) .none kV_with_cell dc_with_cell pm_with_cell an_with_cell cd_with_cell ct_with_cell, a_moved := a_moved, d_moved := PySem.W.fnOf "moved" "moved" (defArgs s_moved) (defBody s_moved) (defScope s_moved) .none kV_moved dc_moved pm_moved an_moved cd_moved ct_moved, a_is_move := a_is_move, d_is_move := PySem.W.fnOf "is_move" "is_move" (defArgs s_is_move) (defBody s_is_move) (defScope s_is_move) .none kV_is_move dc_is_move pm_is_move an_is_move cd_is_move ct_is_move, a_blocked_at := a_blocked_at, d_blocked_at := PySem.W.fnOf "blocked_at" "blocked_at" (defArgs s_blocked_at) (defBody s_blocked_at) (defScope s_blocked_at) .none kV_blocked_at dc_blocked_at pm_blocked_at an_blocked_at cd_blocked_at ct_blocked_at, a_order_in := a_order_in, d_order_in := PySem.W.fnOf "order_in" "order_in" (defArgs s_order_in) (defBody s_order_in) (defScope s_order_in) .none kV_order_in dc_order_in pm_order_in an_order_in cd_order_in ct_order_in, a_order_made := a_order_made, d_order_made := PySem.W.fnOf "order_made" "order_made" (defArgs s_order_made) (defBody s_order_made) (defScope s_order_made) .none kV_order_made dc_order_made pm_order_made an_order_made cd_order_made ct_order_made, a_is_run := a_is_run, d_is_run := PySem.W.fnOf "is_run" "is_run" (defArgs s_is_run) (defBody s_is_run) (defScope s_is_run) .none kV_is_run dc_is_run pm_is_run an_is_run cd_is_run ct_is_run, a__law_caught := a__law_caught, d__law_caught := PySem.W.fnOf "_law_caught" "_law_caught" (defArgs s__law_caught) (defBody s__law_caught) (defScope s__law_caught) .none kV__law_caught dc__law_caught pm__law_caught an__law_caught cd__law_caught ct__law_caught, a__law_mixed := a__law_mixed, d__law_mixed := PySem.W.fnOf "_law_mixed" "_law_mixed" (defArgs s__law_mixed) (defBody s__law_mixed) (defScope s__law_mixed) .none kV__law_mixed dc__law_mixed pm__law_mixed an__law_mixed cd__law_mixed ct__law_mixed, a__law_draw := a__law_draw, d__law_draw := PySem.W.fnOf "_law_draw" "_law_draw" (defArgs s__law_draw) (defBody s__law_draw) (defScope s__law_draw) .none kV__law_draw dc__law_draw pm__law_draw an__law_draw cd__law_draw ct__law_draw, a__law_menu := a__law_menu, d__law_menu := PySem.W.fnOf "_law_menu" "_law_menu" (defArgs s__law_menu) (defBody s__law_menu) (defScope s__law_menu) .none kV__law_menu dc__law_menu pm__law_menu an__law_menu cd__law_menu ct__law_menu, a__law_flipped := a__law_flipped, d__law_flipped := PySem.W.fnOf "_law_flipped" "_law_flipped" (defArgs s__law_flipped) (defBody s__law_flipped) (defScope s__law_flipped) .none kV__law_flipped dc__law_flipped pm__law_flipped an__law_flipped cd__law_flipped ct__law_flipped, a__law_raw := a__law_raw, d__law_raw := PySem.W.fnOf "_law_raw" "_law_raw" (defArgs s__law_raw) (defBody s__law_raw) (defScope s__law_raw) .none kV__law_raw dc__law_raw pm__law_raw an__law_raw cd__law_raw ct__law_raw, a__law_built := a__law_built, d__law_built := PySem.W.fnOf "_law_built" "_law_built" (defArgs s__law_built) (defBody s__law_built) (defScope s__law_built) .none kV__law_built dc__law_built pm__law_built an__law_built cd__law_built ct__law_built, a__law_open := a__law_open, d__law_open := PySem.W.fnOf "_law_open" "_law_open" (defArgs s__law_open) (defBody s__law_open) (defScope s__law_open) .none kV__law_open dc__law_open pm__law_open an__law_open cd__law_open ct__law_open, a__law_led := a__law_led, d__law_led := PySem.W.fnOf "_law_led" "_law_led" (defArgs s__law_led) (defBody s__law_led) (defScope s__law_led) .none kV__law_led dc__law_led pm__law_led an__law_led cd__law_led ct__law_led, a__law_bent := a__law_bent, d__law_bent := PySem.W.fnOf "_law_bent" "_law_bent" (defArgs s__law_bent) (defBody s__law_bent) (defScope s__law_bent) .none kV__law_bent dc__law_bent pm__law_bent an__law_bent cd__law_bent ct__law_bent, a__law_order_in := a__law_order_in, d__law_order_in := PySem.W.fnOf "_law_order_in" "_law_order_in" (defArgs s__law_order_in) (defBody s__law_order_in) (defScope s__law_order_in) .none kV__law_order_in dc__law_order_in pm__law_order_in an__law_order_in cd__law_order_in ct__law_order_in, a__law_right := a__law_right, d__law_right := PySem.W.fnOf "_law_right" "_law_right" (defArgs s__law_right) (defBody s__law_right) (defScope s__law_right) .none kV__law_right dc__law_right pm__law_right an__law_right cd__law_right ct__law_right, a_law := a_law, d_law := PySem.W.fnOf "law" "law" (defArgs s_law) (defBody s_law) (defScope s_law) .none kV_law dc_law pm_law an_law cd_law ct_law, C_YardError := C_YardError, C_InvalidNumber := C_InvalidNumber, C_InvalidRoads := C_InvalidRoads, C_InvalidCells := C_InvalidCells, C_InvalidYard := C_InvalidYard, C_InvalidMove := C_InvalidMove, C_Yard := C_Yard, i_InvalidNumber := i_InvalidNumber, e_InvalidNumber := PySem.W.fnOf "__init__" "InvalidNumber.__init__" (defArgs si_InvalidNumber) (defBody si_InvalidNumber) (defScope si_InvalidNumber) .none kV_i_InvalidNumber dc_i_InvalidNumber pm_i_InvalidNumber an_i_InvalidNumber cd_i_InvalidNumber ct_i_InvalidNumber, i_InvalidRoads := i_InvalidRoads, e_InvalidRoads := PySem.W.fnOf "__init__" "InvalidRoads.__init__" (defArgs si_InvalidRoads) (defBody si_InvalidRoads) (defScope si_InvalidRoads) .none kV_i_InvalidRoads dc_i_InvalidRoads pm_i_InvalidRoads an_i_InvalidRoads cd_i_InvalidRoads ct_i_InvalidRoads, i_InvalidCells := i_InvalidCells, e_InvalidCells := PySem.W.fnOf "__init__" "InvalidCells.__init__" (defArgs si_InvalidCells) (defBody si_InvalidCells) (defScope si_InvalidCells) .none kV_i_InvalidCells dc_i_InvalidCells pm_i_InvalidCells an_i_InvalidCells cd_i_InvalidCells ct_i_InvalidCells, i_InvalidYard := i_InvalidYard, e_InvalidYard := PySem.W.fnOf "__init__" "InvalidYard.__init__" (defArgs si_InvalidYard) (defBody si_InvalidYard) (defScope si_InvalidYard) .none kV_i_InvalidYard dc_i_InvalidYard pm_i_InvalidYard an_i_InvalidYard cd_i_InvalidYard ct_i_InvalidYard, i_InvalidMove := i_InvalidMove, e_InvalidMove := PySem.W.fnOf "__init__" "InvalidMove.__init__" (defArgs si_InvalidMove) (defBody si_InvalidMove) (defScope si_InvalidMove) .none kV_i_InvalidMove dc_i_InvalidMove pm_i_InvalidMove an_i_InvalidMove cd_i_InvalidMove ct_i_InvalidMove }
  have T : Fa K mg r := {
    b_set := PySem.W.mg_none_of X G z_set
    b_len := PySem.W.mg_none_of X G z_len
    b_int := PySem.W.mg_none_of X G z_int
    b_max := PySem.W.mg_none_of X G z_max
    b_min := PySem.W.mg_none_of X G z_min
    b_all := PySem.W.mg_none_of X G z_all
    b_sum := PySem.W.mg_none_of X G z_sum
    b_sorted := PySem.W.mg_none_of X G z_sorted
    b_list := PySem.W.mg_none_of X G z_list
    b_tuple := PySem.W.mg_none_of X G z_tuple
    b_str := PySem.W.mg_none_of X G z_str
    b_isinstance := PySem.W.mg_none_of X G z_isinstance
    b_range := PySem.W.mg_none_of X G z_range
    b_enumerate := PySem.W.mg_none_of X G z_enumerate
    b_bool := PySem.W.mg_none_of X G z_bool
    b_dict := PySem.W.mg_none_of X G z_dict
    mg_is_number := PySem.W.mg_of X G n_is_number
    fn_is_number := F_is_number
    bd_is_number := F_is_number.binds (ps := ["thing"]) (fun _ _ _ _ _ _ us hl => match us, hl with | [_], _ => rfl)
    mg_is_cell := PySem.W.mg_of X G n_is_cell
    fn_is_cell := F_is_cell
    bd_is_cell := F_is_cell.binds (ps := ["thing", "cells"]) (fun _ _ _ _ _ _ us hl => match us, hl with | [_, _], _ => rfl)
    mg_is_road := PySem.W.mg_of X G n_is_road
    fn_is_road := F_is_road
    bd_is_road := F_is_road.binds (ps := ["thing", "cells"]) (fun _ _ _ _ _ _ us hl => match us, hl with | [_, _], _ => rfl)
    mg_checked_roads := PySem.W.mg_of X G n_checked_roads
    fn_checked_roads := F_checked_roads
    bd_checked_roads := F_checked_roads.binds (ps := ["thing", "cells"]) (fun _ _ _ _ _ _ us hl => match us, hl with | [_, _], _ => rfl)
    mg_checked_cells := PySem.W.mg_of X G n_checked_cells
    fn_checked_cells := F_checked_cells
    bd_checked_cells := F_checked_cells.binds (ps := ["thing", "cells"]) (fun _ _ _ _ _ _ us hl => match us, hl with | [_, _], _ => rfl)
    fn_Yard_init := F_Yard_init
    mg__law_purse := PySem.W.mg_of X G n__law_purse
    fn__law_purse := F__law_purse
    bd__law_purse := F__law_purse.binds (ps := ["cells", "at"]) (fun _ _ _ _ _ _ us hl => match us, hl with | [_, _], _ => rfl)
    mg_require_yard := PySem.W.mg_of X G n_require_yard
    fn_require_yard := F_require_yard
    bd_require_yard := F_require_yard.binds (ps := ["thing"]) (fun _ _ _ _ _ _ us hl => match us, hl with | [_], _ => rfl)
    mg_empty_of := PySem.W.mg_of X G n_empty_of
    fn_empty_of := F_empty_of
    bd_empty_of := F_empty_of.binds (ps := ["yard"]) (fun _ _ _ _ _ _ us hl => match us, hl with | [_], _ => rfl)
    mg_with_cell := PySem.W.mg_of X G n_with_cell
    fn_with_cell := F_with_cell
    bd_with_cell := F_with_cell.binds (ps := ["cells", "x", "item"]) (fun _ _ _ _ _ _ us hl => match us, hl with | [_, _, _], _ => rfl)
    mg_moved := PySem.W.mg_of X G n_moved
    fn_moved := F_moved
    bd_moved := F_moved.binds (ps := ["cells", "move", "item"]) (fun _ _ _ _ _ _ us hl => match us, hl with | [_, _, _], _ => rfl)
    mg_is_move := PySem.W.mg_of X G n_is_move
    fn_is_move := F_is_move
    bd_is_move := F_is_move.binds (ps := ["yard", "thing"]) (fun _ _ _ _ _ _ us hl => match us, hl with | [_, _], _ => rfl)
    mg_blocked_at := PySem.W.mg_of X G n_blocked_at
    fn_blocked_at := F_blocked_at
    bd_blocked_at := F_blocked_at.binds (ps := ["cells", "move"]) (fun _ _ _ _ _ _ us hl => match us, hl with | [_, _], _ => rfl)
    mg_order_in := PySem.W.mg_of X G n_order_in
    fn_order_in := F_order_in
    bd_order_in := F_order_in.binds (ps := ["yard", "thing"]) (fun _ _ _ _ _ _ us hl => match us, hl with | [_, _], _ => rfl)
    mg_order_made := PySem.W.mg_of X G n_order_made
    fn_order_made := F_order_made
    bd_order_made := F_order_made.binds (ps := ["yard", "moves"]) (fun _ _ _ _ _ _ us hl => match us, hl with | [_, _], _ => rfl)
    mg_is_run := PySem.W.mg_of X G n_is_run
    fn_is_run := F_is_run
    bd_is_run := F_is_run.binds (ps := ["yard", "thing"]) (fun _ _ _ _ _ _ us hl => match us, hl with | [_, _], _ => rfl)
    mg__law_caught := PySem.W.mg_of X G n__law_caught
    fn__law_caught := F__law_caught
    bd__law_caught := F__law_caught.binds (ps := ["made", "row_of"]) (fun _ _ _ _ _ _ us hl => match us, hl with | [_, _], _ => rfl)
    mg__law_mixed := PySem.W.mg_of X G n__law_mixed
    fn__law_mixed := F__law_mixed
    bd__law_mixed := F__law_mixed.binds (ps := ["cell", "k"]) (fun _ _ _ _ _ _ us hl => match us, hl with | [_, _], _ => rfl)
    mg__law_draw := PySem.W.mg_of X G n__law_draw
    fn__law_draw := F__law_draw
    bd__law_draw := F__law_draw.binds (ps := ["purse", "out_of"]) (fun _ _ _ _ _ _ us hl => match us, hl with | [_, _], _ => rfl)
    mg__law_menu := PySem.W.mg_of X G n__law_menu
    fn__law_menu := F__law_menu
    bd__law_menu := F__law_menu.binds (ps := ["which"]) (fun _ _ _ _ _ _ us hl => match us, hl with | [_], _ => rfl)
    mg__law_flipped := PySem.W.mg_of X G n__law_flipped
    fn__law_flipped := F__law_flipped
    bd__law_flipped := F__law_flipped.binds (ps := ["purse", "raw"]) (fun _ _ _ _ _ _ us hl => match us, hl with | [_, _], _ => rfl)
    mg__law_raw := PySem.W.mg_of X G n__law_raw
    fn__law_raw := F__law_raw
    bd__law_raw := F__law_raw.binds (ps := ["purse", "most"]) (fun _ _ _ _ _ _ us hl => match us, hl with | [_, _], _ => rfl)
    mg__law_built := PySem.W.mg_of X G n__law_built
    fn__law_built := F__law_built
    bd__law_built := F__law_built.binds (ps := ["raw"]) (fun _ _ _ _ _ _ us hl => match us, hl with | [_], _ => rfl)
    mg__law_open := PySem.W.mg_of X G n__law_open
    fn__law_open := F__law_open
    bd__law_open := F__law_open.binds (ps := ["raw", "inside"]) (fun _ _ _ _ _ _ us hl => match us, hl with | [_, _], _ => rfl)
    mg__law_led := PySem.W.mg_of X G n__law_led
    fn__law_led := F__law_led
    bd__law_led := F__law_led.binds (ps := ["purse", "raw", "most"]) (fun _ _ _ _ _ _ us hl => match us, hl with | [_, _, _], _ => rfl)
    mg__law_bent := PySem.W.mg_of X G n__law_bent
    fn__law_bent := F__law_bent
    bd__law_bent := F__law_bent.binds (ps := ["purse", "raw", "deeds"]) (fun _ _ _ _ _ _ us hl => match us, hl with | [_, _, _], _ => rfl)
    mg__law_order_in := PySem.W.mg_of X G n__law_order_in
    fn__law_order_in := F__law_order_in
    bd__law_order_in := F__law_order_in.binds (ps := ["raw", "deeds"]) (fun _ _ _ _ _ _ us hl => match us, hl with | [_, _], _ => rfl)
    mg__law_right := PySem.W.mg_of X G n__law_right
    fn__law_right := F__law_right
    bd__law_right := F__law_right.binds (ps := ["purse"]) (fun _ _ _ _ _ _ us hl => match us, hl with | [_], _ => rfl)
    mg_law := PySem.W.mg_of X G n_law
    fn_law := F_law
    bd_law := F_law.binds (ps := ["script"]) (fun _ _ _ _ _ _ us hl => match us, hl with | [_], _ => rfl)
    mg_Yard := PySem.W.mg_of X G nC_Yard
    cl_Yard := ⟨pg_Yard, hd_Yard, po_Yard, sa_Yard⟩
    mk_Yard := ⟨ms_Yard, mi_Yard, mf_Yard, mp_Yard⟩
    oi_Yard := own_is ⟨⟨pg_Yard, hd_Yard, po_Yard, sa_Yard⟩, ia_Yard, ib_Yard, ic_Yard, id_Yard, ie_Yard⟩ if_Yard_NoneType if_Yard_bool if_Yard_int if_Yard_str if_Yard_list if_Yard_tuple if_Yard_dict
    fo_cells := (fld_cons (PySem.W.mg_of X G nC_Yard) ⟨pg_Yard, hd_Yard, po_Yard, sa_Yard⟩ no_Yard_cells fld_nil)
    fo_entries := (fld_cons (PySem.W.mg_of X G nC_Yard) ⟨pg_Yard, hd_Yard, po_Yard, sa_Yard⟩ no_Yard_entries fld_nil)
    fo_exits := (fld_cons (PySem.W.mg_of X G nC_Yard) ⟨pg_Yard, hd_Yard, po_Yard, sa_Yard⟩ no_Yard_exits fld_nil)
    fo_roads := (fld_cons (PySem.W.mg_of X G nC_Yard) ⟨pg_Yard, hd_Yard, po_Yard, sa_Yard⟩ no_Yard_roads fld_nil)
    kb_Yard_init_1_roads_entries_exits := kb_of fun us ws h1 h2 => match us, h1, ws, h2 with | [_, _], _, [_, _, _], _ => rfl
    kb_is_run_0_thing_yard := kb_of fun us ws h1 h2 => match us, h1, ws, h2 with | [], _, [_, _], _ => rfl
    kb_order_made_0_moves_yard := kb_of fun us ws h1 h2 => match us, h1, ws, h2 with | [], _, [_, _], _ => rfl
    mg_YardError := PySem.W.mg_of X G nC_YardError
    mg_InvalidNumber := PySem.W.mg_of X G nC_InvalidNumber
    ox_InvalidNumber := ⟨⟨nm_InvalidNumber, qq_InvalidNumber, NN_InvalidNumber, bs_InvalidNumber, bm_InvalidNumber, sn_InvalidNumber, sub_InvalidNumber, ab_InvalidNumber, col_InvalidNumber, dd_InvalidNumber, k0_InvalidNumber, k1_InvalidNumber, k2_InvalidNumber, k3_InvalidNumber, k5_InvalidNumber, xl_InvalidNumber, rv_InvalidNumber⟩, sa_InvalidNumber, ex_InvalidNumber, ty_InvalidNumber, kC_InvalidNumber⟩
    nf_InvalidNumber_thing := nf_InvalidNumber_thing
    mg_InvalidRoads := PySem.W.mg_of X G nC_InvalidRoads
    ox_InvalidRoads := ⟨⟨nm_InvalidRoads, qq_InvalidRoads, NN_InvalidRoads, bs_InvalidRoads, bm_InvalidRoads, sn_InvalidRoads, sub_InvalidRoads, ab_InvalidRoads, col_InvalidRoads, dd_InvalidRoads, k0_InvalidRoads, k1_InvalidRoads, k2_InvalidRoads, k3_InvalidRoads, k5_InvalidRoads, xl_InvalidRoads, rv_InvalidRoads⟩, sa_InvalidRoads, ex_InvalidRoads, ty_InvalidRoads, kC_InvalidRoads⟩
    nf_InvalidRoads_place := nf_InvalidRoads_place
    mg_InvalidCells := PySem.W.mg_of X G nC_InvalidCells
    ox_InvalidCells := ⟨⟨nm_InvalidCells, qq_InvalidCells, NN_InvalidCells, bs_InvalidCells, bm_InvalidCells, sn_InvalidCells, sub_InvalidCells, ab_InvalidCells, col_InvalidCells, dd_InvalidCells, k0_InvalidCells, k1_InvalidCells, k2_InvalidCells, k3_InvalidCells, k5_InvalidCells, xl_InvalidCells, rv_InvalidCells⟩, sa_InvalidCells, ex_InvalidCells, ty_InvalidCells, kC_InvalidCells⟩
    nf_InvalidCells_place := nf_InvalidCells_place
    mg_InvalidYard := PySem.W.mg_of X G nC_InvalidYard
    ox_InvalidYard := ⟨⟨nm_InvalidYard, qq_InvalidYard, NN_InvalidYard, bs_InvalidYard, bm_InvalidYard, sn_InvalidYard, sub_InvalidYard, ab_InvalidYard, col_InvalidYard, dd_InvalidYard, k0_InvalidYard, k1_InvalidYard, k2_InvalidYard, k3_InvalidYard, k5_InvalidYard, xl_InvalidYard, rv_InvalidYard⟩, sa_InvalidYard, ex_InvalidYard, ty_InvalidYard, kC_InvalidYard⟩
    nf_InvalidYard_thing := nf_InvalidYard_thing
    xf_InvalidYard := ⟨ga_InvalidYard, gg_InvalidYard, ex_InvalidYard, hd_InvalidYard⟩
    mg_InvalidMove := PySem.W.mg_of X G nC_InvalidMove
    ox_InvalidMove := ⟨⟨nm_InvalidMove, qq_InvalidMove, NN_InvalidMove, bs_InvalidMove, bm_InvalidMove, sn_InvalidMove, sub_InvalidMove, ab_InvalidMove, col_InvalidMove, dd_InvalidMove, k0_InvalidMove, k1_InvalidMove, k2_InvalidMove, k3_InvalidMove, k5_InvalidMove, xl_InvalidMove, rv_InvalidMove⟩, sa_InvalidMove, ex_InvalidMove, ty_InvalidMove, kC_InvalidMove⟩
    nf_InvalidMove_thing := nf_InvalidMove_thing
    xf_InvalidMove := ⟨ga_InvalidMove, gg_InvalidMove, ex_InvalidMove, hd_InvalidMove⟩
    in_InvalidNumber := in_InvalidNumber
    ti_InvalidNumber := ti_InvalidNumber
    fi_InvalidNumber := I_InvalidNumber
    bi_InvalidNumber := I_InvalidNumber.binds (ps := ["self", "thing"]) (fun _ _ _ _ _ _ us hl => match us, hl with | [_, _], _ => rfl)
    in_InvalidRoads := in_InvalidRoads
    ti_InvalidRoads := ti_InvalidRoads
    fi_InvalidRoads := I_InvalidRoads
    bi_InvalidRoads := I_InvalidRoads.binds (ps := ["self", "place"]) (fun _ _ _ _ _ _ us hl => match us, hl with | [_, _], _ => rfl)
    in_InvalidCells := in_InvalidCells
    ti_InvalidCells := ti_InvalidCells
    fi_InvalidCells := I_InvalidCells
    bi_InvalidCells := I_InvalidCells.binds (ps := ["self", "place"]) (fun _ _ _ _ _ _ us hl => match us, hl with | [_, _], _ => rfl)
    in_InvalidYard := in_InvalidYard
    ti_InvalidYard := ti_InvalidYard
    fi_InvalidYard := I_InvalidYard
    bi_InvalidYard := I_InvalidYard.binds (ps := ["self", "thing"]) (fun _ _ _ _ _ _ us hl => match us, hl with | [_, _], _ => rfl)
    in_InvalidMove := in_InvalidMove
    ti_InvalidMove := ti_InvalidMove
    fi_InvalidMove := I_InvalidMove
    bi_InvalidMove := I_InvalidMove.binds (ps := ["self", "thing"]) (fun _ _ _ _ _ _ us hl => match us, hl with | [_, _], _ => rfl)
    em_InvalidMove_InvalidMove := em_InvalidMove_InvalidMove
    em_InvalidMove_InvalidYard := em_InvalidMove_InvalidYard
    em_InvalidMove_YardError := em_InvalidMove_YardError
    em_InvalidYard_InvalidMove := em_InvalidYard_InvalidMove
    em_InvalidYard_InvalidYard := em_InvalidYard_InvalidYard
    em_InvalidYard_YardError := em_InvalidYard_YardError
  }
  exact ⟨_, fun s v => .of_eq rfl, fun base _ _ => ok_law (r := r) T⟩
end LAW

set_option Elab.async false
set_option linter.all false
set_option maxRecDepth 100000
set_option maxHeartbeats 4000000
/-! the purse -/
namespace LAW
open PySem Z
theorem mixed_ev {c k : Int} (hc : 0 ≤ c ∧ c < 2 ^ 31) (hk : 0 ≤ k ∧ k ≤ 10 ^ 12) : ∃ v : Int, 0 ≤ v ∧ f__law_mixed [.val (.int c), .val (.int k)] = some (.ret false (.int v) []) := by
  let s := ((c * 2654435761 + 40503 * k * k + 97 * k + 13) % 2147483647 : Int)
  have hs : 0 ≤ s ∧ s < 2147483647 := ⟨Int.emod_nonneg _ (by decide), Int.emod_lt_of_pos _ (by decide)⟩
  refine ⟨(s * s + 7 * s + 11) % 2147483629 / 3, Int.ediv_nonneg (Int.emod_nonneg _ (by decide)) (by decide), ?_⟩
  refine body_rt (x := .dat (.int ((s * s + 7 * s + 11) % 2147483629 / 3))) (ρ := [.val (.int c), .val (.int k), .val (.int s)]) (seq_ev (asg_ev (ρ1 := [.val (.int c), .val (.int k), .no]) (x := .dat (.int s)) (mod_ev (int_ev (add_ev (add_ev (add_ev (mul_ev rfl rfl ?_ ?_) (mul_ev (mul_ev rfl rfl ?_ ?_) rfl ?_ ?_)) (mul_ev rfl rfl ?_ ?_)) rfl)) rfl (by decide)) rfl)
    (ret_ev (div_ev (mod_ev (int_ev (add_ev (add_ev (mul_ev rfl rfl ?_ ?_) (mul_ev rfl rfl ?_ ?_)) rfl)) rfl (by decide)) rfl (by decide) (by decide))))
  all_goals first | decide | (unfold Sm; omega)
def Pu (n : Nat) (p : List D) : Prop := ∃ a b c : Int, p = [.int a, .int b, .int c] ∧ 0 ≤ a ∧ (0 ≤ b ∧ b < 2 ^ 31) ∧ 0 ≤ c ∧ c ≤ n
theorem draw_ev {n : Nat} {p : List D} {m : Int} (hp : Pu n p) (hn : n ≤ 10 ^ 9) (hm : 0 < m ∧ m ≤ 1000) : ∃ (v : Int) (p' : List D), (0 ≤ v ∧ v < m) ∧ Pu (n + 1) p' ∧ f__law_draw [.cel (.lst p), .val (.int m)] = some (.ret false (.int v) [.lst p']) := by
  obtain ⟨a, b, c, rfl, ha, hb, hc⟩ := hp
  by_cases h : 0 < a
  · refine ⟨a % m, [.int (a / m), .int b, .int c], ⟨Int.emod_nonneg _ (by omega), Int.emod_lt_of_pos _ hm.1⟩, ⟨a / m, b, c, rfl, Int.ediv_nonneg ha (by omega), hb, hc.1, by omega⟩, ?_⟩
    refine body_rt (x := .dat (.int (a % m))) (ρ := [.cel true (.lst [.int (a / m), .int b, .int c]), .val (.int m), .val (.int (a % m))]) (seqR_ev (ifT_ev (gt0 (decide_eq_true h) rfl) (seq_ev (asg_ev (x := .dat (.int (a % m))) (mod_ev (int_ev rfl) rfl hm.1) rfl) (seq_ev (sub_ev (k := 0) (div_ev (i := a) (j := m) rfl rfl hm.1 (by unfold Sm; omega)) rfl rfl (by simp)) rfl))))
  · obtain ⟨v, hv, hf⟩ := mixed_ev (c := b) (k := c + 1) hb (by omega)
    refine ⟨v % m, [.int a, .int b, .int (c + 1)], ⟨Int.emod_nonneg _ (by omega), Int.emod_lt_of_pos _ hm.1⟩, ⟨a, b, c + 1, rfl, ha, hb, by omega, by omega⟩, ?_⟩
    refine body_rt (x := .dat (.int (v % m))) (ρ := [.cel true (.lst [.int a, .int b, .int (c + 1)]), .val (.int m), .no]) (seq_ev (ifF_ev (gt0 (decide_eq_false h) rfl) rfl) (seq_ev (sub_ev (k := 2) (add_ev (i := c) (j := 1) rfl rfl) rfl rfl (by simp)) (ret_ev (mod_ev (int_ev (fn_ev (x := .dat (.int v)) (cons_ev rfl (cons_ev rfl rfl)) rfl hf rfl rfl)) rfl hm.1))))
theorem Pu.mono {n k : Nat} {p : List D} (h : Pu n p) (hk : n ≤ k) : Pu k p := by
  obtain ⟨a, b, c, rfl, ha, hb, hc⟩ := h
  exact ⟨a, b, c, rfl, ha, hb, hc.1, by omega⟩
theorem drawE {n : Nat} {p : List D} {m : Int} {rest : E} {ρ1 : E} (hp : Pu n p) (hn : n ≤ 10 ^ 9) (hm : 0 < m ∧ m ≤ 1000) {a : M Rf} (ha : ∀ p', a (.cel true (.lst p') :: rest) = some (.ok (.dat (.int m)) (.cel true (.lst p') :: rest))) :
    ∃ (v : Int) (p' : List D), (0 ≤ v ∧ v < m) ∧ Pu (n + 1) p' ∧ eFn f__law_draw [true, false] (aCons (eVar 0) (aCons a aNil)) (.cel true (.lst p) :: rest) = some (.ok (.dat (.int v)) (.cel true (.lst p') :: rest)) := by
  obtain ⟨v, p', h1, h2, h3⟩ := draw_ev hp hn hm
  exact ⟨v, p', h1, h2, fn_ev (x := .dat (.int v)) (xs := [.cel 0, .dat (.int m)]) (cons_ev (x := .cel 0) rfl (cons_ev (ha p) rfl)) rfl h3 rfl rfl⟩
theorem purse_ev {ns : List Int} {j : Nat} (hj : j ≤ 8) (hl : ns.length ≤ 1000) : ∃ p, Pu 10000 p ∧ f__law_purse [.val (LI ns), .val (.int (j : Int))] = some (.ret true (.lst p) []) := by
  have lenL : ∀ {ρ : E}, ρ[0]? = some (.val (LI ns)) → eCall fLen (aCons (eVar 0) aNil) ρ = some (.ok (.dat (.int ns.length)) ρ) := fun {ρ} h => by
    refine call_ev (xs := [.dat (LI ns)]) (ds := [LI ns]) (d := .int ns.length) (cons_ev (x := .dat (LI ns)) (var_ev h) rfl) rfl ?_
    show some (D.int ((ns.map D.int).length : Nat)) = _
    rw [List.length_map]
  have rest : ∀ c : Int, ∃ p, Pu 10000 p ∧ (sRet (eLst (aCons (eOp2 (fI kMod) (eCall fInt (aCons (eCall fMax (aCons (eOp2 (fI kSub) (eVar 2) (eOp2 (fI kPow) (eC (.int 10)) (eC (.int 18)))) (aCons (eC (.int 0)) aNil))) aNil)) (eOp2 (fI kPow) (eOp2 (fI kPow) (eC (.int 10)) (eC (.int 60))) (eC (.int 8)))) (aCons (eOp2 (fI kMod) (eCall fInt (aCons (eVar 2) aNil)) (eC (.int 2147483647))) (aCons (eOp2 (fI kMul) (eC (.int 1000)) (eVar 1)) aNil))))) [.val (LI ns), .val (.int (j : Int)), .val (.int c)] = some (.rt (.new p) [.val (LI ns), .val (.int (j : Int)), .val (.int c)]) := by
    intro c
    let m : Int := if (0 : Int) > c - 10 ^ 18 then 0 else c - 10 ^ 18
    have hm : 0 ≤ m := by
      show 0 ≤ if (0 : Int) > c - 10 ^ 18 then 0 else c - 10 ^ 18
      split <;> omega
    refine ⟨[.int (m % (10 ^ 60) ^ 8), .int (c % 2147483647), .int (1000 * (j : Int))], ⟨_, _, _, rfl, Int.emod_nonneg _ (by decide), ⟨Int.emod_nonneg _ (by decide), ?_⟩, by omega, by omega⟩, ?_⟩
    · have := Int.emod_lt_of_pos c (b := 2147483647) (by decide)
      omega
    · refine ret_ev (lst_ev (xs := [.dat (.int (m % (10 ^ 60) ^ 8)), .dat (.int (c % 2147483647)), .dat (.int (1000 * (j : Int)))]) (cons_ev (x := .dat (.int (m % (10 ^ 60) ^ 8))) (mod_ev (int_ev (call_ev (xs := [.dat (.int (c - 10 ^ 18)), .dat (.int 0)]) (ds := [.int (c - 10 ^ 18), .int 0]) (d := .int m) (cons_ev (x := .dat (.int (c - 10 ^ 18))) (op2_ev (d := .int (c - 10 ^ 18)) (x := .dat (.int c)) (y := .dat (.int (10 ^ 18))) rfl (by kernel_rfl) rfl rfl rfl) rfl) rfl rfl)) (by kernel_rfl) (by decide)) (cons_ev (x := .dat (.int (c % 2147483647))) (mod_ev (int_ev rfl) rfl (by decide)) (cons_ev (x := .dat (.int (1000 * (j : Int)))) (mul_ev rfl rfl (by decide) (by unfold Sm; omega)) rfl))) rfl)
  have lt : tst (eOp2 (fI kLt) (eVar 1) (eCall fLen (aCons (eVar 0) aNil))) [.val (LI ns), .val (.int (j : Int)), .val (.int 0)] = some (.ok (decide ((j : Int) < (ns.length : Int))) [.val (LI ns), .val (.int (j : Int)), .val (.int 0)]) := tst_ev (op2_ev (d := .bl (decide ((j : Int) < (ns.length : Int)))) (x := .dat (.int (j : Int))) (y := .dat (.int ns.length)) rfl (lenL rfl) rfl rfl rfl)
  by_cases h : j < ns.length
  · obtain ⟨p, hp, e⟩ := rest ns[j]!
    refine ⟨p, hp, body_rt (x := .new p) (ρ := [.val (LI ns), .val (.int (j : Int)), .val (.int ns[j]!)]) (seq_ev (ρ1 := [.val (LI ns), .val (.int (j : Int)), .val (.int 0)]) (asg_ev (x := .dat (.int 0)) rfl rfl) (seq_ev (ρ1 := [.val (LI ns), .val (.int (j : Int)), .val (.int ns[j]!)]) (ifT_ev (ρ1 := [.val (LI ns), .val (.int (j : Int)), .val (.int 0)]) (by rw [lt, decide_eq_true (by omega)]) (asg_ev (x := .dat (.int ns[j]!)) (ρ1 := [.val (LI ns), .val (.int (j : Int)), .val (.int 0)]) (ixL_ev (x := .dat (LI ns)) rfl rfl rfl ?_) rfl)) e))⟩
    rw [atI_nat (by rw [List.length_map]; exact h), List.getElem?_map]
    simp [h]
  · obtain ⟨p, hp, e⟩ := rest 0
    exact ⟨p, hp, body_rt (x := .new p) (ρ := [.val (LI ns), .val (.int (j : Int)), .val (.int 0)]) (seq_ev (ρ1 := [.val (LI ns), .val (.int (j : Int)), .val (.int 0)]) (asg_ev (x := .dat (.int 0)) rfl rfl) (seq_ev (ρ1 := [.val (LI ns), .val (.int (j : Int)), .val (.int 0)]) (ifF_ev (ρ1 := [.val (LI ns), .val (.int (j : Int)), .val (.int 0)]) (by rw [lt, decide_eq_false (by omega)]) rfl) e))⟩
end LAW

set_option Elab.async false
set_option linter.all false
set_option maxRecDepth 100000
set_option maxHeartbeats 4000000
namespace LAW
open PySem Z
local macro_rules | `(tactic| decreasing_trivial) => `(tactic| repeat (first
  | ((with_reducible apply w_val); exact rfl) | ((with_reducible apply w_cel); exact rfl) | with_reducible refine w_c ?_ | with_reducible refine w_op2 ?_ | with_reducible refine w_cons ?_ | with_reducible refine w_nil ?_ | with_reducible refine w_tst ?_ | with_reducible refine w_call ?_ | with_reducible refine w_ix ?_ | with_reducible refine w_bnot ?_ | with_reducible refine w_band ?_ | with_reducible refine w_bor ?_ | with_reducible refine ws_seq ?_ | with_reducible refine ws_asg ?_ | with_reducible refine ws_if ?_ | with_reducible refine ws_ret ?_ | with_reducible refine ws_expr ?_ | with_reducible refine ws_nx ?_ | with_reducible refine w_and ?_ | with_reducible refine w_or ?_ | with_reducible refine w_not ?_ | with_reducible refine w_eif ?_ | with_reducible refine w_tup ?_ | with_reducible refine w_lst ?_ | with_reducible refine w_fld ?_ | with_reducible refine w_cut ?_ | with_reducible refine w_onone ?_ | with_reducible refine w_osome ?_ | with_reducible refine w_fn ?_ | with_reducible refine w_fnK ?_ | with_reducible refine w_mkK ?_ | with_reducible refine w_meth ?_ | with_reducible refine w_comp ?_ | with_reducible refine w_seq ?_ | with_reducible refine w_en ?_ | with_reducible refine w_rg1 ?_ | with_reducible refine w_rg2 ?_ | with_reducible refine w_isi ?_ | with_reducible refine w_isLT ?_ | with_reducible refine w_isOwn ?_ | with_reducible refine w_ss ?_ | with_reducible refine w_chain ?_ | with_reducible refine w_un ?_ | with_reducible refine w_neg ?_ | with_reducible refine w_rep ?_ | with_reducible refine w_lrg ?_ | with_reducible refine w_lrg1 ?_ | with_reducible refine w_tm ?_ | with_reducible refine w_true ?_ | with_reducible refine ws_par ?_ | with_reducible refine w_pcons ?_ | with_reducible refine w_pnil ?_ | with_reducible refine ws_for ?_ | with_reducible refine ws_retN ?_ | with_reducible refine ws_sub ?_ | with_reducible refine ws_fld ?_ | with_reducible refine ws_raise ?_ | with_reducible refine ws_raise2 ?_ | with_reducible refine ws_bk ?_ | with_reducible refine ws_ct ?_ | ((with_reducible apply w_lm); exact rfl)
  | refine ⟨_, _, rfl, rfl, Nat.le_of_ble_eq_true rfl, ?_⟩ | refine ⟨_, _, _, _, rfl, rfl, rfl, (by decide), ?_⟩ | refine ⟨_, _, _, _, rfl, rfl, rfl, ?_⟩ | refine ⟨_, _, _, rfl, rfl, (by decide), ?_⟩ | refine ⟨_, _, _, rfl, rfl, rfl, ?_⟩ | refine ⟨_, _, _, rfl, rfl, ?_⟩ | refine ⟨_, _, rfl, rfl, ?_⟩ | refine ⟨_, _, (rfl : frz _ _ = some (R.ok _ _)), ?_⟩ | refine ⟨_, _, (rfl : stk _ _ = some (R.ok _ _)), ?_⟩ | refine ⟨_, rfl, ?_⟩ | refine ⟨_, _, rfl, Nat.le_of_ble_eq_true rfl, ?_⟩
  | ((with_reducible apply ite_T); exact rfl) | ((with_reducible apply ite_F); exact rfl) | exact ⟨rfl, rfl⟩ | refine ws_seq ?_ | refine ws_if ?_ | refine ws_ret ?_ | refine ws_for ?_ | refine ws_asg ?_ | refine w_c ?_))
/-! yards: their data -/
structure Raw where
  n : Nat
  ways : List (Nat × Nat)
  ins : List Nat
  outs : List Nat
def nD (i : Nat) : D := .int (i : Int)
def wD (w : Nat × Nat) : D := .tup [.int (w.1 : Int), .int (w.2 : Int)]
def Raw.d (r : Raw) : D := .tup [.int (r.n : Int), .lst (r.ways.map wD), .lst (r.ins.map nD), .lst (r.outs.map nD)]
structure Raw.Ok (r : Raw) (m k : Nat) : Prop where
  n1 : 1 ≤ r.n
  nm : r.n ≤ m
  w : ∀ w ∈ r.ways, w.1 < r.n ∧ w.2 < r.n ∧ w.1 ≠ w.2
  wl : r.ways.length ≤ k
  i : ∀ x ∈ r.ins, x < r.n
  il : r.ins.length ≤ k
  o : ∀ x ∈ r.outs, x < r.n
  ol : r.outs.length ≤ k
theorem Raw.Ok.mono {r : Raw} {m k m' k' : Nat} (h : r.Ok m k) (hm : m ≤ m') (hk : k ≤ k') : r.Ok m' k' :=
  ⟨h.n1, Nat.le_trans h.nm hm, h.w, Nat.le_trans h.wl hk, h.i, Nat.le_trans h.il hk, h.o, Nat.le_trans h.ol hk⟩
/-! data as the model compares them -/
def nP (i : Nat) : PyData := .int (i : Int)
def wP (w : Nat × Nat) : PyData := .tuple [.int (w.1 : Int), .int (w.2 : Int)]
theorem pys_n : ∀ xs : List Nat, D.pys (xs.map nD) = some (xs.map nP)
  | [] => rfl
  | x :: xs => by
    simp only [List.map_cons, D.pys, nD, D.py, pys_n xs]
    rfl
theorem pys_w : ∀ xs : List (Nat × Nat), D.pys (xs.map wD) = some (xs.map wP)
  | [] => rfl
  | x :: xs => by
    simp only [List.map_cons, D.pys, wD, D.py, pys_w xs]
    rfl
theorem lay_n : ∀ xs : List Nat, PyData.canLayAll0 (xs.map nP) = true ∧ PyData.depthAll (xs.map nP) ≤ 2
  | [] => by simp [PyData.canLayAll0, PyData.depthAll]
  | x :: xs => by
    have := lay_n xs
    simp only [List.map_cons, PyData.canLayAll0, nP, PyData.canLay0, Bool.true_and, PyData.depthAll, PyData.depth]
    exact ⟨this.1, by omega⟩
theorem lay_w : ∀ xs : List (Nat × Nat), PyData.canLayAll0 (xs.map wP) = true ∧ PyData.depthAll (xs.map wP) ≤ 2
  | [] => by simp [PyData.canLayAll0, PyData.depthAll]
  | x :: xs => by
    have := lay_w xs
    simp only [List.map_cons, PyData.canLayAll0, wP, PyData.canLay0, Bool.true_and, PyData.depthAll, PyData.depth]
    exact ⟨this.1, by omega⟩
theorem shaped_l {xs : List PyData} (h : PyData.canLayAll0 xs = true ∧ PyData.depthAll xs ≤ 2) : SeqAt.shaped (.list xs) = true ∧ SeqAt.shaped (.tuple xs) = true := by
  unfold SeqAt.shaped
  have k := h.2
  constructor
  · simp only [PyData.canLay0, PyData.depth, h.1, Bool.true_and]
    exact decide_eq_true (by omega)
  · simp only [PyData.canLay0, PyData.depth, h.1, Bool.true_and]
    exact decide_eq_true (by omega)
theorem any_n (i : Int) : ∀ xs : List Nat, ((xs.map nP).any fun z => PyData.eqv z (.int i)) = xs.any (fun x => decide ((x : Int) = i))
  | [] => rfl
  | x :: xs => by
    simp only [List.map_cons, List.any_cons, any_n i xs, nP, PyData.eqv]
    rfl
theorem any_w (u v : Int) : ∀ xs : List (Nat × Nat), ((xs.map wP).any fun z => PyData.eqv z (.tuple [.int u, .int v])) = xs.any (fun x => decide ((x.1 : Int) = u ∧ (x.2 : Int) = v))
  | [] => rfl
  | x :: xs => by
    simp only [List.map_cons, List.any_cons, any_w u v xs, wP, PyData.eqv, PyData.eqvAll, Bool.and_true]
    congr 1
    rw [Bool.decide_and]
    rfl
theorem in_nl (i : Int) (xs : List Nat) : fIn (.int i) (.lst (xs.map nD)) = some (.bl (xs.any fun x => decide ((x : Int) = i))) := by
  unfold fIn inD
  simp only [D.py, pys_n, Option.map_some, (shaped_l (lay_n xs)).1, any_n, and_true]
  rfl
theorem in_nt (i : Int) (xs : List Nat) : fIn (.int i) (.tup (xs.map nD)) = some (.bl (xs.any fun x => decide ((x : Int) = i))) := by
  unfold fIn inD
  simp only [D.py, pys_n, Option.map_some, (shaped_l (lay_n xs)).2, any_n, and_true]
  rfl
theorem in_wl (u v : Int) (xs : List (Nat × Nat)) : fIn (.tup [.int u, .int v]) (.lst (xs.map wD)) = some (.bl (xs.any fun x => decide ((x.1 : Int) = u ∧ (x.2 : Int) = v))) := by
  unfold fIn inD
  simp only [D.py, D.pys, pys_w, Option.map_some, (shaped_l (lay_w xs)).1, any_w, and_true]
  rfl
theorem in_wt (u v : Int) (xs : List (Nat × Nat)) : fIn (.tup [.int u, .int v]) (.tup (xs.map wD)) = some (.bl (xs.any fun x => decide ((x.1 : Int) = u ∧ (x.2 : Int) = v))) := by
  unfold fIn inD
  simp only [D.py, D.pys, pys_w, Option.map_some, (shaped_l (lay_w xs)).2, any_w, and_true]
  rfl
theorem nin_of {p q : D} {b : Bool} (h : fIn p q = some (.bl b)) : fNin p q = some (.bl (!b)) := by
  unfold fIn at h
  unfold fNin
  cases e : inD p q with
  | none =>
    rw [e] at h
    cases h
  | some c =>
    rw [e] at h
    cases h
    rfl
theorem any_nat (i : Nat) (xs : List Nat) : (xs.any fun x => decide ((x : Int) = (i : Int))) = decide (i ∈ xs) := by
  rw [Bool.eq_iff_iff]
  simp only [List.any_eq_true, decide_eq_true_eq]
  exact ⟨fun ⟨x, hx, e⟩ => (show x = i by omega) ▸ hx, fun h => ⟨i, h, rfl⟩⟩
theorem any_way (u v : Nat) (xs : List (Nat × Nat)) : (xs.any fun x => decide ((x.1 : Int) = (u : Int) ∧ (x.2 : Int) = (v : Int))) = decide ((u, v) ∈ xs) := by
  rw [Bool.eq_iff_iff]
  simp only [List.any_eq_true, decide_eq_true_eq]
  exact ⟨fun ⟨x, hx, e⟩ => (show x = (u, v) from Prod.ext (by omega) (by omega)) ▸ hx, fun h => ⟨(u, v), h, rfl, rfl⟩⟩
theorem eq_nat (i j : Nat) : fEq (.int (i : Int)) (.int (j : Int)) = some (.bl (decide (i = j))) := by
  show some (D.bl ((i : Int) == (j : Int))) = _
  congr 2
  rw [Bool.eq_iff_iff]
  simp only [beq_iff_eq, decide_eq_true_eq]
  omega
/-! tests -/
theorem isnum_int (i : Int) : f_is_number [.val (.int i)] = some (.ret false (.bl (decide (0 ≤ i))) []) := by
  refine fn_rt [.val (.int i)] ?_
  decreasing_trivial
theorem iscell_int (i n : Int) : f_is_cell [.val (.int i), .val (.int n)] = some (.ret false (.bl (decide (0 ≤ i ∧ i < n))) []) := by
  refine fn_rt [.val (.int i), .val (.int n)] ?_
  decreasing_trivial
  refine ite_B (fun h => ?_) fun h => ?_
  · have h := of_decide_eq_true h
    decreasing_trivial
    have z : decide (0 ≤ i ∧ i < n) = decide (i < n) := by simp [h]
    rw [z]
    exact ⟨rfl, rfl⟩
  · have h := of_decide_eq_false h
    decreasing_trivial
    have z : decide (0 ≤ i ∧ i < n) = false := decide_eq_false fun q => h q.1
    rw [z]
    exact ⟨rfl, rfl⟩
theorem iscell_nat {i n : Nat} (h : i < n) : f_is_cell [.val (.int (i : Int)), .val (.int (n : Int))] = some (.ret false (.bl true) []) := by
  rw [iscell_int, decide_eq_true (by omega)]
theorem isroad_int (x y n : Int) : f_is_road [.val (.tup [.int x, .int y]), .val (.int n)] = some (.ret false (.bl (decide ((0 ≤ x ∧ x < n) ∧ (0 ≤ y ∧ y < n) ∧ x ≠ y))) []) := by
  refine fn_rt [.val (.tup [.int x, .int y]), .val (.int n)] ?_
  decreasing_trivial
  refine w_fnL (iscell_int x n) ?_
  decreasing_trivial
  refine ite_B (fun h => ?_) fun h => ?_
  · have h : ¬(0 ≤ x ∧ x < n) := by simp only [Bool.not_eq_true', decide_eq_false_iff_not] at h; exact h
    decreasing_trivial
    have z : decide ((0 ≤ x ∧ x < n) ∧ (0 ≤ y ∧ y < n) ∧ x ≠ y) = false := decide_eq_false fun q => h q.1
    rw [z]
    exact ⟨rfl, rfl⟩
  · have h : 0 ≤ x ∧ x < n := by simpa using h
    decreasing_trivial
    refine w_fnL (iscell_int y n) ?_
    decreasing_trivial
    refine ite_B (fun k => ?_) fun k => ?_
    · have k : ¬(0 ≤ y ∧ y < n) := by simp only [Bool.not_eq_true', decide_eq_false_iff_not] at k; exact k
      decreasing_trivial
      have z : decide ((0 ≤ x ∧ x < n) ∧ (0 ≤ y ∧ y < n) ∧ x ≠ y) = false := decide_eq_false fun q => k q.2.1
      rw [z]
      exact ⟨rfl, rfl⟩
    · have k : 0 ≤ y ∧ y < n := by simpa using k
      decreasing_trivial
      have z : decide ((0 ≤ x ∧ x < n) ∧ (0 ≤ y ∧ y < n) ∧ x ≠ y) = !(x == y) := by
        rw [Bool.eq_iff_iff]
        simp [h, k]
      rw [z]
      exact ⟨rfl, rfl⟩
theorem isroad_nat {w : Nat × Nat} {n : Nat} (h : w.1 < n ∧ w.2 < n ∧ w.1 ≠ w.2) : f_is_road [.val (wD w), .val (.int (n : Int))] = some (.ret false (.bl true) []) := by
  unfold wD
  rw [isroad_int, decide_eq_true (by omega)]
end LAW

set_option Elab.async false
set_option linter.all false
set_option maxRecDepth 100000
set_option maxHeartbeats 4000000
namespace LAW
open PySem Z
local macro_rules | `(tactic| decreasing_trivial) => `(tactic| repeat (first
  | ((with_reducible apply w_val); exact rfl) | ((with_reducible apply w_cel); exact rfl) | with_reducible refine w_c ?_ | with_reducible refine w_op2 ?_ | with_reducible refine w_cons ?_ | with_reducible refine w_nil ?_ | with_reducible refine w_tst ?_ | with_reducible refine w_call ?_ | with_reducible refine w_ix ?_ | with_reducible refine w_bnot ?_ | with_reducible refine w_band ?_ | with_reducible refine w_bor ?_ | with_reducible refine ws_seq ?_ | with_reducible refine ws_asg ?_ | with_reducible refine ws_if ?_ | with_reducible refine ws_ret ?_ | with_reducible refine ws_expr ?_ | with_reducible refine ws_nx ?_ | with_reducible refine w_and ?_ | with_reducible refine w_or ?_ | with_reducible refine w_not ?_ | with_reducible refine w_eif ?_ | with_reducible refine w_tup ?_ | with_reducible refine w_lst ?_ | with_reducible refine w_fld ?_ | with_reducible refine w_cut ?_ | with_reducible refine w_onone ?_ | with_reducible refine w_osome ?_ | with_reducible refine w_fn ?_ | with_reducible refine w_fnK ?_ | with_reducible refine w_mkK ?_ | with_reducible refine w_meth ?_ | with_reducible refine w_comp ?_ | with_reducible refine w_seq ?_ | with_reducible refine w_en ?_ | with_reducible refine w_rg1 ?_ | with_reducible refine w_rg2 ?_ | with_reducible refine w_isi ?_ | with_reducible refine w_isLT ?_ | with_reducible refine w_isOwn ?_ | with_reducible refine w_ss ?_ | with_reducible refine w_chain ?_ | with_reducible refine w_un ?_ | with_reducible refine w_neg ?_ | with_reducible refine w_rep ?_ | with_reducible refine w_lrg ?_ | with_reducible refine w_lrg1 ?_ | with_reducible refine w_tm ?_ | with_reducible refine w_true ?_ | with_reducible refine ws_par ?_ | with_reducible refine w_pcons ?_ | with_reducible refine w_pnil ?_ | with_reducible refine ws_for ?_ | with_reducible refine ws_retN ?_ | with_reducible refine ws_sub ?_ | with_reducible refine ws_fld ?_ | with_reducible refine ws_raise ?_ | with_reducible refine ws_raise2 ?_ | with_reducible refine ws_bk ?_ | with_reducible refine ws_ct ?_ | ((with_reducible apply w_lm); exact rfl)
  | refine ⟨_, _, rfl, rfl, Nat.le_of_ble_eq_true rfl, ?_⟩ | refine ⟨_, _, _, _, rfl, rfl, rfl, (by decide), ?_⟩ | refine ⟨_, _, _, _, rfl, rfl, rfl, ?_⟩ | refine ⟨_, _, _, rfl, rfl, (by decide), ?_⟩ | refine ⟨_, _, _, rfl, rfl, rfl, ?_⟩ | refine ⟨_, _, _, rfl, rfl, ?_⟩ | refine ⟨_, _, rfl, rfl, ?_⟩ | refine ⟨_, _, (rfl : frz _ _ = some (R.ok _ _)), ?_⟩ | refine ⟨_, _, (rfl : stk _ _ = some (R.ok _ _)), ?_⟩ | refine ⟨_, rfl, ?_⟩ | refine ⟨_, _, rfl, Nat.le_of_ble_eq_true rfl, ?_⟩
  | ((with_reducible apply ite_T); exact rfl) | ((with_reducible apply ite_F); exact rfl) | exact ⟨rfl, rfl⟩ | refine ws_seq ?_ | refine ws_if ?_ | refine ws_ret ?_ | refine ws_for ?_ | refine ws_asg ?_ | refine w_c ?_))
/-! draws, menu, flips -/
theorem w_draw {n m : Nat} {p : List D} {rest : E} {i : Int} {K : Rf → E → Prop} {X : Ex → E → Prop} (hp : Pu n p) (hn : n ≤ 10 ^ 8) (hm : 0 < m ∧ m ≤ 1000) (hi : i = (m : Int))
    (k : ∀ (v : Nat) p', v < m → Pu (n + 1) p' → K (.dat (.int (v : Int))) (.cel true (.lst p') :: rest)) : wM (eFnL f__law_draw [true, false] [.cel 0, .dat (.int i)]) K X (.cel true (.lst p) :: rest) := by
  subst hi
  obtain ⟨v, p', hv, hp', e⟩ := draw_ev (m := (m : Int)) hp (by omega) (by omega)
  obtain ⟨u, rfl⟩ : ∃ u : Nat, v = (u : Int) := ⟨v.toNat, by omega⟩
  refine w_fnL e ?_
  exact ⟨[some 0, none], _, _, _, rfl, rfl, rfl, by decide, k u p' (by omega) hp'⟩
def menuR : List Raw := [⟨2, [(0, 1), (1, 0)], [0], [0]⟩, ⟨3, [(0, 1), (1, 0), (1, 2), (2, 1)], [0], [0]⟩, ⟨2, [(0, 1)], [0], [1]⟩, ⟨3, [(0, 1), (1, 2)], [0], [2]⟩, ⟨3, [(0, 1)], [0, 2], [1, 2]⟩,
  ⟨3, [(0, 1), (1, 0), (0, 2), (2, 0)], [0], [0]⟩, ⟨3, [(0, 1), (1, 2), (2, 0)], [0], [0]⟩, ⟨3, [(1, 2), (2, 0)], [0, 1], [0, 2]⟩, ⟨3, [(1, 2), (0, 1)], [0, 1], [0, 2]⟩, ⟨4, [(0, 1), (1, 0), (2, 3), (3, 2)], [0, 2], [0, 2]⟩,
  ⟨4, [(0, 1), (2, 3), (3, 2)], [0, 2], [1, 2]⟩, ⟨3, [(0, 1), (1, 2), (2, 0)], [0], [2]⟩, ⟨1, [], [0], [0]⟩, ⟨3, [(0, 1), (1, 0), (0, 2)], [0], [0]⟩]
instance (r : Raw) (m k : Nat) : Decidable (r.Ok m k) :=
  decidable_of_iff (1 ≤ r.n ∧ r.n ≤ m ∧ (∀ w ∈ r.ways, w.1 < r.n ∧ w.2 < r.n ∧ w.1 ≠ w.2) ∧ r.ways.length ≤ k ∧ (∀ x ∈ r.ins, x < r.n) ∧ r.ins.length ≤ k ∧ (∀ x ∈ r.outs, x < r.n) ∧ r.outs.length ≤ k)
    ⟨fun ⟨a, b, c, d, e, f, g, h⟩ => ⟨a, b, c, d, e, f, g, h⟩, fun ⟨a, b, c, d, e, f, g, h⟩ => ⟨a, b, c, d, e, f, g, h⟩⟩
theorem menu_ok : ∀ r ∈ menuR, r.Ok 4 4 := by decide +kernel
theorem menu_ev {v : Nat} (hv : v < 14) : ∃ r, menuR[v]? = some r ∧ f__law_menu [.val (.int (v : Int))] = some (.ret false r.d []) := by
  match v, hv with
  | 0, _ => exact ⟨_, rfl, by kernel_rfl⟩
  | 1, _ => exact ⟨_, rfl, by kernel_rfl⟩
  | 2, _ => exact ⟨_, rfl, by kernel_rfl⟩
  | 3, _ => exact ⟨_, rfl, by kernel_rfl⟩
  | 4, _ => exact ⟨_, rfl, by kernel_rfl⟩
  | 5, _ => exact ⟨_, rfl, by kernel_rfl⟩
  | 6, _ => exact ⟨_, rfl, by kernel_rfl⟩
  | 7, _ => exact ⟨_, rfl, by kernel_rfl⟩
  | 8, _ => exact ⟨_, rfl, by kernel_rfl⟩
  | 9, _ => exact ⟨_, rfl, by kernel_rfl⟩
  | 10, _ => exact ⟨_, rfl, by kernel_rfl⟩
  | 11, _ => exact ⟨_, rfl, by kernel_rfl⟩
  | 12, _ => exact ⟨_, rfl, by kernel_rfl⟩
  | 13, _ => exact ⟨_, rfl, by kernel_rfl⟩
  | v + 14, h => exact absurd h (by omega)
def flipL {α : Type} [DecidableEq α] (x : α) (xs : List α) : List α := xs.filter (fun y => !decide (y = x)) ++ (if x ∈ xs then [] else [x])
theorem flipL_mem {α : Type} [DecidableEq α] {x y : α} {xs : List α} (h : y ∈ flipL x xs) : y ∈ xs ∨ y = x := by
  unfold flipL at h
  rcases List.mem_append.mp h with h | h
  · exact .inl (List.mem_filter.mp h).1
  · split at h
    · cases h
    · exact .inr (List.mem_singleton.mp h)
theorem flipL_len {α : Type} [DecidableEq α] (x : α) (xs : List α) : (flipL x xs).length ≤ xs.length + 1 := by
  unfold flipL
  rw [List.length_append]
  have := List.length_filter_le (fun y => !decide (y = x)) xs
  split <;> simp <;> omega
/-- [..] * int(..) -/
theorem rep_flat (b : Bool) (d : D) : (List.replicate (if b = true then (1 : Int) else 0).toNat [d]).flatten = if b = true then [d] else [] := by
  cases b <;> rfl
theorem filter_map {α β : Type} (f : α → β) (p : α → Bool) (g : β → Option β) : ∀ xs : List α, (∀ x ∈ xs, g (f x) = if p x = true then some (f x) else none) → (xs.map f).filterMap g = (xs.filter p).map f
  | [], _ => rfl
  | x :: xs, h => by
    have ih := filter_map f p g xs fun y hy => h y (List.mem_cons_of_mem _ hy)
    rw [List.map_cons, List.filterMap_cons, h x (List.mem_cons_self ..), List.filter_cons]
    cases p x with
    | true => simp [ih]
    | false => simp [ih]
end LAW

set_option Elab.async false
set_option linter.all false
set_option maxRecDepth 100000
set_option maxHeartbeats 4000000
namespace LAW
open PySem Z
local macro_rules | `(tactic| decreasing_trivial) => `(tactic| repeat (first
  | ((with_reducible apply w_val); exact rfl) | ((with_reducible apply w_cel); exact rfl) | with_reducible refine w_c ?_ | with_reducible refine w_op2 ?_ | with_reducible refine w_cons ?_ | with_reducible refine w_nil ?_ | with_reducible refine w_tst ?_ | with_reducible refine w_call ?_ | with_reducible refine w_ix ?_ | with_reducible refine w_bnot ?_ | with_reducible refine w_band ?_ | with_reducible refine w_bor ?_ | with_reducible refine ws_seq ?_ | with_reducible refine ws_asg ?_ | with_reducible refine ws_if ?_ | with_reducible refine ws_ret ?_ | with_reducible refine ws_expr ?_ | with_reducible refine ws_nx ?_ | with_reducible refine w_and ?_ | with_reducible refine w_or ?_ | with_reducible refine w_not ?_ | with_reducible refine w_eif ?_ | with_reducible refine w_tup ?_ | with_reducible refine w_lst ?_ | with_reducible refine w_fld ?_ | with_reducible refine w_cut ?_ | with_reducible refine w_onone ?_ | with_reducible refine w_osome ?_ | with_reducible refine w_fn ?_ | with_reducible refine w_fnK ?_ | with_reducible refine w_mkK ?_ | with_reducible refine w_meth ?_ | with_reducible refine w_comp ?_ | with_reducible refine w_seq ?_ | with_reducible refine w_en ?_ | with_reducible refine w_rg1 ?_ | with_reducible refine w_rg2 ?_ | with_reducible refine w_isi ?_ | with_reducible refine w_isLT ?_ | with_reducible refine w_isOwn ?_ | with_reducible refine w_ss ?_ | with_reducible refine w_chain ?_ | with_reducible refine w_un ?_ | with_reducible refine w_neg ?_ | with_reducible refine w_rep ?_ | with_reducible refine w_lrg ?_ | with_reducible refine w_lrg1 ?_ | with_reducible refine w_tm ?_ | with_reducible refine w_true ?_ | with_reducible refine ws_par ?_ | with_reducible refine w_pcons ?_ | with_reducible refine w_pnil ?_ | with_reducible refine ws_for ?_ | with_reducible refine ws_retN ?_ | with_reducible refine ws_sub ?_ | with_reducible refine ws_fld ?_ | with_reducible refine ws_raise ?_ | with_reducible refine ws_raise2 ?_ | with_reducible refine ws_bk ?_ | with_reducible refine ws_ct ?_ | ((with_reducible apply w_lm); exact rfl)
  | refine ⟨_, _, rfl, rfl, Nat.le_of_ble_eq_true rfl, ?_⟩ | refine ⟨_, _, _, _, rfl, rfl, rfl, (by decide), ?_⟩ | refine ⟨_, _, _, _, rfl, rfl, rfl, ?_⟩ | refine ⟨_, _, _, rfl, rfl, (by decide), ?_⟩ | refine ⟨_, _, _, rfl, rfl, rfl, ?_⟩ | refine ⟨_, _, _, rfl, rfl, ?_⟩ | refine ⟨_, _, rfl, rfl, ?_⟩ | refine ⟨_, _, (rfl : frz _ _ = some (R.ok _ _)), ?_⟩ | refine ⟨_, _, (rfl : stk _ _ = some (R.ok _ _)), ?_⟩ | refine ⟨_, rfl, ?_⟩ | refine ⟨_, _, rfl, Nat.le_of_ble_eq_true rfl, ?_⟩
  | ((with_reducible apply ite_T); exact rfl) | ((with_reducible apply ite_F); exact rfl) | exact ⟨rfl, rfl⟩ | refine ws_seq ?_ | refine ws_if ?_ | refine ws_ret ?_ | refine ws_for ?_ | refine ws_asg ?_ | refine w_c ?_))
theorem eqv_way (w : Nat × Nat) (u v : Nat) : PyData.eqv (.tuple [.int (w.1 : Int), .int (w.2 : Int)]) (.tuple [.int (u : Int), .int (v : Int)]) = decide (w = (u, v)) := by
  simp only [PyData.eqv, PyData.eqvAll, Bool.and_true]
  rw [Bool.eq_iff_iff]
  simp only [Bool.and_eq_true, beq_iff_eq, decide_eq_true_eq]
  exact ⟨fun h => Prod.ext (by omega) (by omega), fun h => by rw [h]; exact ⟨rfl, rfl⟩⟩
theorem eqv_nat (i j : Nat) : PyData.eqv (.int (i : Int)) (.int (j : Int)) = decide (i = j) := by
  simp only [PyData.eqv]
  rw [Bool.eq_iff_iff]
  simp only [beq_iff_eq, decide_eq_true_eq]
  omega
theorem nin_wl (u v : Nat) (xs : List (Nat × Nat)) : fNin (.tup [.int (u : Int), .int (v : Int)]) (.lst (xs.map wD)) = some (.bl (!decide ((u, v) ∈ xs))) := by
  rw [← any_way]
  exact nin_of (in_wl u v xs)
theorem nin_nl (i : Nat) (xs : List Nat) : fNin (.int (i : Int)) (.lst (xs.map nD)) = some (.bl (!decide (i ∈ xs))) := by
  rw [← any_nat]
  exact nin_of (in_nl i xs)
/-- [..] + [x] * int(not there) -/
theorem flip_ways {p : List D} {a c d e kd : Sl} {u v : Nat} {ws : List (Nat × Nat)} {K : Rf → E → Prop} {X : Ex → E → Prop} (hl : ws.length ≤ 50)
    (k : K (.new ((flipL (u, v) ws).map wD)) [.cel true (.lst p), a, c, .val (.lst (ws.map wD)), d, e, .val (.int (u : Int)), .val (.int (v : Int)), kd, .no, .no]) :
    wM (eOp2 fAdd (eComp (iSeq (eVar 3)) (tgName 9) (tst (eOp2 fNe (eVar 9) (eTup (aCons (eVar 6) (aCons (eVar 7) aNil))))) (eVar 9) [9]) (eRep (eLst (aCons (eTup (aCons (eVar 6) (aCons (eVar 7) aNil))) aNil)) (eCall fInt (aCons (eOp2 fNin (eTup (aCons (eVar 6) (aCons (eVar 7) aNil))) (eVar 3)) aNil)))) K X
      [.cel true (.lst p), a, c, .val (.lst (ws.map wD)), d, e, .val (.int (u : Int)), .val (.int (v : Int)), kd, .no, .no] := by
  have fl := List.length_filter_le (fun w => !decide (w = (u, v))) ws
  decreasing_trivial
  refine ⟨_, _, rfl, comp_flt wD wD (fun w => !decide (w = (u, v))) ws (fun w hw => ?_), ?_, ?_⟩
  · refine ⟨_, rfl, ?_⟩
    decreasing_trivial
    rw [eqv_way]
    refine ⟨rfl, ite_B (fun h => ?_) fun h => ?_⟩
    · decreasing_trivial
    · exact ⟨rfl, rfl⟩
  · rw [List.length_map]
    omega
  · decreasing_trivial
    refine ⟨_, _, _, rfl, rfl, nin_wl u v ws, ?_⟩
    decreasing_trivial
    refine ⟨by split <;> simp, ?_⟩
    refine ⟨_, _, _, rfl, rfl, fAdd_l ?_, ?_⟩
    · rw [List.length_map]
      split <;> simp <;> omega
    · have z : List.map wD (ws.filter fun w => !decide (w = (u, v))) ++ (List.replicate (if (!decide ((u, v) ∈ ws)) = true then (1 : Int) else 0).toNat [D.tup [.int (u : Int), .int (v : Int)]]).flatten = (flipL (u, v) ws).map wD := by
        rw [rep_flat]
        unfold flipL
        rw [List.map_append]
        congr 1
        by_cases h : (u, v) ∈ ws
        · simp [h]
        · simp [h]
          rfl
      rw [z]
      exact k
theorem flip_cells {s : Nat} {ρ : E} {x : Nat} {xs : List Nat} {K : Rf → E → Prop} {X : Ex → E → Prop} (h3 : ρ[s]? = some (.val (.lst (xs.map nD)))) (h6 : ρ[6]? = some (.val (.int (x : Int)))) (hs : s < 6) (hρ : wipeE ρ [10] = ρ) (ok : okSlots ρ [10] = true) (hlen : 10 < ρ.length) (hl : xs.length ≤ 50)
    (k : K (.new ((flipL x xs).map nD)) ρ) :
    wM (eOp2 fAdd (eComp (iSeq (eVar s)) (tgName 10) (tst (eOp2 fNe (eVar 10) (eVar 6))) (eVar 10) [10]) (eRep (eLst (aCons (eVar 6) aNil)) (eCall fInt (aCons (eOp2 fNin (eVar 6) (eVar s)) aNil)))) K X ρ := by
  have fl := List.length_filter_le (fun w => !decide (w = x)) xs
  have ok' : okSlot ρ 10 = true := by simpa [okSlots] using ok
  refine w_op2 (w_comp (w_seq (w_val h3 ⟨_, _, _, rfl, rfl, ?_⟩)))
  rw [hρ]
  refine ⟨_, _, ok, comp_flt nD nD (fun w => !decide (w = x)) xs (fun w hw => ?_), ?_, ?_⟩
  · have g10 : (ρ.set 10 (.val (nD w)))[10]? = some (.val (nD w)) := List.getElem?_set_self hlen
    have g6 : (ρ.set 10 (.val (nD w)))[6]? = some (.val (.int (x : Int))) := by rw [List.getElem?_set_ne (by decide)]; exact h6
    refine ⟨ρ.set 10 (.val (nD w)), by unfold tgName; rw [if_pos ok'], ?_⟩
    refine w_tst (w_op2 (w_val g10 (w_val g6 ⟨_, _, _, rfl, rfl, rfl, ⟨_, rfl, ?_⟩⟩)))
    have fin : wipeE (ρ.set 10 (.val (nD w))) [10] = ρ := by
      show (ρ.set 10 (.val (nD w))).set 10 .no = ρ
      rw [List.set_set]
      exact hρ
    have ok2 : okSlots (ρ.set 10 (.val (nD w))) [10] = true := by
      simp only [okSlots, List.all_cons, List.all_nil, Bool.and_true]
      unfold okSlot
      rw [g10]
    have z : PyData.eqv (.int (w : Int)) (.int (x : Int)) = decide (w = x) := eqv_nat w x
    refine ⟨by show (!_) = _; rw [← z], ite_B (fun h => ?_) fun h => ?_⟩
    · exact w_val g10 ⟨_, rfl, ok2, fin⟩
    · exact ⟨ok2, fin⟩
  · rw [List.length_map]
    omega
  · refine w_rep (w_lst (w_cons (w_val h6 (w_nil ⟨_, _, rfl, Nat.le_of_ble_eq_true rfl, ⟨_, rfl, ?_⟩⟩))))
    refine w_call (w_cons (w_op2 (w_val h6 (w_val h3 ⟨_, _, _, rfl, rfl, nin_nl x xs, w_nil ⟨_, _, rfl, rfl, ⟨_, rfl, ?_, ?_⟩⟩⟩))))
    · split <;> simp
    refine ⟨_, _, _, rfl, rfl, fAdd_l ?_, ?_⟩
    · rw [List.length_map]
      split <;> simp <;> omega
    · have z : List.map nD (xs.filter fun w => !decide (w = x)) ++ (List.replicate (if (!decide (x ∈ xs)) = true then (1 : Int) else 0).toNat [D.int (x : Int)]).flatten = (flipL x xs).map nD := by
        rw [rep_flat]
        unfold flipL
        rw [List.map_append]
        congr 1
        by_cases h : x ∈ xs
        · simp [h]
        · simp [h]
          rfl
      rw [z]
      exact k
end LAW

set_option Elab.async false
set_option linter.all false
set_option maxRecDepth 100000
set_option maxHeartbeats 4000000
namespace LAW
open PySem Z
local macro_rules | `(tactic| decreasing_trivial) => `(tactic| repeat (first
  | ((with_reducible apply w_val); exact rfl) | ((with_reducible apply w_cel); exact rfl) | with_reducible refine w_c ?_ | with_reducible refine w_op2 ?_ | with_reducible refine w_cons ?_ | with_reducible refine w_nil ?_ | with_reducible refine w_tst ?_ | with_reducible refine w_call ?_ | with_reducible refine w_ix ?_ | with_reducible refine w_bnot ?_ | with_reducible refine w_band ?_ | with_reducible refine w_bor ?_ | with_reducible refine ws_seq ?_ | with_reducible refine ws_asg ?_ | with_reducible refine ws_if ?_ | with_reducible refine ws_ret ?_ | with_reducible refine ws_expr ?_ | with_reducible refine ws_nx ?_ | with_reducible refine w_and ?_ | with_reducible refine w_or ?_ | with_reducible refine w_not ?_ | with_reducible refine w_eif ?_ | with_reducible refine w_tup ?_ | with_reducible refine w_lst ?_ | with_reducible refine w_fld ?_ | with_reducible refine w_cut ?_ | with_reducible refine w_onone ?_ | with_reducible refine w_osome ?_ | with_reducible refine w_fn ?_ | with_reducible refine w_fnK ?_ | with_reducible refine w_mkK ?_ | with_reducible refine w_meth ?_ | with_reducible refine w_comp ?_ | with_reducible refine w_seq ?_ | with_reducible refine w_en ?_ | with_reducible refine w_rg1 ?_ | with_reducible refine w_rg2 ?_ | with_reducible refine w_isi ?_ | with_reducible refine w_isLT ?_ | with_reducible refine w_isOwn ?_ | with_reducible refine w_ss ?_ | with_reducible refine w_chain ?_ | with_reducible refine w_un ?_ | with_reducible refine w_neg ?_ | with_reducible refine w_rep ?_ | with_reducible refine w_lrg ?_ | with_reducible refine w_lrg1 ?_ | with_reducible refine w_tm ?_ | with_reducible refine w_true ?_ | with_reducible refine ws_par ?_ | with_reducible refine w_pcons ?_ | with_reducible refine w_pnil ?_ | with_reducible refine ws_for ?_ | with_reducible refine ws_retN ?_ | with_reducible refine ws_sub ?_ | with_reducible refine ws_fld ?_ | with_reducible refine ws_raise ?_ | with_reducible refine ws_raise2 ?_ | with_reducible refine ws_bk ?_ | with_reducible refine ws_ct ?_ | ((with_reducible apply w_lm); exact rfl)
  | refine ⟨_, _, rfl, rfl, Nat.le_of_ble_eq_true rfl, ?_⟩ | refine ⟨_, _, _, _, rfl, rfl, rfl, (by decide), ?_⟩ | refine ⟨_, _, _, _, rfl, rfl, rfl, ?_⟩ | refine ⟨_, _, _, rfl, rfl, (by decide), ?_⟩ | refine ⟨_, _, _, rfl, rfl, rfl, ?_⟩ | refine ⟨_, _, _, rfl, rfl, ?_⟩ | refine ⟨_, _, rfl, rfl, ?_⟩ | refine ⟨_, _, (rfl : frz _ _ = some (R.ok _ _)), ?_⟩ | refine ⟨_, _, (rfl : stk _ _ = some (R.ok _ _)), ?_⟩ | refine ⟨_, rfl, ?_⟩ | refine ⟨_, _, rfl, Nat.le_of_ble_eq_true rfl, ?_⟩
  | ((with_reducible apply ite_T); exact rfl) | ((with_reducible apply ite_F); exact rfl) | exact ⟨rfl, rfl⟩ | refine ws_seq ?_ | refine ws_if ?_ | refine ws_ret ?_ | refine ws_for ?_ | refine ws_asg ?_ | refine w_c ?_))
theorem flipped_ev {n m k : Nat} {p : List D} {r : Raw} (hp : Pu n p) (hn : n + 3 ≤ 10 ^ 8) (hr : r.Ok m k) (hm : m ≤ 4) (hk : k ≤ 40) : ∃ x, f__law_flipped [.cel (.lst p), .val r.d] = some x ∧ ∃ (r' : Raw) (p' : List D), r'.Ok m (k + 1) ∧ Pu (n + 3) p' ∧ x = .ret false r'.d [.lst p'] := by
  have h1 := hr.n1
  have h2 := hr.nm
  have hwl := hr.wl
  have hil := hr.il
  have hol := hr.ol
  refine fn_any [.cel true (.lst p), .val r.d, .no, .no, .no, .no, .no, .no, .no, .no, .no] ?_
  decreasing_trivial
  refine w_draw (m := r.n) hp (by omega) (by omega) rfl fun u p1 hu hp1 => ?_
  decreasing_trivial
  refine w_draw (m := r.n) hp1 (by omega) (by omega) rfl fun v p2 hv hp2 => ?_
  decreasing_trivial
  refine w_draw (m := 4) hp2 (by omega) (by omega) rfl fun kd p3 hkd hp3 => ?_
  have same : (⟨r.n, r.ways, r.ins, r.outs⟩ : Raw).Ok m (k + 1) := hr.mono (Nat.le_refl _) (by omega)
  have hw : u ≠ v → (⟨r.n, flipL (u, v) r.ways, r.ins, r.outs⟩ : Raw).Ok m (k + 1) := fun ne =>
    ⟨h1, h2, (fun w hw => by
      rcases flipL_mem hw with h | h
      · exact hr.w w h
      · subst h
        exact ⟨hu, hv, ne⟩), Nat.le_trans (flipL_len _ _) (by show r.ways.length + 1 ≤ k + 1; omega), hr.i, by show r.ins.length ≤ _; omega, hr.o, by show r.outs.length ≤ _; omega⟩
  have hi : (⟨r.n, r.ways, flipL u r.ins, r.outs⟩ : Raw).Ok m (k + 1) :=
    ⟨h1, h2, hr.w, by show r.ways.length ≤ _; omega, (fun w hw => (flipL_mem hw).elim (hr.i w) fun e => e ▸ hu), Nat.le_trans (flipL_len _ _) (by show r.ins.length + 1 ≤ k + 1; omega), hr.o, by show r.outs.length ≤ _; omega⟩
  have ho : (⟨r.n, r.ways, r.ins, flipL u r.outs⟩ : Raw).Ok m (k + 1) :=
    ⟨h1, h2, hr.w, by show r.ways.length ≤ _; omega, hr.i, by show r.ins.length ≤ _; omega, (fun w hw => (flipL_mem hw).elim (hr.o w) fun e => e ▸ hu), Nat.le_trans (flipL_len _ _) (by show r.outs.length + 1 ≤ k + 1; omega)⟩
  match kd, hkd with
  | 0, _ =>
    decreasing_trivial
    rw [eqv_nat]
    refine ite_B (fun h => ?_) fun h => ?_
    · have ne : u ≠ v := by simpa using h
      refine ws_asg (flip_ways (u := u) (v := v) (ws := r.ways) (by omega) ?_)
      decreasing_trivial
      exact ⟨⟨r.n, flipL (u, v) r.ways, r.ins, r.outs⟩, p3, hw ne, hp3, rfl⟩
    · decreasing_trivial
      exact ⟨⟨r.n, r.ways, r.ins, r.outs⟩, p3, same, hp3, rfl⟩
  | 1, _ =>
    decreasing_trivial
    rw [eqv_nat]
    refine ite_B (fun h => ?_) fun h => ?_
    · have ne : u ≠ v := by simpa using h
      refine ws_asg (flip_ways (u := u) (v := v) (ws := r.ways) (by omega) ?_)
      decreasing_trivial
      exact ⟨⟨r.n, flipL (u, v) r.ways, r.ins, r.outs⟩, p3, hw ne, hp3, rfl⟩
    · decreasing_trivial
      exact ⟨⟨r.n, r.ways, r.ins, r.outs⟩, p3, same, hp3, rfl⟩
  | 2, _ =>
    refine ⟨_, rfl, ws_seq (ws_if (w_band (w_tst (w_op2 (w_val rfl (w_c ⟨_, _, _, rfl, rfl, rfl, _, rfl, ite_F rfl (ite_F rfl (ws_nx ?_))⟩))))))⟩
    refine ws_seq (ws_if (w_tst (w_op2 (w_val rfl (w_c ⟨_, _, _, rfl, rfl, rfl, _, rfl, ite_T rfl ?_⟩)))))
    refine ws_asg (flip_cells (x := u) (xs := r.ins) rfl rfl (by decide) rfl rfl (Nat.le_of_ble_eq_true rfl) (by omega) ?_)
    decreasing_trivial
    exact ⟨⟨r.n, r.ways, flipL u r.ins, r.outs⟩, p3, hi, hp3, rfl⟩
  | 3, _ =>
    refine ⟨_, rfl, ws_seq (ws_if (w_band (w_tst (w_op2 (w_val rfl (w_c ⟨_, _, _, rfl, rfl, rfl, _, rfl, ite_F rfl (ite_F rfl (ws_nx ?_))⟩))))))⟩
    refine ws_seq (ws_if (w_tst (w_op2 (w_val rfl (w_c ⟨_, _, _, rfl, rfl, rfl, _, rfl, ite_F rfl (ws_nx ?_)⟩)))))
    refine ws_seq (ws_if (w_tst (w_op2 (w_val rfl (w_c ⟨_, _, _, rfl, rfl, rfl, _, rfl, ite_T rfl ?_⟩)))))
    refine ws_asg (flip_cells (x := u) (xs := r.outs) rfl rfl (by decide) rfl rfl (Nat.le_of_ble_eq_true rfl) (by omega) ?_)
    decreasing_trivial
    exact ⟨⟨r.n, r.ways, r.ins, flipL u r.outs⟩, p3, ho, hp3, rfl⟩
  | a + 4, h => exact absurd h (by omega)
theorem w_flip {n m k : Nat} {p : List D} {r : Raw} {rest : E} {K : Rf → E → Prop} {X : Ex → E → Prop} (hp : Pu n p) (hn : n + 3 ≤ 10 ^ 8) (hr : r.Ok m k) (hm : m ≤ 4) (hk : k ≤ 40)
    (h : ∀ (r' : Raw) p', r'.Ok m (k + 1) → Pu (n + 3) p' → K (.dat r'.d) (.cel true (.lst p') :: rest)) : wM (eFnL f__law_flipped [true, false] [.cel 0, .dat r.d]) K X (.cel true (.lst p) :: rest) := by
  obtain ⟨x, e, r', p', h1, h2, rfl⟩ := flipped_ev hp hn hr hm hk
  refine w_fnL e ?_
  exact ⟨[some 0, none], _, _, _, rfl, rfl, rfl, by decide, h r' p' h1 h2⟩
end LAW

set_option Elab.async false
set_option linter.all false
set_option maxRecDepth 100000
set_option maxHeartbeats 4000000
namespace LAW
open PySem Z
local macro_rules | `(tactic| decreasing_trivial) => `(tactic| repeat (first
  | ((with_reducible apply w_val); exact rfl) | ((with_reducible apply w_cel); exact rfl) | with_reducible refine w_c ?_ | with_reducible refine w_op2 ?_ | with_reducible refine w_cons ?_ | with_reducible refine w_nil ?_ | with_reducible refine w_tst ?_ | with_reducible refine w_call ?_ | with_reducible refine w_ix ?_ | with_reducible refine w_bnot ?_ | with_reducible refine w_band ?_ | with_reducible refine w_bor ?_ | with_reducible refine ws_seq ?_ | with_reducible refine ws_asg ?_ | with_reducible refine ws_if ?_ | with_reducible refine ws_ret ?_ | with_reducible refine ws_expr ?_ | with_reducible refine ws_nx ?_ | with_reducible refine w_and ?_ | with_reducible refine w_or ?_ | with_reducible refine w_not ?_ | with_reducible refine w_eif ?_ | with_reducible refine w_tup ?_ | with_reducible refine w_lst ?_ | with_reducible refine w_fld ?_ | with_reducible refine w_cut ?_ | with_reducible refine w_onone ?_ | with_reducible refine w_osome ?_ | with_reducible refine w_fn ?_ | with_reducible refine w_fnK ?_ | with_reducible refine w_mkK ?_ | with_reducible refine w_meth ?_ | with_reducible refine w_comp ?_ | with_reducible refine w_seq ?_ | with_reducible refine w_en ?_ | with_reducible refine w_rg1 ?_ | with_reducible refine w_rg2 ?_ | with_reducible refine w_isi ?_ | with_reducible refine w_isLT ?_ | with_reducible refine w_isOwn ?_ | with_reducible refine w_ss ?_ | with_reducible refine w_chain ?_ | with_reducible refine w_un ?_ | with_reducible refine w_neg ?_ | with_reducible refine w_rep ?_ | with_reducible refine w_lrg ?_ | with_reducible refine w_lrg1 ?_ | with_reducible refine w_tm ?_ | with_reducible refine w_true ?_ | with_reducible refine ws_par ?_ | with_reducible refine w_pcons ?_ | with_reducible refine w_pnil ?_ | with_reducible refine ws_for ?_ | with_reducible refine ws_retN ?_ | with_reducible refine ws_sub ?_ | with_reducible refine ws_fld ?_ | with_reducible refine ws_raise ?_ | with_reducible refine ws_raise2 ?_ | with_reducible refine ws_bk ?_ | with_reducible refine ws_ct ?_ | ((with_reducible apply w_lm); exact rfl)
  | refine ⟨_, _, rfl, rfl, Nat.le_of_ble_eq_true rfl, ?_⟩ | refine ⟨_, _, _, _, rfl, rfl, rfl, (by decide), ?_⟩ | refine ⟨_, _, _, _, rfl, rfl, rfl, ?_⟩ | refine ⟨_, _, _, rfl, rfl, (by decide), ?_⟩ | refine ⟨_, _, _, rfl, rfl, rfl, ?_⟩ | refine ⟨_, _, _, rfl, rfl, ?_⟩ | refine ⟨_, _, rfl, rfl, ?_⟩ | refine ⟨_, _, (rfl : frz _ _ = some (R.ok _ _)), ?_⟩ | refine ⟨_, _, (rfl : stk _ _ = some (R.ok _ _)), ?_⟩ | refine ⟨_, rfl, ?_⟩ | refine ⟨_, _, rfl, Nat.le_of_ble_eq_true rfl, ?_⟩
  | ((with_reducible apply ite_T); exact rfl) | ((with_reducible apply ite_F); exact rfl) | exact ⟨rfl, rfl⟩ | refine ws_seq ?_ | refine ws_if ?_ | refine ws_ret ?_ | refine ws_for ?_ | refine ws_asg ?_ | refine w_c ?_))
theorem rangeD_at {s j : Nat} {d : D} (h : (rangeD 0 s)[j]? = some d) : j < s ∧ d = .int (j : Int) := by
  obtain ⟨a, b⟩ := rangeD_get h
  exact ⟨a, by rw [b, Int.zero_add]⟩
theorem rangeD_len (s : Nat) : (rangeD 0 s).length = s := by
  unfold rangeD
  rw [List.length_map, List.length_range]
theorem comp_ways {n s u : Nat} {p : List D} {a b e f7 f8 f9 f10 : Sl} {K : Rf → E → Prop} {X : Ex → E → Prop} (hp : Pu n p) (hn : n + s ≤ 10 ^ 8) (hs : s ≤ 4) (hu : u < s)
    (k : ∀ (ws : List (Nat × Nat)) p', (∀ w ∈ ws, w.1 < s ∧ w.2 < s ∧ w.1 ≠ w.2) → ws.length ≤ s → Pu (n + s) p' → K (.new (ws.map wD)) [.cel true (.lst p'), a, b, .val (.int (s : Int)), e, .val (.int (u : Int)), .no, f7, f8, f9, f10]) :
    wM (eComp (iRg1 (aCons (eVar 3) aNil)) (tgName 6) (bAnd (tst (eOp2 fNe (eVar 5) (eVar 6))) (tst (eOp2 fEq (eFn f__law_draw [true, false] (aCons (eVar 0) (aCons (eC (.int 3)) aNil))) (eC (.int 0))))) (eTup (aCons (eVar 5) (aCons (eVar 6) aNil))) [6]) K X
      [.cel true (.lst p), a, b, .val (.int (s : Int)), e, .val (.int (u : Int)), .no, f7, f8, f9, f10] := by
  refine w_comp (w_rg1 (w_cons (w_val rfl (w_nil ⟨_, rfl, by omega, ?_⟩))))
  have z : (s : Int).toNat = s := by omega
  rw [z]
  obtain ⟨es, ρ', e1, p', ws, h1, h2, h3, h4, h5⟩ := comp_inv (t := tgName 6) (tt := bAnd (tst (eOp2 fNe (eVar 5) (eVar 6))) (tst (eOp2 fEq (eFn f__law_draw [true, false] (aCons (eVar 0) (aCons (eC (.int 3)) aNil))) (eC (.int 0))))) (el := eTup (aCons (eVar 5) (aCons (eVar 6) aNil))) (vs := [6])
    (fun j acc ρ => ∃ p' ws, Pu (n + j) p' ∧ acc = ws.map wD ∧ (∀ w ∈ ws, w.1 < s ∧ w.2 < s ∧ w.1 ≠ w.2) ∧ ws.length ≤ j ∧ ρ = [.cel true (.lst p'), a, b, .val (.int (s : Int)), e, .val (.int (u : Int)), .no, f7, f8, f9, f10])
    (rangeD 0 s) 0 [] [.cel true (.lst p), a, b, .val (.int (s : Int)), e, .val (.int (u : Int)), .no, f7, f8, f9, f10] ⟨p, [], hp, rfl, by simp, Nat.le_refl _, rfl⟩ (fun j d acc ρ hd hI => by
      obtain ⟨hj, rfl⟩ := rangeD_at hd
      obtain ⟨p', ws, h1, rfl, h3, h4, rfl⟩ := hI
      rw [Nat.zero_add] at h1 h4 ⊢
      refine ⟨_, rfl, ?_⟩
      decreasing_trivial
      rw [eqv_nat]
      refine ite_B (fun h => ?_) fun h => ?_
      · have ne : u ≠ j := by simpa using h
        decreasing_trivial
        refine w_draw (m := 3) h1 (by omega) (by omega) rfl fun v p2 hv hp2 => ?_
        decreasing_trivial
        refine ite_B (fun h => ?_) fun h => ?_
        · decreasing_trivial
          exact ⟨p2, ws ++ [(u, j)], hp2, by rw [List.map_append]; rfl, fun w hw => (List.mem_append.mp hw).elim (h3 w) fun q => by
            rw [List.mem_singleton.mp q]
            exact ⟨hu, hj, ne⟩, by rw [List.length_append]; simp; omega, rfl⟩
        · exact ⟨rfl, p2, ws, hp2, rfl, h3, by omega, rfl⟩
      · exact ⟨rfl, p', ws, h1.mono (by omega), rfl, h3, by omega, rfl⟩)
  rw [Nat.zero_add, rangeD_len, List.nil_append] at *
  subst h2 h5
  exact ⟨_, _, rfl, e1, by rw [List.length_map]; omega, k ws p' h3 h4 h1⟩
theorem comp_cells {n s : Nat} {p : List D} {a b e f5 f6 f7 f8 f10 : Sl} {K : Rf → E → Prop} {X : Ex → E → Prop} (hp : Pu n p) (hn : n + s ≤ 10 ^ 8) (hs : s ≤ 4)
    (k : ∀ (xs : List Nat) p', (∀ x ∈ xs, x < s) → xs.length ≤ s → Pu (n + s) p' → K (.new (xs.map nD)) [.cel true (.lst p'), a, b, .val (.int (s : Int)), e, f5, f6, f7, f8, .no, f10]) :
    wM (eComp (iRg1 (aCons (eVar 3) aNil)) (tgName 9) (tst (eOp2 fEq (eFn f__law_draw [true, false] (aCons (eVar 0) (aCons (eC (.int 2)) aNil))) (eC (.int 0)))) (eVar 9) [9]) K X
      [.cel true (.lst p), a, b, .val (.int (s : Int)), e, f5, f6, f7, f8, .no, f10] := by
  refine w_comp (w_rg1 (w_cons (w_val rfl (w_nil ⟨_, rfl, by omega, ?_⟩))))
  have z : (s : Int).toNat = s := by omega
  rw [z]
  obtain ⟨es, ρ', e1, p', ws, h1, h2, h3, h4, h5⟩ := comp_inv (t := tgName 9) (tt := tst (eOp2 fEq (eFn f__law_draw [true, false] (aCons (eVar 0) (aCons (eC (.int 2)) aNil))) (eC (.int 0)))) (el := eVar 9) (vs := [9])
    (fun j acc ρ => ∃ p' ws, Pu (n + j) p' ∧ acc = ws.map nD ∧ (∀ w ∈ ws, w < s) ∧ ws.length ≤ j ∧ ρ = [.cel true (.lst p'), a, b, .val (.int (s : Int)), e, f5, f6, f7, f8, .no, f10])
    (rangeD 0 s) 0 [] [.cel true (.lst p), a, b, .val (.int (s : Int)), e, f5, f6, f7, f8, .no, f10] ⟨p, [], hp, rfl, by simp, Nat.le_refl _, rfl⟩ (fun j d acc ρ hd hI => by
      obtain ⟨hj, rfl⟩ := rangeD_at hd
      obtain ⟨p', ws, h1, rfl, h3, h4, rfl⟩ := hI
      rw [Nat.zero_add] at h1 h4 ⊢
      refine ⟨_, rfl, ?_⟩
      decreasing_trivial
      refine w_draw (m := 2) h1 (by omega) (by omega) rfl fun v p2 hv hp2 => ?_
      decreasing_trivial
      refine ite_B (fun h => ?_) fun h => ?_
      · decreasing_trivial
        exact ⟨p2, ws ++ [j], hp2, by rw [List.map_append]; rfl, fun w hw => (List.mem_append.mp hw).elim (h3 w) fun q => by
          rw [List.mem_singleton.mp q]
          exact hj, by rw [List.length_append]; simp; omega, rfl⟩
      · exact ⟨rfl, p2, ws, hp2, rfl, h3, by omega, rfl⟩)
  rw [Nat.zero_add, rangeD_len, List.nil_append] at *
  subst h2 h5
  exact ⟨_, _, rfl, e1, by rw [List.length_map]; omega, k ws p' h3 h4 h1⟩
end LAW

set_option Elab.async false
set_option linter.all false
set_option maxRecDepth 100000
set_option maxHeartbeats 4000000
namespace LAW
open PySem Z
local macro_rules | `(tactic| decreasing_trivial) => `(tactic| repeat (first
  | ((with_reducible apply w_val); exact rfl) | ((with_reducible apply w_cel); exact rfl) | with_reducible refine w_c ?_ | with_reducible refine w_op2 ?_ | with_reducible refine w_cons ?_ | with_reducible refine w_nil ?_ | with_reducible refine w_tst ?_ | with_reducible refine w_call ?_ | with_reducible refine w_ix ?_ | with_reducible refine w_bnot ?_ | with_reducible refine w_band ?_ | with_reducible refine w_bor ?_ | with_reducible refine ws_seq ?_ | with_reducible refine ws_asg ?_ | with_reducible refine ws_if ?_ | with_reducible refine ws_ret ?_ | with_reducible refine ws_expr ?_ | with_reducible refine ws_nx ?_ | with_reducible refine w_and ?_ | with_reducible refine w_or ?_ | with_reducible refine w_not ?_ | with_reducible refine w_eif ?_ | with_reducible refine w_tup ?_ | with_reducible refine w_lst ?_ | with_reducible refine w_fld ?_ | with_reducible refine w_cut ?_ | with_reducible refine w_onone ?_ | with_reducible refine w_osome ?_ | with_reducible refine w_fn ?_ | with_reducible refine w_fnK ?_ | with_reducible refine w_mkK ?_ | with_reducible refine w_meth ?_ | with_reducible refine w_comp ?_ | with_reducible refine w_seq ?_ | with_reducible refine w_en ?_ | with_reducible refine w_rg1 ?_ | with_reducible refine w_rg2 ?_ | with_reducible refine w_isi ?_ | with_reducible refine w_isLT ?_ | with_reducible refine w_isOwn ?_ | with_reducible refine w_ss ?_ | with_reducible refine w_chain ?_ | with_reducible refine w_un ?_ | with_reducible refine w_neg ?_ | with_reducible refine w_rep ?_ | with_reducible refine w_lrg ?_ | with_reducible refine w_lrg1 ?_ | with_reducible refine w_tm ?_ | with_reducible refine w_true ?_ | with_reducible refine ws_par ?_ | with_reducible refine w_pcons ?_ | with_reducible refine w_pnil ?_ | with_reducible refine ws_for ?_ | with_reducible refine ws_retN ?_ | with_reducible refine ws_sub ?_ | with_reducible refine ws_fld ?_ | with_reducible refine ws_raise ?_ | with_reducible refine ws_raise2 ?_ | with_reducible refine ws_bk ?_ | with_reducible refine ws_ct ?_ | ((with_reducible apply w_lm); exact rfl)
  | refine ⟨_, _, rfl, rfl, Nat.le_of_ble_eq_true rfl, ?_⟩ | refine ⟨_, _, _, _, rfl, rfl, rfl, (by decide), ?_⟩ | refine ⟨_, _, _, _, rfl, rfl, rfl, ?_⟩ | refine ⟨_, _, _, rfl, rfl, (by decide), ?_⟩ | refine ⟨_, _, _, rfl, rfl, rfl, ?_⟩ | refine ⟨_, _, _, rfl, rfl, ?_⟩ | refine ⟨_, _, rfl, rfl, ?_⟩ | refine ⟨_, _, (rfl : frz _ _ = some (R.ok _ _)), ?_⟩ | refine ⟨_, _, (rfl : stk _ _ = some (R.ok _ _)), ?_⟩ | refine ⟨_, rfl, ?_⟩ | refine ⟨_, _, rfl, Nat.le_of_ble_eq_true rfl, ?_⟩
  | ((with_reducible apply ite_T); exact rfl) | ((with_reducible apply ite_F); exact rfl) | exact ⟨rfl, rfl⟩ | refine ws_seq ?_ | refine ws_if ?_ | refine ws_ret ?_ | refine ws_for ?_ | refine ws_asg ?_ | refine w_c ?_))
theorem raw_ev {n m : Nat} {p : List D} (hp : Pu n p) (hn : n + 60 ≤ 10 ^ 8) (hm : 1 ≤ m ∧ m ≤ 4) : ∃ x, f__law_raw [.cel (.lst p), .val (.int (m : Int))] = some x ∧ ∃ (r : Raw) (p' : List D), r.Ok m 16 ∧ Pu (n + 60) p' ∧ x = .ret false r.d [.lst p'] := by
  refine fn_any [.cel true (.lst p), .val (.int (m : Int)), .no, .no, .no, .no, .no, .no, .no, .no, .no] ?_
  refine ws_seq (ws_if ?_)
  decreasing_trivial
  refine w_draw (m := 4) hp (by omega) (by omega) rfl fun v p1 hv hp1 => ?_
  decreasing_trivial
  refine ite_B (fun h => ?_) fun h => ?_
  · clear h
    have last : ∀ (r : Raw) (k : Nat) (q : List D) (N : E → Prop), r.Ok m 4 → Pu k q → k ≤ n + 5 → wS (sRet (eIf (tst (eOp2 fEq (eFn f__law_draw [true, false] (aCons (eVar 0) (aCons (eC (.int 2)) aNil))) (eC (.int 0)))) (eFn f__law_flipped [true, false] (aCons (eVar 0) (aCons (eVar 2) aNil))) (eVar 2))) N
        (fun x ρ => ∃ c d cs, retOf ρ x = some (c, d) ∧ outs [Ar.cel (Cell.lst p), Ar.val (.int (m : Int))] ρ = some cs ∧ ∃ (r' : Raw) (p' : List D), r'.Ok m 16 ∧ Pu (n + 60) p' ∧ FR.ret c d cs = FR.ret false r'.d [Cell.lst p'])
        noE noE (fun x ρ => ∃ cs, outs [Ar.cel (Cell.lst p), Ar.val (.int (m : Int))] ρ = some cs ∧ ∃ (r' : Raw) (p' : List D), r'.Ok m 16 ∧ Pu (n + 60) p' ∧ FR.exc x cs = FR.ret false r'.d [Cell.lst p'])
        [.cel true (.lst q), .val (.int (m : Int)), .val r.d, .no, .no, .no, .no, .no, .no, .no, .no] := fun r k q N hr hq hk => by
      decreasing_trivial
      refine w_draw (m := 2) hq (by omega) (by omega) rfl fun v p1 hv hp1 => ?_
      decreasing_trivial
      refine ite_B (fun h => ?_) fun h => ?_
      · decreasing_trivial
        refine w_flip hp1 (by omega) hr (by omega) (by omega) fun r' p' hr' hp' => ?_
        exact ⟨false, r'.d, [.lst p'], rfl, rfl, r', p', hr'.mono (Nat.le_refl _) (by omega), hp'.mono (by omega), rfl⟩
      · decreasing_trivial
        exact ⟨r, p1, hr.mono (Nat.le_refl _) (by omega), hp1.mono (by omega), rfl⟩
    have mid : ∀ (r : Raw) (k : Nat) (q : List D) (N : E → Prop), r.Ok 4 4 → Pu k q → k ≤ n + 4 → wS (sSeq (sIf (tst (eOp2 (fI kGt) (eIx (eVar 2) (eC (.int 0))) (eVar 1))) (sAsg (eFn f__law_menu [false] (aCons (eC (.int 12)) aNil)) (tgName 2)) sNx) (sRet (eIf (tst (eOp2 fEq (eFn f__law_draw [true, false] (aCons (eVar 0) (aCons (eC (.int 2)) aNil))) (eC (.int 0)))) (eFn f__law_flipped [true, false] (aCons (eVar 0) (aCons (eVar 2) aNil))) (eVar 2)))) N
        (fun x ρ => ∃ c d cs, retOf ρ x = some (c, d) ∧ outs [Ar.cel (Cell.lst p), Ar.val (.int (m : Int))] ρ = some cs ∧ ∃ (r' : Raw) (p' : List D), r'.Ok m 16 ∧ Pu (n + 60) p' ∧ FR.ret c d cs = FR.ret false r'.d [Cell.lst p'])
        noE noE (fun x ρ => ∃ cs, outs [Ar.cel (Cell.lst p), Ar.val (.int (m : Int))] ρ = some cs ∧ ∃ (r' : Raw) (p' : List D), r'.Ok m 16 ∧ Pu (n + 60) p' ∧ FR.exc x cs = FR.ret false r'.d [Cell.lst p'])
        [.cel true (.lst q), .val (.int (m : Int)), .val r.d, .no, .no, .no, .no, .no, .no, .no, .no] := fun r k q N hr hq hk => by
      refine ws_seq (ws_if (w_tst (w_op2 (w_ix (w_val rfl (w_c ⟨_, _, _, rfl, rfl, rfl, w_val rfl ⟨_, _, _, rfl, rfl, rfl, ⟨_, rfl, ?_⟩⟩⟩))))))
      refine ite_B (fun h => ?_) fun h => ?_
      · obtain ⟨r', e1, e2⟩ := menu_ev (v := 12) (by decide)
        cases e1
        refine ws_asg (w_fn (w_cons (w_c (w_nil (w_fnL e2 ⟨_, _, _, _, rfl, rfl, rfl, by decide, ⟨_, rfl, ?_⟩⟩)))))
        exact last _ k q N ((by decide : (⟨1, [], [0], [0]⟩ : Raw).Ok 1 4).mono hm.1 (Nat.le_refl _)) hq (by omega)
      · have h : ¬((m : Int) < (r.n : Int)) := of_decide_eq_false h
        exact ws_nx (last r k q N ⟨hr.n1, by omega, hr.w, hr.wl, hr.i, hr.il, hr.o, hr.ol⟩ hq (by omega))
    refine ws_seq (ws_asg (w_fn (w_cons (w_fn (w_cons (w_cel rfl (w_cons (w_c (w_nil ?_)))))))))
    refine w_draw (m := 14) hp1 (by omega) (by omega) rfl fun v p2 hv hp2 => ?_
    obtain ⟨r, e1, e2⟩ := menu_ev hv
    have hr := menu_ok r (List.mem_of_getElem? e1)
    refine w_nil (w_fnL e2 ⟨_, _, _, _, rfl, rfl, rfl, by decide, ⟨_, rfl, ?_⟩⟩)
    refine ws_seq (ws_if (w_tst (w_op2 (w_ix (w_val rfl (w_c ⟨_, _, _, rfl, rfl, rfl, w_val rfl ⟨_, _, _, rfl, rfl, rfl, ⟨_, rfl, ?_⟩⟩⟩))))))
    refine ite_B (fun h => ?_) fun h => ?_
    · refine ws_asg (w_fn (w_cons (w_fn (w_cons (w_cel rfl (w_cons (w_c (w_nil ?_))))))))
      refine w_draw (m := 9) hp2 (by omega) (by omega) rfl fun v p3 hv hp3 => ?_
      obtain ⟨r, e1, e2⟩ := menu_ev (v := v) (by omega)
      have hr := menu_ok r (List.mem_of_getElem? e1)
      refine w_nil (w_fnL e2 ⟨_, _, _, _, rfl, rfl, rfl, by decide, ⟨_, rfl, ?_⟩⟩)
      exact mid r _ p3 _ hr hp3 (by omega)
    · exact ws_nx (mid r _ p2 _ hr hp2 (by omega))
  · clear h
    refine ws_nx ?_
    refine ws_seq (ws_asg (w_op2 (w_c (w_fn (w_cons (w_cel rfl (w_cons (w_val rfl (w_nil ?_)))))))))
    refine w_draw (m := m) hp1 (by omega) (by omega) rfl fun v p2 hv hp2 => ?_
    refine ⟨_, _, _, rfl, rfl, rfl, ?_⟩
    have z : (1 : Int) + (v : Int) = ((v + 1 : Nat) : Int) := by omega
    show ∃ ρ2, tgName 3 (mk (.int ((1 : Int) + (v : Int)))) _ = some ρ2 ∧ _
    rw [z]
    obtain ⟨s, hs⟩ : ∃ s, s = v + 1 := ⟨_, rfl⟩
    rw [← hs]
    refine ⟨_, rfl, ?_⟩
    refine ws_seq (ws_asg (w_lst (w_nil ⟨_, _, rfl, Nat.le_of_ble_eq_true rfl, ⟨_, rfl, ?_⟩⟩)))
    refine ws_seq (ws_for (w_rg1 (w_cons (w_val rfl (w_nil ⟨_, rfl, by omega, ?_⟩)))))
    have z2 : (s : Int).toNat = s := by omega
    rw [z2]
    refine ws_forL (fun j ρ => ∃ p' ws s5, Pu (n + 2 + s * j) p' ∧ (∀ w ∈ ws, w.1 < s ∧ w.2 < s ∧ w.1 ≠ w.2) ∧ ws.length ≤ s * j ∧ okSlot [s5] 0 = true ∧ ρ = [.cel true (.lst p'), .val (.int (m : Int)), .no, .val (.int (s : Int)), .cel false (.lst (ws.map wD)), s5, .no, .no, .no, .no, .no]) (rangeD 0 s) 0 _ ⟨p2, [], .no, hp2.mono (by omega), by simp, Nat.zero_le _, rfl, rfl⟩ ?_ ?_
    · rintro j d ρ hd ⟨p', ws, s5, h1, h3, h4, h5, rfl⟩
      obtain ⟨hj, rfl⟩ := rangeD_at hd
      rw [Nat.zero_add] at h1 h4 ⊢
      have hj16 : s * j ≤ 12 := by
        have : s * j ≤ 4 * 3 := Nat.mul_le_mul (by omega) (by omega)
        omega
      refine ⟨[.cel true (.lst p'), .val (.int (m : Int)), .no, .val (.int (s : Int)), .cel false (.lst (ws.map wD)), .val (.int (j : Int)), .no, .no, .no, .no, .no], ?_, ?_⟩
      · unfold tgName
        rw [if_pos (show okSlot _ 5 = true from h5)]
        rfl
      · refine ws_asg (w_op2 (w_cel rfl ?_))
        refine comp_ways h1 (by omega) (by omega) hj fun ws2 p3 k1 k2 k3 => ?_
        refine ⟨_, _, _, rfl, rfl, fAdd_l ?_, ?_⟩
        · rw [List.length_map, List.length_map]
          omega
        · refine ⟨_, rfl, p3, ws ++ ws2, .val (.int (j : Int)), k3.mono (by rw [Nat.mul_succ]; omega), fun w hw => (List.mem_append.mp hw).elim (h3 w) (k1 w), ?_, rfl, ?_⟩
          · rw [List.length_append, Nat.mul_succ]
            omega
          · rw [List.map_append]
            rfl
    · rintro ρ ⟨p', ws, s5, h1, h3, h4, h5, rfl⟩
      rw [Nat.zero_add, rangeD_len] at h1 h4
      have hss : s * s ≤ 16 := Nat.mul_le_mul (by omega : s ≤ 4) (by omega : s ≤ 4)
      refine ws_seq (ws_asg (w_comp (w_rg1 (w_cons (w_c (w_nil ⟨_, rfl, by omega, ?_⟩))))))
      obtain ⟨es, ρ', e1, q, xs, l1, l2, l2b, l3, l4⟩ := comp_inv (t := tgName 10) (tt := tTrue) (el := eComp (iRg1 (aCons (eVar 3) aNil)) (tgName 9) (tst (eOp2 fEq (eFn f__law_draw [true, false] (aCons (eVar 0) (aCons (eC (.int 2)) aNil))) (eC (.int 0)))) (eVar 9) [9]) (vs := [10])
        (fun j acc ρ => ∃ q xs, Pu (n + 20 + s * j) q ∧ acc = xs.map (fun (l : List Nat) => D.lst (l.map nD)) ∧ xs.length = j ∧ (∀ l ∈ xs, (∀ x ∈ l, x < s) ∧ l.length ≤ s) ∧ ρ = [.cel true (.lst q), .val (.int (m : Int)), .no, .val (.int (s : Int)), .cel false (.lst (ws.map wD)), s5, .no, .no, .no, .no, .no])
        (rangeD 0 2) 0 [] [.cel true (.lst p'), .val (.int (m : Int)), .no, .val (.int (s : Int)), .cel false (.lst (ws.map wD)), s5, .no, .no, .no, .no, .no] ⟨p', [], h1.mono (by omega), rfl, rfl, by simp, rfl⟩ (fun j d acc ρ hd hI => by
          obtain ⟨hj, rfl⟩ := rangeD_at hd
          obtain ⟨q, xs, k1, rfl, k3, k4, rfl⟩ := hI
          rw [Nat.zero_add] at k1 k3 ⊢
          have hj16 : s * j ≤ 4 := by
            have : s * j ≤ 4 * 1 := Nat.mul_le_mul (by omega) (by omega)
            omega
          refine ⟨_, rfl, w_true (ite_T rfl ?_)⟩
          refine comp_cells k1 (by omega) (by omega) fun l q2 g1 g2 g3 => ?_
          refine ⟨_, _, rfl, rfl, q2, xs ++ [l], g3.mono (by rw [Nat.mul_succ]; omega), by rw [List.map_append]; rfl, by rw [List.length_append]; simp; omega, fun w hw => (List.mem_append.mp hw).elim (k4 w) fun z => by
            rw [List.mem_singleton.mp z]
            exact ⟨g1, g2⟩, rfl⟩)
      refine ⟨es, ρ', rfl, e1, ?_, ?_⟩
      · rw [List.nil_append] at l2
        rw [l2, List.length_map, l2b]
        decide
      · rw [List.nil_append] at l2
        rw [Nat.zero_add, rangeD_len] at l1 l2b
        match xs, l2b with
        | [a, b], _ =>
          subst l2 l4
          obtain ⟨a1, a2⟩ := l3 a (by simp)
          obtain ⟨b1, b2⟩ := l3 b (by simp)
          refine ⟨_, rfl, ?_⟩
          decreasing_trivial
          exact ⟨⟨s, ws, a, b⟩, q, ⟨by show 1 ≤ s; omega, by show s ≤ m; omega, h3, by show ws.length ≤ 16; omega, a1, by show a.length ≤ 16; omega, b1, by show b.length ≤ 16; omega⟩, l1.mono (by omega), rfl⟩
end LAW

set_option Elab.async false
set_option linter.all false
set_option maxRecDepth 100000
set_option maxHeartbeats 4000000
namespace LAW
open PySem Z
local macro_rules | `(tactic| decreasing_trivial) => `(tactic| repeat (first
  | ((with_reducible apply w_val); exact rfl) | ((with_reducible apply w_cel); exact rfl) | with_reducible refine w_c ?_ | with_reducible refine w_op2 ?_ | with_reducible refine w_cons ?_ | with_reducible refine w_nil ?_ | with_reducible refine w_tst ?_ | with_reducible refine w_call ?_ | with_reducible refine w_ix ?_ | with_reducible refine w_bnot ?_ | with_reducible refine w_band ?_ | with_reducible refine w_bor ?_ | with_reducible refine ws_seq ?_ | with_reducible refine ws_asg ?_ | with_reducible refine ws_if ?_ | with_reducible refine ws_ret ?_ | with_reducible refine ws_expr ?_ | with_reducible refine ws_nx ?_ | with_reducible refine w_and ?_ | with_reducible refine w_or ?_ | with_reducible refine w_not ?_ | with_reducible refine w_eif ?_ | with_reducible refine w_tup ?_ | with_reducible refine w_lst ?_ | with_reducible refine w_fld ?_ | with_reducible refine w_cut ?_ | with_reducible refine w_onone ?_ | with_reducible refine w_osome ?_ | with_reducible refine w_fn ?_ | with_reducible refine w_fnK ?_ | with_reducible refine w_mkK ?_ | with_reducible refine w_meth ?_ | with_reducible refine w_comp ?_ | with_reducible refine w_seq ?_ | with_reducible refine w_en ?_ | with_reducible refine w_rg1 ?_ | with_reducible refine w_rg2 ?_ | with_reducible refine w_isi ?_ | with_reducible refine w_isLT ?_ | with_reducible refine w_isOwn ?_ | with_reducible refine w_ss ?_ | with_reducible refine w_chain ?_ | with_reducible refine w_un ?_ | with_reducible refine w_neg ?_ | with_reducible refine w_rep ?_ | with_reducible refine w_lrg ?_ | with_reducible refine w_lrg1 ?_ | with_reducible refine w_tm ?_ | with_reducible refine w_true ?_ | with_reducible refine ws_par ?_ | with_reducible refine w_pcons ?_ | with_reducible refine w_pnil ?_ | with_reducible refine ws_for ?_ | with_reducible refine ws_retN ?_ | with_reducible refine ws_sub ?_ | with_reducible refine ws_fld ?_ | with_reducible refine ws_raise ?_ | with_reducible refine ws_raise2 ?_ | with_reducible refine ws_bk ?_ | with_reducible refine ws_ct ?_ | ((with_reducible apply w_lm); exact rfl)
  | refine ⟨_, _, rfl, rfl, Nat.le_of_ble_eq_true rfl, ?_⟩ | refine ⟨_, _, _, _, rfl, rfl, rfl, (by decide), ?_⟩ | refine ⟨_, _, _, _, rfl, rfl, rfl, ?_⟩ | refine ⟨_, _, _, rfl, rfl, (by decide), ?_⟩ | refine ⟨_, _, _, rfl, rfl, rfl, ?_⟩ | refine ⟨_, _, _, rfl, rfl, ?_⟩ | refine ⟨_, _, rfl, rfl, ?_⟩ | refine ⟨_, _, (rfl : frz _ _ = some (R.ok _ _)), ?_⟩ | refine ⟨_, _, (rfl : stk _ _ = some (R.ok _ _)), ?_⟩ | refine ⟨_, rfl, ?_⟩ | refine ⟨_, _, rfl, Nat.le_of_ble_eq_true rfl, ?_⟩
  | ((with_reducible apply ite_T); exact rfl) | ((with_reducible apply ite_F); exact rfl) | exact ⟨rfl, rfl⟩ | refine ws_seq ?_ | refine ws_if ?_ | refine ws_ret ?_ | refine ws_for ?_ | refine ws_asg ?_ | refine w_c ?_))
/-! rising, each once -/
def ltN (x y : Nat) : Bool := decide (x < y)
def ltP (x y : Nat × Nat) : Bool := decide (x.1 < y.1) || (decide (x.1 = y.1) && decide (x.2 < y.2))
theorem insU_map {α β : Type} [DecidableEq α] [DecidableEq β] {lt : α → α → Bool} {lu : β → β → Bool} (f : α → β) (hi : ∀ x y, f x = f y → x = y) (hl : ∀ x y, lu (f x) (f y) = lt x y) (x : α) : ∀ ys : List α, insU lu (f x) (ys.map f) = (insU lt x ys).map f
  | [] => rfl
  | y :: ys => by
    have ih := insU_map f hi hl x ys
    simp only [List.map_cons, insU, hl]
    by_cases e : x = y
    · subst e
      simp
    · rw [if_neg (fun q => e (hi _ _ q)), if_neg e, ih]
      by_cases g : lt x y = true
      · rw [if_pos g, if_pos g]
        rfl
      · rw [if_neg g, if_neg g]
        rfl
theorem srtU_map {α β : Type} [DecidableEq α] [DecidableEq β] {lt : α → α → Bool} {lu : β → β → Bool} (f : α → β) (hi : ∀ x y, f x = f y → x = y) (hl : ∀ x y, lu (f x) (f y) = lt x y) : ∀ xs : List α, srtU lu (xs.map f) = (srtU lt xs).map f
  | [] => rfl
  | x :: xs => by
    show insU lu (f x) (srtU lu (xs.map f)) = _
    rw [srtU_map f hi hl xs, insU_map f hi hl]
    rfl
theorem srtI_n (xs : List Nat) : srtU ltI (xs.map fun (x : Nat) => (x : Int)) = (srtU ltN xs).map fun (x : Nat) => (x : Int) :=
  srtU_map (lt := ltN) (lu := ltI) (fun (x : Nat) => (x : Int)) (fun x y h => by omega) (fun x y => by
    unfold ltI ltN
    rw [Bool.eq_iff_iff]
    simp only [decide_eq_true_eq]
    omega) xs
theorem srtT_w (ws : List (Nat × Nat)) : srtU ltT (ws.map fun w => [(w.1 : Int), (w.2 : Int)]) = (srtU ltP ws).map fun w => [(w.1 : Int), (w.2 : Int)] :=
  srtU_map (fun (w : Nat × Nat) => [(w.1 : Int), (w.2 : Int)]) (fun x y h => by
    injection h with a b
    injection b with b _
    exact Prod.ext (by omega) (by omega)) (fun x y => by
    unfold ltP
    simp only [ltT, Bool.and_false, Bool.or_false]
    rw [Bool.eq_iff_iff]
    simp only [Bool.or_eq_true, Bool.and_eq_true, decide_eq_true_eq]
    omega) ws
theorem dInts_n : ∀ xs : List Nat, dInts (xs.map nD) = some (xs.map fun (x : Nat) => (x : Int))
  | [] => rfl
  | x :: xs => by
    show (dInts (xs.map nD)).map _ = _
    rw [dInts_n xs]
    rfl
theorem dTups_w : ∀ ws : List (Nat × Nat), dTups (ws.map wD) = some (ws.map fun w => [(w.1 : Int), (w.2 : Int)])
  | [] => rfl
  | w :: ws => by
    show (match dInts [.int (w.1 : Int), .int (w.2 : Int)], dTups (ws.map wD) with | some ns, some ts => some (ns :: ts) | _, _ => none) = _
    rw [dTups_w ws]
    rfl
theorem fSS_n {xs : List Nat} (h : xs.length < 64) : fSS (xs.map nD) = some ((srtU ltN xs).map nD) := by
  unfold fSS
  rw [List.length_map, if_pos h, dInts_n]
  show some ((srtU ltI _).map D.int) = _
  rw [srtI_n, List.map_map]
  rfl
theorem same_w : ∀ ws : List (Nat × Nat), sameLen 2 (ws.map fun w => [(w.1 : Int), (w.2 : Int)]) = true := fun ws => by
  unfold sameLen
  rw [List.all_eq_true]
  intro t ht
  obtain ⟨w, _, rfl⟩ := List.mem_map.mp ht
  simp
theorem fSS_w {ws : List (Nat × Nat)} (h : ws.length < 64) : fSS (ws.map wD) = some ((srtU ltP ws).map wD) := by
  unfold fSS
  rw [List.length_map, if_pos h]
  cases ws with
  | nil => rfl
  | cons w ws =>
    have e : dInts ((w :: ws).map wD) = none := rfl
    rw [e]
    simp only
    rw [dTups_w]
    have hs := same_w (w :: ws)
    have hm := srtT_w (w :: ws)
    rw [List.map_cons] at hs hm ⊢
    simp only [List.length_cons, List.length_nil, Nat.zero_add]
    rw [if_pos ⟨by decide, hs⟩, hm, List.map_map]
    rfl
theorem srtU_nodup_mem {α : Type} [DecidableEq α] {lt : α → α → Bool} {x : α} {xs : List α} : x ∈ srtU lt xs ↔ x ∈ xs := mem_srtU
/-! yards made -/
def roadsD (ws : List (Nat × Nat)) : D := .tup ((srtU ltP ws).map wD)
def cellsD (xs : List Nat) : D := .tup ((srtU ltN xs).map nD)
def yardD (r : Raw) : D := .ins "Yard" ["cells", "roads", "entries", "exits"] [.int (r.n : Int), roadsD r.ways, cellsD r.ins, cellsD r.outs]
theorem nums_at {f : Nat → D} {α : Type} {g : α → D} {xs : List α} {j : Nat} {d : D} (h : (numbered (xs.map g))[j]? = some d) : ∃ x ∈ xs, d = .pr [.int (j : Int), g x] := by
  obtain ⟨e, h1, h2⟩ := numbered_get h
  rw [List.getElem?_map] at h1
  cases q : xs[j]? with
  | none =>
    rw [q] at h1
    cases h1
  | some x =>
    rw [q] at h1
    cases h1
    exact ⟨x, List.mem_of_getElem? q, h2⟩
def isSeq (b : Bool) (ds : List D) : D := if b = true then .tup ds else .lst ds
theorem checked_roads_ev {ws : List (Nat × Nat)} {n : Nat} (b : Bool) (h : ∀ w ∈ ws, w.1 < n ∧ w.2 < n ∧ w.1 ≠ w.2) (hl : ws.length < 64) : f_checked_roads [.val (isSeq b (ws.map wD)), .val (.int (n : Int))] = some (.ret false (roadsD ws) []) := by
  refine fn_rt [.val (isSeq b (ws.map wD)), .val (.int (n : Int)), .no, .no] ?_
  have e1 : isLT (isSeq b (ws.map wD)) = some true := by cases b <;> rfl
  have e2 : seqOf (isSeq b (ws.map wD)) = some (ws.map wD) := by cases b <;> rfl
  have e3 : fSSd (isSeq b (ws.map wD)) = some ((srtU ltP ws).map wD) := by cases b <;> exact fSS_w hl
  refine ws_seq (ws_if (w_bnot (w_tst (w_isLT (w_val rfl ⟨_, _, rfl, e1, ⟨_, rfl, ite_F rfl (ws_nx ?_)⟩⟩)))))
  refine ws_seq (ws_for (w_en (w_val rfl ⟨_, _, _, rfl, e2, ?_⟩)))
  refine ws_forL (fun j ρ => ∃ s2 s3, okSlot [s2] 0 = true ∧ okSlot [s3] 0 = true ∧ ρ = [.val (isSeq b (ws.map wD)), .val (.int (n : Int)), s2, s3]) _ 0 _ ⟨.no, .no, rfl, rfl, rfl⟩ ?_ ?_
  · rintro j d ρ hd ⟨s2, s3, h2, h3, rfl⟩
    obtain ⟨w, hw, rfl⟩ := nums_at (f := nD) hd
    refine ⟨[.val (isSeq b (ws.map wD)), .val (.int (n : Int)), .val (.int (j : Int)), .val (wD w)], ?_, ?_⟩
    · simp only [tgTup, D.unp, tgCons, tgNil, tgName, List.length_cons, List.length_nil, if_true]
      rw [if_pos (show okSlot _ 2 = true from h2)]
      simp only [List.set]
      rw [if_pos (show okSlot _ 3 = true from h3)]
    · refine ws_if (w_bnot (w_tst (w_fn (w_cons (w_val rfl (w_cons (w_val rfl (w_nil ?_))))))))
      refine w_fnL (isroad_nat (h w hw)) ⟨_, _, _, _, rfl, rfl, rfl, by decide, ⟨_, rfl, ite_F rfl (ws_nx ?_)⟩⟩
      exact ⟨_, _, rfl, rfl, rfl⟩
  · rintro ρ ⟨s2, s3, h2, h3, rfl⟩
    exact ws_ret (w_call (w_cons (w_ss (w_val rfl ⟨_, _, rfl, e3, w_nil ⟨_, _, rfl, rfl, rfl, rfl⟩⟩))))
theorem checked_cells_ev {xs : List Nat} {n : Nat} (b : Bool) (h : ∀ x ∈ xs, x < n) (hl : xs.length < 64) : f_checked_cells [.val (isSeq b (xs.map nD)), .val (.int (n : Int))] = some (.ret false (cellsD xs) []) := by
  refine fn_rt [.val (isSeq b (xs.map nD)), .val (.int (n : Int)), .no, .no] ?_
  have e1 : isLT (isSeq b (xs.map nD)) = some true := by cases b <;> rfl
  have e2 : seqOf (isSeq b (xs.map nD)) = some (xs.map nD) := by cases b <;> rfl
  have e3 : fSSd (isSeq b (xs.map nD)) = some ((srtU ltN xs).map nD) := by cases b <;> exact fSS_n hl
  refine ws_seq (ws_if (w_bnot (w_tst (w_isLT (w_val rfl ⟨_, _, rfl, e1, ⟨_, rfl, ite_F rfl (ws_nx ?_)⟩⟩)))))
  refine ws_seq (ws_for (w_en (w_val rfl ⟨_, _, _, rfl, e2, ?_⟩)))
  refine ws_forL (fun j ρ => ∃ s2 s3, okSlot [s2] 0 = true ∧ okSlot [s3] 0 = true ∧ ρ = [.val (isSeq b (xs.map nD)), .val (.int (n : Int)), s2, s3]) _ 0 _ ⟨.no, .no, rfl, rfl, rfl⟩ ?_ ?_
  · rintro j d ρ hd ⟨s2, s3, h2, h3, rfl⟩
    obtain ⟨w, hw, rfl⟩ := nums_at (f := nD) hd
    refine ⟨[.val (isSeq b (xs.map nD)), .val (.int (n : Int)), .val (.int (j : Int)), .val (nD w)], ?_, ?_⟩
    · simp only [tgTup, D.unp, tgCons, tgNil, tgName, List.length_cons, List.length_nil, if_true]
      rw [if_pos (show okSlot _ 2 = true from h2)]
      simp only [List.set]
      rw [if_pos (show okSlot _ 3 = true from h3)]
    · refine ws_if (w_bnot (w_tst (w_fn (w_cons (w_val rfl (w_cons (w_val rfl (w_nil ?_))))))))
      refine w_fnL (iscell_nat (h w hw)) ⟨_, _, _, _, rfl, rfl, rfl, by decide, ⟨_, rfl, ite_F rfl (ws_nx ?_)⟩⟩
      exact ⟨_, _, rfl, rfl, rfl⟩
  · rintro ρ ⟨s2, s3, h2, h3, rfl⟩
    exact ws_ret (w_call (w_cons (w_ss (w_val rfl ⟨_, _, rfl, e3, w_nil ⟨_, _, rfl, rfl, rfl, rfl⟩⟩))))
theorem yard_init_ev {r : Raw} {m k : Nat} (b c d : Bool) (h : r.Ok m k) (hk : k < 64) : f_Yard_init [.cel (.ins "Yard" [] []), .val (.int (r.n : Int)), .val (isSeq b (r.ways.map wD)), .val (isSeq c (r.ins.map nD)), .val (isSeq d (r.outs.map nD))] = some (.ret false .non [.ins "Yard" ["cells", "roads", "entries", "exits"] [.int (r.n : Int), roadsD r.ways, cellsD r.ins, cellsD r.outs]]) := by
  have h1 := h.n1
  have hw := h.wl
  have hi := h.il
  have ho := h.ol
  refine fn_rt [.cel true (.ins "Yard" [] []), .val (.int (r.n : Int)), .val (isSeq b (r.ways.map wD)), .val (isSeq c (r.ins.map nD)), .val (isSeq d (r.outs.map nD))] ?_
  refine ws_seq (ws_if (w_bor (w_bnot (w_tst (w_fn (w_cons (w_val rfl (w_nil (w_fnL (isnum_int _) ⟨_, _, _, _, rfl, rfl, rfl, by decide, ⟨_, rfl, ?_⟩⟩)))))))))
  rw [decide_eq_true (show (0 : Int) ≤ (r.n : Int) by omega)]
  refine ite_F rfl (w_tst (w_op2 (w_val rfl (w_c ⟨_, _, _, rfl, rfl, eq_nat r.n 0, ⟨_, rfl, ?_⟩⟩))))
  rw [decide_eq_false (show ¬ r.n = 0 by omega)]
  refine ite_F rfl (ws_nx ?_)
  refine ws_seq (ws_fld (w_val rfl ⟨_, _, _, _, _, _, rfl, rfl, ⟨rfl, Nat.le_of_ble_eq_true rfl⟩, ?_⟩))
  refine ws_seq (ws_fld (w_fn (w_cons (w_val rfl (w_cons (w_val rfl (w_nil (w_fnL (checked_roads_ev b h.w (by omega)) ⟨_, _, _, _, rfl, rfl, rfl, by decide, ⟨_, _, _, _, _, _, rfl, rfl, ⟨rfl, Nat.le_of_ble_eq_true rfl⟩, ?_⟩⟩))))))))
  refine ws_seq (ws_fld (w_fn (w_cons (w_val rfl (w_cons (w_val rfl (w_nil (w_fnL (checked_cells_ev c h.i (by omega)) ⟨_, _, _, _, rfl, rfl, rfl, by decide, ⟨_, _, _, _, _, _, rfl, rfl, ⟨rfl, Nat.le_of_ble_eq_true rfl⟩, ?_⟩⟩))))))))
  refine ws_fld (w_fn (w_cons (w_val rfl (w_cons (w_val rfl (w_nil (w_fnL (checked_cells_ev d h.o (by omega)) ⟨_, _, _, _, rfl, rfl, rfl, by decide, ⟨_, _, _, _, _, _, rfl, rfl, ⟨rfl, Nat.le_of_ble_eq_true rfl⟩, ?_⟩⟩)))))))
  exact ⟨rfl, rfl, rfl⟩
theorem built_ev {r : Raw} {m k : Nat} (h : r.Ok m k) (hk : k < 64) : f__law_built [.val r.d] = some (.ret false (yardD r) []) := by
  refine fn_rt [.val r.d] ?_
  refine ws_ret (w_mkK ?_)
  decreasing_trivial
  refine ⟨⟨rfl, rfl⟩, _, _, rfl, .inl ⟨_, _, yard_init_ev false false false h hk, ?_⟩⟩
  exact ⟨rfl, rfl⟩
theorem w_cells {a : M Rf} {K : Rf → E → Prop} {X : Ex → E → Prop} {ρ : E} (h : wM a (fun x ρ1 => ∃ r, deref ρ1 (stl x) = some (yardD r) ∧ K (.dat (.int (r.n : Int))) ρ1) X ρ) : wM (eFld ["Yard"] "cells" a) K X ρ :=
  w_fld (wM_mono h fun x ρ1 ⟨r, e, k⟩ => ⟨_, _, _, _, e, by kernel_rfl, by kernel_rfl, k⟩)
theorem w_roads {a : M Rf} {K : Rf → E → Prop} {X : Ex → E → Prop} {ρ : E} (h : wM a (fun x ρ1 => ∃ r, deref ρ1 (stl x) = some (yardD r) ∧ K (.dat (roadsD r.ways)) ρ1) X ρ) : wM (eFld ["Yard"] "roads" a) K X ρ :=
  w_fld (wM_mono h fun x ρ1 ⟨r, e, k⟩ => ⟨_, _, _, _, e, by kernel_rfl, by kernel_rfl, k⟩)
theorem w_entries {a : M Rf} {K : Rf → E → Prop} {X : Ex → E → Prop} {ρ : E} (h : wM a (fun x ρ1 => ∃ r, deref ρ1 (stl x) = some (yardD r) ∧ K (.dat (cellsD r.ins)) ρ1) X ρ) : wM (eFld ["Yard"] "entries" a) K X ρ :=
  w_fld (wM_mono h fun x ρ1 ⟨r, e, k⟩ => ⟨_, _, _, _, e, by kernel_rfl, by kernel_rfl, k⟩)
theorem w_exits {a : M Rf} {K : Rf → E → Prop} {X : Ex → E → Prop} {ρ : E} (h : wM a (fun x ρ1 => ∃ r, deref ρ1 (stl x) = some (yardD r) ∧ K (.dat (cellsD r.outs)) ρ1) X ρ) : wM (eFld ["Yard"] "exits" a) K X ρ :=
  w_fld (wM_mono h fun x ρ1 ⟨r, e, k⟩ => ⟨_, _, _, _, e, by kernel_rfl, by kernel_rfl, k⟩)
end LAW

set_option Elab.async false
set_option linter.all false
set_option maxRecDepth 100000
set_option maxHeartbeats 4000000
namespace LAW
open PySem Z
local macro_rules | `(tactic| decreasing_trivial) => `(tactic| repeat (first
  | ((with_reducible apply w_val); exact rfl) | ((with_reducible apply w_cel); exact rfl) | with_reducible refine w_c ?_ | with_reducible refine w_op2 ?_ | with_reducible refine w_cons ?_ | with_reducible refine w_nil ?_ | with_reducible refine w_tst ?_ | with_reducible refine w_call ?_ | with_reducible refine w_ix ?_ | with_reducible refine w_bnot ?_ | with_reducible refine w_band ?_ | with_reducible refine w_bor ?_ | with_reducible refine ws_seq ?_ | with_reducible refine ws_asg ?_ | with_reducible refine ws_if ?_ | with_reducible refine ws_ret ?_ | with_reducible refine ws_expr ?_ | with_reducible refine ws_nx ?_ | with_reducible refine w_and ?_ | with_reducible refine w_or ?_ | with_reducible refine w_not ?_ | with_reducible refine w_eif ?_ | with_reducible refine w_tup ?_ | with_reducible refine w_lst ?_ | with_reducible refine w_fld ?_ | with_reducible refine w_cut ?_ | with_reducible refine w_onone ?_ | with_reducible refine w_osome ?_ | with_reducible refine w_fn ?_ | with_reducible refine w_fnK ?_ | with_reducible refine w_mkK ?_ | with_reducible refine w_meth ?_ | with_reducible refine w_comp ?_ | with_reducible refine w_seq ?_ | with_reducible refine w_en ?_ | with_reducible refine w_rg1 ?_ | with_reducible refine w_rg2 ?_ | with_reducible refine w_isi ?_ | with_reducible refine w_isLT ?_ | with_reducible refine w_isOwn ?_ | with_reducible refine w_ss ?_ | with_reducible refine w_chain ?_ | with_reducible refine w_un ?_ | with_reducible refine w_neg ?_ | with_reducible refine w_rep ?_ | with_reducible refine w_lrg ?_ | with_reducible refine w_lrg1 ?_ | with_reducible refine w_tm ?_ | with_reducible refine w_true ?_ | with_reducible refine ws_par ?_ | with_reducible refine w_pcons ?_ | with_reducible refine w_pnil ?_ | with_reducible refine ws_for ?_ | with_reducible refine ws_retN ?_ | with_reducible refine ws_sub ?_ | with_reducible refine ws_fld ?_ | with_reducible refine ws_raise ?_ | with_reducible refine ws_raise2 ?_ | with_reducible refine ws_bk ?_ | with_reducible refine ws_ct ?_ | ((with_reducible apply w_lm); exact rfl)
  | refine ⟨_, _, rfl, rfl, Nat.le_of_ble_eq_true rfl, ?_⟩ | refine ⟨_, _, _, _, rfl, rfl, rfl, (by decide), ?_⟩ | refine ⟨_, _, _, _, rfl, rfl, rfl, ?_⟩ | refine ⟨_, _, _, rfl, rfl, (by decide), ?_⟩ | refine ⟨_, _, _, rfl, rfl, rfl, ?_⟩ | refine ⟨_, _, _, rfl, rfl, ?_⟩ | refine ⟨_, _, rfl, rfl, ?_⟩ | refine ⟨_, _, (rfl : frz _ _ = some (R.ok _ _)), ?_⟩ | refine ⟨_, _, (rfl : stk _ _ = some (R.ok _ _)), ?_⟩ | refine ⟨_, rfl, ?_⟩ | refine ⟨_, _, rfl, Nat.le_of_ble_eq_true rfl, ?_⟩
  | ((with_reducible apply ite_T); exact rfl) | ((with_reducible apply ite_F); exact rfl) | exact ⟨rfl, rfl⟩ | refine ws_seq ?_ | refine ws_if ?_ | refine ws_ret ?_ | refine ws_for ?_ | refine ws_asg ?_ | refine w_c ?_))
/-! moves -/
inductive Mv | inn (u : Nat) | out (u : Nat) | road (u v : Nat)
def Mv.d : Mv → D
  | .inn u => .tup [.str "in", .int (u : Int)]
  | .out u => .tup [.str "out", .int (u : Int)]
  | .road u v => .tup [.str "road", .int (u : Int), .int (v : Int)]
theorem s_ii : fEq2 (.str "in") (.str "in") = some (.bl true) := by kernel_rfl
theorem s_io : fEq2 (.str "in") (.str "out") = some (.bl false) := by kernel_rfl
theorem s_ir : fEq2 (.str "in") (.str "road") = some (.bl false) := by kernel_rfl
theorem s_oi : fEq2 (.str "out") (.str "in") = some (.bl false) := by kernel_rfl
theorem s_oo : fEq2 (.str "out") (.str "out") = some (.bl true) := by kernel_rfl
theorem s_or : fEq2 (.str "out") (.str "road") = some (.bl false) := by kernel_rfl
theorem s_ri : fEq2 (.str "road") (.str "in") = some (.bl false) := by kernel_rfl
theorem s_ro : fEq2 (.str "road") (.str "out") = some (.bl false) := by kernel_rfl
theorem s_rr : fEq2 (.str "road") (.str "road") = some (.bl true) := by kernel_rfl
theorem s_Ii : fEq2 (.str "In") (.str "in") = some (.bl false) := by kernel_rfl
theorem s_Io : fEq2 (.str "In") (.str "out") = some (.bl false) := by kernel_rfl
theorem s_Ir : fEq2 (.str "In") (.str "road") = some (.bl false) := by kernel_rfl
def badM : List D := [.tup [.str "in", .int (-1)], .tup [.str "out", .bl true], .tup [.str "in"], .tup [.str "in", .int 0, .int 1], .non, .lst [.str "in", .int 0], .str "in", .tup [.str "road", .int 0], .tup [.int 0, .str "in"], .tup [.str "In", .int 0], .tup [.dic [] [], .int 0], .tup [.str "out", .non], .tup [.str "road", .int 0, .bl true], .tup [.str "road", .bl false, .int 1]]
def isMv (r : Raw) : Mv → Bool
  | .inn u => decide (u ∈ r.ins)
  | .out u => decide (u ∈ r.outs)
  | .road u v => decide ((u, v) ∈ r.ways)
theorem in_cells (i : Nat) (xs : List Nat) : fIn (.int (i : Int)) (cellsD xs) = some (.bl (decide (i ∈ xs))) := by
  unfold cellsD
  rw [in_nt, any_nat]
  congr 2
  rw [Bool.eq_iff_iff]
  simp [mem_srtU]
theorem in_roads (u v : Nat) (xs : List (Nat × Nat)) : fIn (.tup [.int (u : Int), .int (v : Int)]) (roadsD xs) = some (.bl (decide ((u, v) ∈ xs))) := by
  unfold roadsD
  rw [in_wt, any_way]
  congr 2
  rw [Bool.eq_iff_iff]
  simp [mem_srtU]
local macro_rules | `(tactic| decreasing_trivial) => `(tactic| repeat (first
  | with_reducible refine w_cells ?_ | with_reducible refine w_roads ?_ | with_reducible refine w_entries ?_ | with_reducible refine w_exits ?_
  | ((with_reducible apply w_val); exact rfl) | ((with_reducible apply w_cel); exact rfl) | with_reducible refine w_c ?_ | with_reducible refine w_op2 ?_ | with_reducible refine w_cons ?_ | with_reducible refine w_nil ?_ | with_reducible refine w_tst ?_ | with_reducible refine w_call ?_ | with_reducible refine w_ix ?_ | with_reducible refine w_bnot ?_ | with_reducible refine w_band ?_ | with_reducible refine w_bor ?_ | with_reducible refine ws_seq ?_ | with_reducible refine ws_asg ?_ | with_reducible refine ws_if ?_ | with_reducible refine ws_ret ?_ | with_reducible refine ws_expr ?_ | with_reducible refine ws_nx ?_ | with_reducible refine w_and ?_ | with_reducible refine w_or ?_ | with_reducible refine w_not ?_ | with_reducible refine w_eif ?_ | with_reducible refine w_tup ?_ | with_reducible refine w_lst ?_ | with_reducible refine w_fld ?_ | with_reducible refine w_cut ?_ | with_reducible refine w_onone ?_ | with_reducible refine w_osome ?_ | with_reducible refine w_fn ?_ | with_reducible refine w_fnK ?_ | with_reducible refine w_mkK ?_ | with_reducible refine w_meth ?_ | with_reducible refine w_comp ?_ | with_reducible refine w_seq ?_ | with_reducible refine w_en ?_ | with_reducible refine w_rg1 ?_ | with_reducible refine w_rg2 ?_ | with_reducible refine w_isi ?_ | with_reducible refine w_isLT ?_ | with_reducible refine w_isOwn ?_ | with_reducible refine w_ss ?_ | with_reducible refine w_chain ?_ | with_reducible refine w_un ?_ | with_reducible refine w_neg ?_ | with_reducible refine w_rep ?_ | with_reducible refine w_lrg ?_ | with_reducible refine w_lrg1 ?_ | with_reducible refine w_tm ?_ | with_reducible refine w_true ?_ | with_reducible refine ws_par ?_ | with_reducible refine w_pcons ?_ | with_reducible refine w_pnil ?_ | with_reducible refine ws_for ?_ | with_reducible refine ws_retN ?_ | with_reducible refine ws_sub ?_ | with_reducible refine ws_fld ?_ | with_reducible refine ws_raise ?_ | with_reducible refine ws_raise2 ?_ | with_reducible refine ws_bk ?_ | with_reducible refine ws_ct ?_ | ((with_reducible apply w_lm); exact rfl)
  | refine ⟨_, _, rfl, rfl, Nat.le_of_ble_eq_true rfl, ?_⟩ | refine ⟨_, _, _, _, rfl, rfl, rfl, (by decide), ?_⟩ | refine ⟨_, _, _, _, rfl, rfl, rfl, ?_⟩ | refine ⟨_, _, _, rfl, rfl, (by decide), ?_⟩ | refine ⟨_, _, _, rfl, rfl, rfl, ?_⟩ | refine ⟨_, _, _, rfl, rfl, ?_⟩ | refine ⟨_, _, rfl, rfl, ?_⟩ | refine ⟨_, _, (rfl : frz _ _ = some (R.ok _ _)), ?_⟩ | refine ⟨_, _, (rfl : stk _ _ = some (R.ok _ _)), ?_⟩ | refine ⟨_, rfl, ?_⟩ | refine ⟨_, _, rfl, Nat.le_of_ble_eq_true rfl, ?_⟩
  | ((with_reducible apply ite_T); exact rfl) | ((with_reducible apply ite_F); exact rfl) | exact ⟨rfl, rfl⟩ | refine ws_seq ?_ | refine ws_if ?_ | refine ws_ret ?_ | refine ws_for ?_ | refine ws_asg ?_ | refine w_c ?_))
local macro_rules | `(tactic| decreasing_trivial) => `(tactic| repeat (first
  | with_reducible refine w_cells ?_ | with_reducible refine w_roads ?_ | with_reducible refine w_entries ?_ | with_reducible refine w_exits ?_ | refine ⟨_, _, _, rfl, rfl, (by with_reducible (first | exact s_ii | exact s_io | exact s_ir | exact s_oi | exact s_oo | exact s_or | exact s_ri | exact s_ro | exact s_rr | exact s_Ii | exact s_Io | exact s_Ir | exact in_cells _ _ | exact in_roads _ _ _)), ?_⟩
  | ((with_reducible apply w_val); exact rfl) | ((with_reducible apply w_cel); exact rfl) | with_reducible refine w_c ?_ | with_reducible refine w_op2 ?_ | with_reducible refine w_cons ?_ | with_reducible refine w_nil ?_ | with_reducible refine w_tst ?_ | with_reducible refine w_call ?_ | with_reducible refine w_ix ?_ | with_reducible refine w_bnot ?_ | with_reducible refine w_band ?_ | with_reducible refine w_bor ?_ | with_reducible refine ws_seq ?_ | with_reducible refine ws_asg ?_ | with_reducible refine ws_if ?_ | with_reducible refine ws_ret ?_ | with_reducible refine ws_expr ?_ | with_reducible refine ws_nx ?_ | with_reducible refine w_and ?_ | with_reducible refine w_or ?_ | with_reducible refine w_not ?_ | with_reducible refine w_eif ?_ | with_reducible refine w_tup ?_ | with_reducible refine w_lst ?_ | with_reducible refine w_fld ?_ | with_reducible refine w_cut ?_ | with_reducible refine w_onone ?_ | with_reducible refine w_osome ?_ | with_reducible refine w_fn ?_ | with_reducible refine w_fnK ?_ | with_reducible refine w_mkK ?_ | with_reducible refine w_meth ?_ | with_reducible refine w_comp ?_ | with_reducible refine w_seq ?_ | with_reducible refine w_en ?_ | with_reducible refine w_rg1 ?_ | with_reducible refine w_rg2 ?_ | with_reducible refine w_isi ?_ | with_reducible refine w_isLT ?_ | with_reducible refine w_isOwn ?_ | with_reducible refine w_ss ?_ | with_reducible refine w_chain ?_ | with_reducible refine w_un ?_ | with_reducible refine w_neg ?_ | with_reducible refine w_rep ?_ | with_reducible refine w_lrg ?_ | with_reducible refine w_lrg1 ?_ | with_reducible refine w_tm ?_ | with_reducible refine w_true ?_ | with_reducible refine ws_par ?_ | with_reducible refine w_pcons ?_ | with_reducible refine w_pnil ?_ | with_reducible refine ws_for ?_ | with_reducible refine ws_retN ?_ | with_reducible refine ws_sub ?_ | with_reducible refine ws_fld ?_ | with_reducible refine ws_raise ?_ | with_reducible refine ws_raise2 ?_ | with_reducible refine ws_bk ?_ | with_reducible refine ws_ct ?_ | ((with_reducible apply w_lm); exact rfl)
  | refine ⟨_, _, rfl, rfl, Nat.le_of_ble_eq_true rfl, ?_⟩ | refine ⟨_, _, _, _, rfl, rfl, rfl, (by decide), ?_⟩ | refine ⟨_, _, _, _, rfl, rfl, rfl, ?_⟩ | refine ⟨_, _, _, rfl, rfl, (by decide), ?_⟩ | refine ⟨_, _, _, rfl, rfl, rfl, ?_⟩ | refine ⟨_, _, _, rfl, rfl, ?_⟩ | refine ⟨_, _, rfl, rfl, ?_⟩ | refine ⟨_, _, (rfl : frz _ _ = some (R.ok _ _)), ?_⟩ | refine ⟨_, _, (rfl : stk _ _ = some (R.ok _ _)), ?_⟩ | refine ⟨_, rfl, ?_⟩ | refine ⟨_, _, rfl, Nat.le_of_ble_eq_true rfl, ?_⟩
  | ((with_reducible apply ite_T); exact rfl) | ((with_reducible apply ite_F); exact rfl) | exact ⟨rfl, rfl⟩ | refine ws_seq ?_ | refine ws_if ?_ | refine ws_ret ?_ | refine ws_for ?_ | refine ws_asg ?_ | refine w_c ?_))
theorem ismove_ev {r : Raw} {m k : Nat} (h : r.Ok m k) (mv : Mv) : f_is_move [.val (yardD r), .val mv.d] = some (.ret false (.bl (isMv r mv)) []) := by
  refine fn_rt [.val (yardD r), .val mv.d] ?_
  cases mv with
  | inn u =>
    decreasing_trivial
    refine ite_B (fun g => ?_) fun g => ?_
    · have g : ¬ u < r.n := fun q => by
        rw [decide_eq_true (show (u : Int) < (r.n : Int) by omega)] at g
        cases g
      have z : isMv r (.inn u) = false := decide_eq_false fun q => g (h.i u q)
      decreasing_trivial
      rw [z]
      exact ⟨rfl, rfl⟩
    · decreasing_trivial
  | out u =>
    decreasing_trivial
    refine ite_B (fun g => ?_) fun g => ?_
    · have g : ¬ u < r.n := fun q => by
        rw [decide_eq_true (show (u : Int) < (r.n : Int) by omega)] at g
        cases g
      have z : isMv r (.out u) = false := decide_eq_false fun q => g (h.o u q)
      decreasing_trivial
      rw [z]
      exact ⟨rfl, rfl⟩
    · decreasing_trivial
  | road u v =>
    decreasing_trivial
    refine w_fnL (isroad_int (u : Int) (v : Int) (r.n : Int)) ?_
    decreasing_trivial
    refine ite_B (fun g => ?_) fun g => ?_
    · decreasing_trivial
      exact ⟨_, _, _, rfl, rfl, in_roads u v r.ways, rfl, rfl⟩
    · have g : ¬ (u < r.n ∧ v < r.n ∧ u ≠ v) := fun q => by
        rw [decide_eq_true (by omega)] at g
        cases g
      have z : isMv r (.road u v) = false := decide_eq_false fun q => g (h.w _ q)
      decreasing_trivial
      rw [z]
      exact ⟨rfl, rfl⟩
theorem badmove_ev {r : Raw} {m k : Nat} (h : r.Ok m k) : ∀ d ∈ badM, f_is_move [.val (yardD r), .val d] = some (.ret false (.bl false) []) := by
  have h1 := h.n1
  have i0 : f_is_cell [.val (.int 0), .val (.int (r.n : Int))] = some (.ret false (.bl true) []) := iscell_nat (i := 0) (by omega)
  intro d hd
  simp only [badM, List.mem_cons, List.not_mem_nil, or_false] at hd
  rcases hd with rfl | rfl | rfl | rfl | rfl | rfl | rfl | rfl | rfl | rfl | rfl | rfl | rfl | rfl
  · refine fn_rt [.val (yardD r), _] ?_
    decreasing_trivial
  · refine fn_rt [.val (yardD r), _] ?_
    decreasing_trivial
  · refine fn_rt [.val (yardD r), _] ?_
    decreasing_trivial
  · refine fn_rt [.val (yardD r), _] ?_
    decreasing_trivial
  · refine fn_rt [.val (yardD r), _] ?_
    decreasing_trivial
  · refine fn_rt [.val (yardD r), _] ?_
    decreasing_trivial
  · refine fn_rt [.val (yardD r), _] ?_
    decreasing_trivial
  · refine fn_rt [.val (yardD r), _] ?_
    decreasing_trivial
  · refine fn_rt [.val (yardD r), _] ?_
    decreasing_trivial
  · refine fn_rt [.val (yardD r), _] ?_
    decreasing_trivial
    refine ite_B (fun g => ?_) fun g => ?_
    · decreasing_trivial
    · decreasing_trivial
  · refine fn_rt [.val (yardD r), _] ?_
    decreasing_trivial
  · refine fn_rt [.val (yardD r), _] ?_
    decreasing_trivial
  · have e : f_is_road [.val (.tup [.int 0, .bl true]), .val (.int (r.n : Int))] = some (.ret false (.bl false) []) := by
      refine fn_rt [.val (.tup [.int 0, .bl true]), .val (.int (r.n : Int))] ?_
      decreasing_trivial
      refine ite_B (fun g => ?_) fun g => ?_
      · decreasing_trivial
      · decreasing_trivial
    refine fn_rt [.val (yardD r), _] ?_
    decreasing_trivial
    refine w_fnL e ?_
    decreasing_trivial
  · have e : f_is_road [.val (.tup [.bl false, .int 1]), .val (.int (r.n : Int))] = some (.ret false (.bl false) []) := by
      refine fn_rt [.val (.tup [.bl false, .int 1]), .val (.int (r.n : Int))] ?_
      decreasing_trivial
    refine fn_rt [.val (yardD r), _] ?_
    decreasing_trivial
end LAW

set_option Elab.async false
set_option linter.all false
set_option maxRecDepth 100000
set_option maxHeartbeats 4000000
namespace LAW
open PySem Z
local macro_rules | `(tactic| decreasing_trivial) => `(tactic| repeat (first
  | ((with_reducible apply w_val); exact rfl) | ((with_reducible apply w_cel); exact rfl) | with_reducible refine w_c ?_ | with_reducible refine w_op2 ?_ | with_reducible refine w_cons ?_ | with_reducible refine w_nil ?_ | with_reducible refine w_tst ?_ | with_reducible refine w_call ?_ | with_reducible refine w_ix ?_ | with_reducible refine w_bnot ?_ | with_reducible refine w_band ?_ | with_reducible refine w_bor ?_ | with_reducible refine ws_seq ?_ | with_reducible refine ws_asg ?_ | with_reducible refine ws_if ?_ | with_reducible refine ws_ret ?_ | with_reducible refine ws_expr ?_ | with_reducible refine ws_nx ?_ | with_reducible refine w_and ?_ | with_reducible refine w_or ?_ | with_reducible refine w_not ?_ | with_reducible refine w_eif ?_ | with_reducible refine w_tup ?_ | with_reducible refine w_lst ?_ | with_reducible refine w_fld ?_ | with_reducible refine w_cut ?_ | with_reducible refine w_onone ?_ | with_reducible refine w_osome ?_ | with_reducible refine w_fn ?_ | with_reducible refine w_fnK ?_ | with_reducible refine w_mkK ?_ | with_reducible refine w_meth ?_ | with_reducible refine w_comp ?_ | with_reducible refine w_seq ?_ | with_reducible refine w_en ?_ | with_reducible refine w_rg1 ?_ | with_reducible refine w_rg2 ?_ | with_reducible refine w_isi ?_ | with_reducible refine w_isLT ?_ | with_reducible refine w_isOwn ?_ | with_reducible refine w_ss ?_ | with_reducible refine w_chain ?_ | with_reducible refine w_un ?_ | with_reducible refine w_neg ?_ | with_reducible refine w_rep ?_ | with_reducible refine w_lrg ?_ | with_reducible refine w_lrg1 ?_ | with_reducible refine w_tm ?_ | with_reducible refine w_true ?_ | with_reducible refine ws_par ?_ | with_reducible refine w_pcons ?_ | with_reducible refine w_pnil ?_ | with_reducible refine ws_for ?_ | with_reducible refine ws_retN ?_ | with_reducible refine ws_sub ?_ | with_reducible refine ws_fld ?_ | with_reducible refine ws_raise ?_ | with_reducible refine ws_raise2 ?_ | with_reducible refine ws_bk ?_ | with_reducible refine ws_ct ?_ | ((with_reducible apply w_lm); exact rfl)
  | refine ⟨_, _, rfl, rfl, Nat.le_of_ble_eq_true rfl, ?_⟩ | refine ⟨_, _, _, _, rfl, rfl, rfl, (by decide), ?_⟩ | refine ⟨_, _, _, _, rfl, rfl, rfl, ?_⟩ | refine ⟨_, _, _, rfl, rfl, (by decide), ?_⟩ | refine ⟨_, _, _, rfl, rfl, rfl, ?_⟩ | refine ⟨_, _, _, rfl, rfl, ?_⟩ | refine ⟨_, _, rfl, rfl, ?_⟩ | refine ⟨_, _, (rfl : frz _ _ = some (R.ok _ _)), ?_⟩ | refine ⟨_, _, (rfl : stk _ _ = some (R.ok _ _)), ?_⟩ | refine ⟨_, rfl, ?_⟩ | refine ⟨_, _, rfl, Nat.le_of_ble_eq_true rfl, ?_⟩
  | ((with_reducible apply ite_T); exact rfl) | ((with_reducible apply ite_F); exact rfl) | exact ⟨rfl, rfl⟩ | refine ws_seq ?_ | refine ws_if ?_ | refine ws_ret ?_ | refine ws_for ?_ | refine ws_asg ?_ | refine w_c ?_))
/-! what moves do -/
def blk (cells : List Nat) : Mv → Option Nat
  | .inn u => if cells.getD u 0 = 0 then none else some u
  | .out u => if cells.getD u 0 = 0 then some u else none
  | .road u v => if cells.getD u 0 = 0 then some u else if cells.getD v 0 = 0 then none else some v
def onD : Option Nat → D
  | some u => .int (u : Int)
  | none => .non
def cD (cells : List Nat) : D := .tup (cells.map nD)
def ap (cells : List Nat) (item : Nat) : Mv → List Nat
  | .inn u => cells.set u item
  | .out u => cells.set u 0
  | .road u v => (cells.set u 0).set v (cells.getD u 0)
theorem at_c {cells : List Nat} {u : Nat} (h : u < cells.length) : fIx (cD cells) (.int (u : Int)) = some (.int ((cells.getD u 0 : Nat) : Int)) := by
  show L2.atI (cells.map nD) (u : Int) = _
  rw [atI_nat (by rw [List.length_map]; exact h), List.getElem?_map, List.getElem?_eq_getElem h]
  rw [List.getD_eq_getElem?_getD, List.getElem?_eq_getElem h]
  rfl
theorem at_l {cells : List Nat} {u : Nat} (h : u < cells.length) : fIx (.lst (cells.map nD)) (.int (u : Int)) = some (.int ((cells.getD u 0 : Nat) : Int)) := at_c h
theorem eqv_z (i : Nat) : PyData.eqv (.int (i : Int)) (.int 0) = decide (i = 0) := eqv_nat i 0
theorem ne_nat (i j : Nat) : fNe (.int (i : Int)) (.int (j : Int)) = some (.bl (!decide (i = j))) := by
  show some (D.bl (!((i : Int) == (j : Int)))) = _
  congr 3
  rw [Bool.eq_iff_iff]
  simp only [beq_iff_eq, decide_eq_true_eq]
  omega
theorem cut_to' {cells : List Nat} {u : Nat} (h : u ≤ cells.length) : fCut (cD cells) none (some (u : Int)) = some (.tup ((cells.take u).map nD)) := by
  show some (D.tup (cutD (cells.map nD) none (some (u : Int)))) = _
  rw [cut_to (by rw [List.length_map]; exact h), List.map_take]
theorem cut_from' {cells : List Nat} {u : Nat} (h : u ≤ cells.length) : fCut (cD cells) (some (u : Int)) none = some (.tup ((cells.drop u).map nD)) := by
  show some (D.tup (cutD (cells.map nD) (some (u : Int)) none)) = _
  rw [cut_from (by rw [List.length_map]; exact h), List.map_drop]
theorem fAdd_t {xs ys : List D} (h : xs.length + ys.length ≤ 1000) : fAdd (.tup xs) (.tup ys) = some (.tup (xs ++ ys)) := by
  show orD none (orD none (orD (fCatT (.tup xs) (.tup ys)) _)) = _
  have : fCatT (.tup xs) (.tup ys) = some (.tup (xs ++ ys)) := by
    unfold fCatT
    simp only [szOk h, if_true]
  rw [this]
  rfl
theorem set_cut {α : Type} {l : List α} {i : Nat} {a : α} (h : i < l.length) : l.take i ++ [a] ++ l.drop (i + 1) = l.set i a := by
  rw [List.set_eq_take_append_cons_drop, if_pos h, List.append_assoc]
  rfl
theorem with_ev {cells : List Nat} {u item : Nat} (h : u < cells.length) (hl : cells.length ≤ 100) : f_with_cell [.val (cD cells), .val (.int (u : Int)), .val (.int (item : Int))] = some (.ret false (cD (cells.set u item)) []) := by
  refine fn_rt [.val (cD cells), .val (.int (u : Int)), .val (.int (item : Int))] ?_
  refine ws_ret (w_op2 (w_op2 (w_cut (w_val rfl (w_onone (w_osome (w_val rfl ⟨_, rfl, _, _, rfl, cut_to' (by omega), w_tup (w_cons (w_val rfl (w_nil ⟨_, _, rfl, Nat.le_of_ble_eq_true rfl, ?_⟩)))⟩)))))))
  refine ⟨_, _, _, rfl, rfl, fAdd_t ?_, ?_⟩
  · rw [List.length_map, List.length_take, List.length_singleton]
    omega
  refine w_cut (w_val rfl (w_osome (w_op2 (w_val rfl (w_c ⟨_, _, _, rfl, rfl, rfl, ⟨_, rfl, w_onone ⟨_, .tup ((cells.drop (u + 1)).map nD), rfl, cut_from' (u := u + 1) (by omega), ?_⟩⟩⟩)))))
  · refine ⟨_, _, _, rfl, rfl, fAdd_t ?_, ?_⟩
    · rw [List.length_append, List.length_map, List.length_map, List.length_take, List.length_drop, List.length_singleton]
      omega
    · have z : List.map nD (cells.take u) ++ [D.int (item : Int)] ++ List.map nD (cells.drop (u + 1)) = (cells.set u item).map nD := by
        rw [← set_cut h, List.map_append, List.map_append]
        rfl
      rw [z]
      exact ⟨rfl, rfl⟩
theorem empty_ev {r : Raw} {m k : Nat} (h : r.Ok m k) (hm : m ≤ 100) : f_empty_of [.val (yardD r)] = some (.ret false (cD (List.replicate r.n 0)) []) := by
  have h1 := h.n1
  have h2 := h.nm
  refine fn_rt [.val (yardD r)] ?_
  refine ws_ret (w_op2 (w_tup (w_cons (w_c (w_nil ⟨_, _, rfl, Nat.le_of_ble_eq_true rfl, w_cells (w_val rfl ⟨_, rfl, ?_⟩)⟩)))))
  refine ⟨_, _, .tup (List.replicate r.n (.int 0)), rfl, rfl, ?_, ?_⟩
  · show orD none (fRepT (.tup [.int 0]) (.int (r.n : Int))) = _
    unfold fRepT
    simp only
    rw [if_pos ⟨by omega, by omega, by decide⟩]
    show some (D.tup (List.replicate (r.n : Int).toNat [D.int 0]).flatten) = _
    have z : (r.n : Int).toNat = r.n := by omega
    rw [z]
    congr 2
    have : ∀ n : Nat, (List.replicate n [D.int 0]).flatten = List.replicate n (D.int 0) := fun n => by
      induction n with
      | zero => rfl
      | succ n ih => rw [List.replicate_succ, List.flatten_cons, ih]; rfl
    exact this r.n
  · have z : List.replicate r.n (D.int 0) = (List.replicate r.n 0).map nD := by
      rw [List.map_replicate]
      rfl
    rw [z]
    exact ⟨rfl, rfl⟩
theorem require_yard_ev (r : Raw) : f_require_yard [.val (yardD r)] = some (.ret false .non []) := by
  refine fn_rt [.val (yardD r)] ?_
  refine ws_if (w_bnot (w_tst (w_isOwn (w_val rfl ⟨_, true, rfl, ?_, ⟨_, rfl, ite_F rfl (ws_nx ⟨rfl, rfl, rfl⟩)⟩⟩))))
  kernel_rfl
def mvIn (n : Nat) : Mv → Prop
  | .inn u => u < n
  | .out u => u < n
  | .road u v => u < n ∧ v < n
theorem isMv_in {r : Raw} {m k : Nat} (h : r.Ok m k) {mv : Mv} (e : isMv r mv = true) : mvIn r.n mv := by
  cases mv with
  | inn u => exact h.i u (of_decide_eq_true e)
  | out u => exact h.o u (of_decide_eq_true e)
  | road u v =>
    have := h.w (u, v) (of_decide_eq_true e)
    exact ⟨this.1, this.2.1⟩
local macro_rules | `(tactic| decreasing_trivial) => `(tactic| repeat (first
  | refine ⟨_, _, _, rfl, rfl, (by with_reducible (first | exact s_ii | exact s_io | exact s_ir | exact s_oi | exact s_oo | exact s_or | exact s_ri | exact s_ro | exact s_rr)), ?_⟩
  | ((with_reducible apply w_val); exact rfl) | ((with_reducible apply w_cel); exact rfl) | with_reducible refine w_c ?_ | with_reducible refine w_op2 ?_ | with_reducible refine w_cons ?_ | with_reducible refine w_nil ?_ | with_reducible refine w_tst ?_ | with_reducible refine w_call ?_ | with_reducible refine w_ix ?_ | with_reducible refine w_bnot ?_ | with_reducible refine w_band ?_ | with_reducible refine w_bor ?_ | with_reducible refine ws_seq ?_ | with_reducible refine ws_asg ?_ | with_reducible refine ws_if ?_ | with_reducible refine ws_ret ?_ | with_reducible refine ws_expr ?_ | with_reducible refine ws_nx ?_ | with_reducible refine w_and ?_ | with_reducible refine w_or ?_ | with_reducible refine w_not ?_ | with_reducible refine w_eif ?_ | with_reducible refine w_tup ?_ | with_reducible refine w_lst ?_ | with_reducible refine w_fld ?_ | with_reducible refine w_cut ?_ | with_reducible refine w_onone ?_ | with_reducible refine w_osome ?_ | with_reducible refine w_fn ?_ | with_reducible refine w_fnK ?_ | with_reducible refine w_mkK ?_ | with_reducible refine w_meth ?_ | with_reducible refine w_comp ?_ | with_reducible refine w_seq ?_ | with_reducible refine w_en ?_ | with_reducible refine w_rg1 ?_ | with_reducible refine w_rg2 ?_ | with_reducible refine w_isi ?_ | with_reducible refine w_isLT ?_ | with_reducible refine w_isOwn ?_ | with_reducible refine w_ss ?_ | with_reducible refine w_chain ?_ | with_reducible refine w_un ?_ | with_reducible refine w_neg ?_ | with_reducible refine w_rep ?_ | with_reducible refine w_lrg ?_ | with_reducible refine w_lrg1 ?_ | with_reducible refine w_tm ?_ | with_reducible refine w_true ?_ | with_reducible refine ws_par ?_ | with_reducible refine w_pcons ?_ | with_reducible refine w_pnil ?_ | with_reducible refine ws_for ?_ | with_reducible refine ws_retN ?_ | with_reducible refine ws_sub ?_ | with_reducible refine ws_fld ?_ | with_reducible refine ws_raise ?_ | with_reducible refine ws_raise2 ?_ | with_reducible refine ws_bk ?_ | with_reducible refine ws_ct ?_ | ((with_reducible apply w_lm); exact rfl)
  | refine ⟨_, _, rfl, rfl, Nat.le_of_ble_eq_true rfl, ?_⟩ | refine ⟨_, _, _, _, rfl, rfl, rfl, (by decide), ?_⟩ | refine ⟨_, _, _, _, rfl, rfl, rfl, ?_⟩ | refine ⟨_, _, _, rfl, rfl, (by decide), ?_⟩ | refine ⟨_, _, _, rfl, rfl, rfl, ?_⟩ | refine ⟨_, _, _, rfl, rfl, ?_⟩ | refine ⟨_, _, rfl, rfl, ?_⟩ | refine ⟨_, _, (rfl : frz _ _ = some (R.ok _ _)), ?_⟩ | refine ⟨_, _, (rfl : stk _ _ = some (R.ok _ _)), ?_⟩ | refine ⟨_, rfl, ?_⟩ | refine ⟨_, _, rfl, Nat.le_of_ble_eq_true rfl, ?_⟩
  | ((with_reducible apply ite_T); exact rfl) | ((with_reducible apply ite_F); exact rfl) | exact ⟨rfl, rfl⟩ | refine ws_seq ?_ | refine ws_if ?_ | refine ws_ret ?_ | refine ws_for ?_ | refine ws_asg ?_ | refine w_c ?_))
theorem blocked_ev {cells : List Nat} {mv : Mv} (h : mvIn cells.length mv) : f_blocked_at [.val (cD cells), .val mv.d] = some (.ret false (onD (blk cells mv)) []) := by
  refine fn_rt [.val (cD cells), .val mv.d] ?_
  cases mv with
  | inn u =>
    have c := at_c (cells := cells) (u := u) h
    decreasing_trivial
    refine ⟨_, _, _, rfl, rfl, c, ?_⟩
    decreasing_trivial
    rw [eqv_z]
    by_cases g : cells.getD u 0 = 0
    · refine ite_F (by rw [decide_eq_true g]; rfl) ?_
      decreasing_trivial
      simp only [blk]
      rw [if_pos g]
      exact ⟨rfl, rfl⟩
    · refine ite_T (by rw [decide_eq_false g]; rfl) ?_
      decreasing_trivial
      simp only [blk]
      rw [if_neg g]
      exact ⟨rfl, rfl⟩
  | out u =>
    have c := at_c (cells := cells) (u := u) h
    decreasing_trivial
    refine ⟨_, _, _, rfl, rfl, c, ?_⟩
    decreasing_trivial
    rw [eqv_z]
    by_cases g : cells.getD u 0 = 0
    · refine ite_T (decide_eq_true g) ?_
      decreasing_trivial
      simp only [blk]
      rw [if_pos g]
      exact ⟨rfl, rfl⟩
    · refine ite_F (decide_eq_false g) ?_
      decreasing_trivial
      simp only [blk]
      rw [if_neg g]
      exact ⟨rfl, rfl⟩
  | road u v =>
    have c := at_c (cells := cells) (u := u) h.1
    have c2 := at_c (cells := cells) (u := v) h.2
    decreasing_trivial
    refine ⟨_, _, _, rfl, rfl, c, ?_⟩
    decreasing_trivial
    rw [eqv_z]
    by_cases g : cells.getD u 0 = 0
    · refine ite_T (decide_eq_true g) ?_
      decreasing_trivial
      simp only [blk]
      rw [if_pos g]
      exact ⟨rfl, rfl⟩
    · refine ite_F (decide_eq_false g) ?_
      decreasing_trivial
      refine ⟨_, _, _, rfl, rfl, c2, ?_⟩
      decreasing_trivial
      rw [eqv_z]
      by_cases g2 : cells.getD v 0 = 0
      · refine ite_F (by rw [decide_eq_true g2]; rfl) ?_
        decreasing_trivial
        simp only [blk]
        rw [if_neg g, if_pos g2]
        exact ⟨rfl, rfl⟩
      · refine ite_T (by rw [decide_eq_false g2]; rfl) ?_
        decreasing_trivial
        simp only [blk]
        rw [if_neg g, if_neg g2]
        exact ⟨rfl, rfl⟩
theorem moved_ev {cells : List Nat} {mv : Mv} {item : Nat} (h : mvIn cells.length mv) (hl : cells.length ≤ 100) : f_moved [.val (cD cells), .val mv.d, .val (.int (item : Int))] = some (.ret false (cD (ap cells item mv)) []) := by
  refine fn_rt [.val (cD cells), .val mv.d, .val (.int (item : Int))] ?_
  cases mv with
  | inn u =>
    decreasing_trivial
    refine w_fnL (with_ev (item := item) h hl) ?_
    decreasing_trivial
  | out u =>
    decreasing_trivial
    refine w_fnL (with_ev (item := 0) h hl) ?_
    decreasing_trivial
  | road u v =>
    decreasing_trivial
    refine w_fnL (with_ev (item := 0) h.1 hl) ?_
    decreasing_trivial
    refine ⟨_, _, _, rfl, rfl, at_c h.1, ?_⟩
    decreasing_trivial
    refine w_fnL (with_ev (cells := cells.set u 0) (item := cells.getD u 0) (by rw [List.length_set]; exact h.2) (by rw [List.length_set]; exact hl)) ?_
    decreasing_trivial
end LAW

set_option Elab.async false
set_option linter.all false
set_option maxRecDepth 100000
set_option maxHeartbeats 4000000
namespace LAW
open PySem Z
local macro_rules | `(tactic| decreasing_trivial) => `(tactic| repeat (first
  | ((with_reducible apply w_val); exact rfl) | ((with_reducible apply w_cel); exact rfl) | with_reducible refine w_c ?_ | with_reducible refine w_op2 ?_ | with_reducible refine w_cons ?_ | with_reducible refine w_nil ?_ | with_reducible refine w_tst ?_ | with_reducible refine w_call ?_ | with_reducible refine w_ix ?_ | with_reducible refine w_bnot ?_ | with_reducible refine w_band ?_ | with_reducible refine w_bor ?_ | with_reducible refine ws_seq ?_ | with_reducible refine ws_asg ?_ | with_reducible refine ws_if ?_ | with_reducible refine ws_ret ?_ | with_reducible refine ws_expr ?_ | with_reducible refine ws_nx ?_ | with_reducible refine w_and ?_ | with_reducible refine w_or ?_ | with_reducible refine w_not ?_ | with_reducible refine w_eif ?_ | with_reducible refine w_tup ?_ | with_reducible refine w_lst ?_ | with_reducible refine w_fld ?_ | with_reducible refine w_cut ?_ | with_reducible refine w_onone ?_ | with_reducible refine w_osome ?_ | with_reducible refine w_fn ?_ | with_reducible refine w_fnK ?_ | with_reducible refine w_mkK ?_ | with_reducible refine w_meth ?_ | with_reducible refine w_comp ?_ | with_reducible refine w_seq ?_ | with_reducible refine w_en ?_ | with_reducible refine w_rg1 ?_ | with_reducible refine w_rg2 ?_ | with_reducible refine w_isi ?_ | with_reducible refine w_isLT ?_ | with_reducible refine w_isOwn ?_ | with_reducible refine w_ss ?_ | with_reducible refine w_chain ?_ | with_reducible refine w_un ?_ | with_reducible refine w_neg ?_ | with_reducible refine w_rep ?_ | with_reducible refine w_lrg ?_ | with_reducible refine w_lrg1 ?_ | with_reducible refine w_tm ?_ | with_reducible refine w_true ?_ | with_reducible refine ws_par ?_ | with_reducible refine w_pcons ?_ | with_reducible refine w_pnil ?_ | with_reducible refine ws_for ?_ | with_reducible refine ws_retN ?_ | with_reducible refine ws_sub ?_ | with_reducible refine ws_fld ?_ | with_reducible refine ws_raise ?_ | with_reducible refine ws_raise2 ?_ | with_reducible refine ws_bk ?_ | with_reducible refine ws_ct ?_ | ((with_reducible apply w_lm); exact rfl)
  | refine ⟨_, _, rfl, rfl, Nat.le_of_ble_eq_true rfl, ?_⟩ | refine ⟨_, _, _, _, rfl, rfl, rfl, (by decide), ?_⟩ | refine ⟨_, _, _, _, rfl, rfl, rfl, ?_⟩ | refine ⟨_, _, _, rfl, rfl, (by decide), ?_⟩ | refine ⟨_, _, _, rfl, rfl, rfl, ?_⟩ | refine ⟨_, _, _, rfl, rfl, ?_⟩ | refine ⟨_, _, rfl, rfl, ?_⟩ | refine ⟨_, _, (rfl : frz _ _ = some (R.ok _ _)), ?_⟩ | refine ⟨_, _, (rfl : stk _ _ = some (R.ok _ _)), ?_⟩ | refine ⟨_, rfl, ?_⟩ | refine ⟨_, _, rfl, Nat.le_of_ble_eq_true rfl, ?_⟩
  | ((with_reducible apply ite_T); exact rfl) | ((with_reducible apply ite_F); exact rfl) | exact ⟨rfl, rfl⟩ | refine ws_seq ?_ | refine ws_if ?_ | refine ws_ret ?_ | refine ws_for ?_ | refine ws_asg ?_ | refine w_c ?_))
/-! rows of moves -/
inductive MM | ok (mv : Mv) | bad (d : D)
def MM.d : MM → D
  | .ok mv => mv.d
  | .bad d => d
def badA : List D := badM ++ [.lst [], .dic [] []]
def MM.fine : MM → Prop
  | .ok _ => True
  | .bad d => d ∈ badA
structure St where
  cells : List Nat
  came : Nat
  gone : List Nat
def stepM (r : Raw) (s : St) : MM → Option St
  | .bad _ => none
  | .ok mv => if isMv r mv = true ∧ blk s.cells mv = none then (match mv with
    | .inn u => some ⟨s.cells.set u (s.came + 1), s.came + 1, s.gone⟩
    | .out u => some ⟨s.cells.set u 0, s.came, s.gone ++ [s.cells.getD u 0]⟩
    | .road u v => some ⟨(s.cells.set u 0).set v (s.cells.getD u 0), s.came, s.gone⟩) else none
def st0 (r : Raw) : St := ⟨List.replicate r.n 0, 0, []⟩
def orderIn (r : Raw) (ms : List MM) : Option (List Nat) := match walkL (stepM r) ms (st0 r) with
  | some s => if s.cells = List.replicate r.n 0 then some s.gone else none
  | none => none
def ordD : Option (List Nat) → D
  | some g => .tup (g.map nD)
  | none => .non
theorem eqvAll_n : ∀ xs ys : List Nat, PyData.eqvAll (xs.map nP) (ys.map nP) = decide (xs = ys)
  | [], [] => rfl
  | [], _ :: _ => rfl
  | _ :: _, [] => rfl
  | x :: xs, y :: ys => by
    simp only [List.map_cons, PyData.eqvAll, nP, PyData.eqv]
    rw [eqvAll_n xs ys, Bool.eq_iff_iff]
    simp only [Bool.and_eq_true, beq_iff_eq, decide_eq_true_eq, List.cons.injEq]
    constructor
    · rintro ⟨a, b⟩
      exact ⟨by omega, b⟩
    · rintro ⟨a, b⟩
      exact ⟨by omega, b⟩
theorem eq_cells (xs ys : List Nat) : fEq (cD xs) (cD ys) = some (.bl (decide (xs = ys))) := by
  unfold fEq eqD cD
  simp only [D.py, pys_n, Option.map_some, (shaped_l (lay_n xs)).2, (shaped_l (lay_n ys)).2, and_self, if_true, PyData.eqv, eqvAll_n]
theorem eq_lists (xs ys : List Nat) : fEq (.lst (xs.map nD)) (.lst (ys.map nD)) = some (.bl (decide (xs = ys))) := by
  unfold fEq eqD
  simp only [D.py, pys_n, Option.map_some, (shaped_l (lay_n xs)).1, (shaped_l (lay_n ys)).1, and_self, if_true, PyData.eqv, eqvAll_n]
theorem is_non (o : Option Nat) : fIsN (onD o) .non = some (.bl (decide (o ≠ none))) := by
  cases o <;> rfl
def isMM (r : Raw) : MM → Bool
  | .ok mv => isMv r mv
  | .bad _ => false
theorem ismoveM_ev {r : Raw} {m k : Nat} (h : r.Ok m k) {x : MM} (hf : x.fine) : f_is_move [.val (yardD r), .val x.d] = some (.ret false (.bl (isMM r x)) []) := by
  cases x with
  | ok mv => exact ismove_ev h mv
  | bad d =>
    have hf : d ∈ badM ++ [.lst [], .dic [] []] := hf
    rcases List.mem_append.mp hf with hd | hd
    · exact badmove_ev h d hd
    · simp only [List.mem_cons, List.not_mem_nil, or_false] at hd
      rcases hd with rfl | rfl
      · refine fn_rt [.val (yardD r), _] ?_
        decreasing_trivial
      · refine fn_rt [.val (yardD r), _] ?_
        decreasing_trivial
local macro_rules | `(tactic| decreasing_trivial) => `(tactic| repeat (first
  | refine ⟨_, _, _, rfl, rfl, (by with_reducible (first | exact s_ii | exact s_io | exact s_ir | exact s_oi | exact s_oo | exact s_or | exact s_ri | exact s_ro | exact s_rr)), ?_⟩
  | ((with_reducible apply w_val); exact rfl) | ((with_reducible apply w_cel); exact rfl) | with_reducible refine w_c ?_ | with_reducible refine w_op2 ?_ | with_reducible refine w_cons ?_ | with_reducible refine w_nil ?_ | with_reducible refine w_tst ?_ | with_reducible refine w_call ?_ | with_reducible refine w_ix ?_ | with_reducible refine w_bnot ?_ | with_reducible refine w_band ?_ | with_reducible refine w_bor ?_ | with_reducible refine ws_seq ?_ | with_reducible refine ws_asg ?_ | with_reducible refine ws_if ?_ | with_reducible refine ws_ret ?_ | with_reducible refine ws_expr ?_ | with_reducible refine ws_nx ?_ | with_reducible refine w_and ?_ | with_reducible refine w_or ?_ | with_reducible refine w_not ?_ | with_reducible refine w_eif ?_ | with_reducible refine w_tup ?_ | with_reducible refine w_lst ?_ | with_reducible refine w_fld ?_ | with_reducible refine w_cut ?_ | with_reducible refine w_onone ?_ | with_reducible refine w_osome ?_ | with_reducible refine w_fn ?_ | with_reducible refine w_fnK ?_ | with_reducible refine w_mkK ?_ | with_reducible refine w_meth ?_ | with_reducible refine w_comp ?_ | with_reducible refine w_seq ?_ | with_reducible refine w_en ?_ | with_reducible refine w_rg1 ?_ | with_reducible refine w_rg2 ?_ | with_reducible refine w_isi ?_ | with_reducible refine w_isLT ?_ | with_reducible refine w_isOwn ?_ | with_reducible refine w_ss ?_ | with_reducible refine w_chain ?_ | with_reducible refine w_un ?_ | with_reducible refine w_neg ?_ | with_reducible refine w_rep ?_ | with_reducible refine w_lrg ?_ | with_reducible refine w_lrg1 ?_ | with_reducible refine w_tm ?_ | with_reducible refine w_true ?_ | with_reducible refine ws_par ?_ | with_reducible refine w_pcons ?_ | with_reducible refine w_pnil ?_ | with_reducible refine ws_for ?_ | with_reducible refine ws_retN ?_ | with_reducible refine ws_sub ?_ | with_reducible refine ws_fld ?_ | with_reducible refine ws_raise ?_ | with_reducible refine ws_raise2 ?_ | with_reducible refine ws_bk ?_ | with_reducible refine ws_ct ?_ | ((with_reducible apply w_lm); exact rfl)
  | refine ⟨_, _, rfl, rfl, Nat.le_of_ble_eq_true rfl, ?_⟩ | refine ⟨_, _, _, _, rfl, rfl, rfl, (by decide), ?_⟩ | refine ⟨_, _, _, _, rfl, rfl, rfl, ?_⟩ | refine ⟨_, _, _, rfl, rfl, (by decide), ?_⟩ | refine ⟨_, _, _, rfl, rfl, rfl, ?_⟩ | refine ⟨_, _, _, rfl, rfl, ?_⟩ | refine ⟨_, _, rfl, rfl, ?_⟩ | refine ⟨_, _, (rfl : frz _ _ = some (R.ok _ _)), ?_⟩ | refine ⟨_, _, (rfl : stk _ _ = some (R.ok _ _)), ?_⟩ | refine ⟨_, rfl, ?_⟩ | refine ⟨_, _, rfl, Nat.le_of_ble_eq_true rfl, ?_⟩
  | ((with_reducible apply ite_T); exact rfl) | ((with_reducible apply ite_F); exact rfl) | exact ⟨rfl, rfl⟩ | refine ws_seq ?_ | refine ws_if ?_ | refine ws_ret ?_ | refine ws_for ?_ | refine ws_asg ?_ | refine w_c ?_))
theorem order_in_ev {r : Raw} {m k : Nat} (h : r.Ok m k) (hm : m ≤ 100) (b : Bool) {ms : List MM} (hf : ∀ x ∈ ms, x.fine) (hl : ms.length ≤ 400) : f_order_in [.val (yardD r), .val (isSeq b (ms.map MM.d))] = some (.ret false (ordD (orderIn r ms)) []) := by
  have h2 := h.nm
  refine fn_rt [.val (yardD r), .val (isSeq b (ms.map MM.d)), .no, .no, .no, .no] ?_
  have e1 : isLT (isSeq b (ms.map MM.d)) = some true := by cases b <;> rfl
  have e2 : seqOf (isSeq b (ms.map MM.d)) = some (ms.map MM.d) := by cases b <;> rfl
  refine ws_seq (ws_if (w_bnot (w_tst (w_isLT (w_val rfl ⟨_, _, rfl, e1, ⟨_, rfl, ite_F rfl (ws_nx ?_)⟩⟩)))))
  refine ws_seq (ws_asg (w_fn (w_cons (w_val rfl (w_nil (w_fnL (empty_ev h hm) ⟨_, _, _, _, rfl, rfl, rfl, by decide, ⟨_, rfl, ?_⟩⟩))))))
  refine ws_seq (ws_asg (w_c ⟨_, rfl, ?_⟩))
  refine ws_seq (ws_asg (w_tup (w_nil ⟨_, _, rfl, Nat.le_of_ble_eq_true rfl, ⟨_, rfl, ?_⟩⟩)))
  refine ws_seq (ws_for (w_seq (w_val rfl ⟨_, _, _, rfl, e2, ?_⟩)))
  refine ws_walk MM.d (stepM r) (fun i s ρ => s.cells.length = r.n ∧ s.gone.length ≤ i ∧ ∃ s5, okSlot [s5] 0 = true ∧ ρ = [.val (yardD r), .val (isSeq b (ms.map MM.d)), .val (cD s.cells), .val (.int (s.came : Int)), .val (.tup (s.gone.map nD)), s5])
    (fun x ρ => x = .dat .non ∧ outs [Ar.val (yardD r), Ar.val (isSeq b (ms.map MM.d))] ρ = some []) ms 0 (st0 r) _ ?_ ?_ ?_ ?_
  · exact ⟨List.length_replicate, Nat.le_refl _, .no, rfl, rfl⟩
  · rintro j x hx s ρ ⟨h3, h4, s5, h5, rfl⟩
    have hj : j < ms.length := (List.getElem?_eq_some_iff.mp hx).1
    have hfx := hf x (List.mem_of_getElem? hx)
    refine ⟨[.val (yardD r), .val (isSeq b (ms.map MM.d)), .val (cD s.cells), .val (.int (s.came : Int)), .val (.tup (s.gone.map nD)), .val x.d], ?_, ?_⟩
    · unfold tgName
      rw [if_pos (show okSlot _ 5 = true from h5)]
      rfl
    · refine ws_seq (ws_if (w_bor (w_bnot (w_tst (w_fn (w_cons (w_val rfl ?_)))))))
      refine w_cons (w_val rfl (w_nil ?_))
      refine w_fnL (ismoveM_ev h hfx) ⟨_, _, _, _, rfl, rfl, rfl, by decide, ⟨_, rfl, ?_⟩⟩
      cases x with
      | bad d => exact ite_T rfl (ite_T rfl (ws_ret (w_c ⟨rfl, rfl, rfl⟩)))
      | ok mv =>
        by_cases hv : isMv r mv = true
        · have hin := isMv_in h hv
          have hin' : mvIn s.cells.length mv := by rw [h3]; exact hin
          refine ite_F (by show (!isMv r mv) = false; rw [hv]; rfl) ?_
          refine w_tst (w_op2 (w_fn (w_cons (w_val rfl ?_))))
          refine w_cons (w_val rfl (w_nil ?_))
          refine w_fnL (blocked_ev hin') ⟨_, _, _, _, rfl, rfl, rfl, by decide, w_c ⟨_, _, _, rfl, rfl, is_non _, ⟨_, rfl, ?_⟩⟩⟩
          by_cases hb : blk s.cells mv = none
          · refine ite_F (decide_eq_false (fun q => q hb)) (ws_nx ?_)
            have est : ∀ {s'}, (match mv with
              | .inn u => some (⟨s.cells.set u (s.came + 1), s.came + 1, s.gone⟩ : St)
              | .out u => some ⟨s.cells.set u 0, s.came, s.gone ++ [s.cells.getD u 0]⟩
              | .road u v => some ⟨(s.cells.set u 0).set v (s.cells.getD u 0), s.came, s.gone⟩) = some s' → stepM r s (.ok mv) = some s' := fun {s'} q => by
              show (if isMv r mv = true ∧ blk s.cells mv = none then _ else none) = _
              rw [if_pos ⟨hv, hb⟩]
              exact q
            cases mv with
            | inn u =>
              decreasing_trivial
              refine w_fnL (moved_ev (item := s.came + 1) hin' (by omega)) ⟨_, _, _, _, rfl, rfl, rfl, by decide, ⟨_, rfl, _, est rfl, ?_, ?_, _, rfl, rfl⟩⟩
              · show (s.cells.set u _).length = _
                rw [List.length_set]
                exact h3
              · show s.gone.length ≤ _
                omega
            | out u =>
              decreasing_trivial
              refine ⟨_, _, _, rfl, rfl, at_c hin', ?_⟩
              decreasing_trivial
              refine ⟨_, _, _, rfl, rfl, fAdd_t (by rw [List.length_map, List.length_singleton]; omega), ?_⟩
              decreasing_trivial
              refine w_fnL (moved_ev (item := s.came) hin' (by omega)) ⟨_, _, _, _, rfl, rfl, rfl, by decide, ⟨_, rfl, _, est rfl, ?_, ?_, .val (Mv.out u).d, rfl, ?_⟩⟩
              · show (s.cells.set u _).length = _
                rw [List.length_set]
                exact h3
              · show (s.gone ++ [_]).length ≤ _
                rw [List.length_append, List.length_singleton]
                omega
              · show _ = [Sl.val (yardD r), Sl.val (isSeq b (List.map MM.d ms)), Sl.val (cD (s.cells.set u 0)), Sl.val (D.int (s.came : Int)), Sl.val (D.tup (List.map nD (s.gone ++ [s.cells.getD u 0]))), Sl.val (Mv.out u).d]
                rw [List.map_append]
                rfl
            | road u v =>
              decreasing_trivial
              refine w_fnL (moved_ev (item := s.came) hin' (by omega)) ⟨_, _, _, _, rfl, rfl, rfl, by decide, ⟨_, rfl, _, est rfl, ?_, ?_, _, rfl, rfl⟩⟩
              · show ((s.cells.set u _).set v _).length = _
                rw [List.length_set, List.length_set]
                exact h3
              · show s.gone.length ≤ _
                omega
          · refine ite_T (decide_eq_true hb) (ws_ret (w_c ⟨?_, rfl, rfl⟩))
            show (if isMv r mv = true ∧ blk s.cells mv = none then _ else none) = none
            rw [if_neg (fun q => hb q.2)]
        · refine ite_T (by show (!isMv r mv) = true; simp only [Bool.not_eq_true] at hv; rw [hv]; rfl) (ite_T rfl (ws_ret (w_c ⟨?_, rfl, rfl⟩)))
          show (if isMv r mv = true ∧ blk s.cells mv = none then _ else none) = none
          rw [if_neg (fun q => hv q.1)]
  · rintro s' ρ hw ⟨h3, h4, s5, h5, rfl⟩
    refine ws_ret (w_eif (w_tst (w_op2 (w_val rfl (w_fn (w_cons (w_val rfl (w_nil (w_fnL (empty_ev h hm) ⟨_, _, _, _, rfl, rfl, rfl, by decide, ⟨_, _, _, rfl, rfl, eq_cells _ _, ⟨_, rfl, ?_⟩⟩⟩)))))))))
    unfold orderIn
    rw [hw]
    simp only
    by_cases g : s'.cells = List.replicate r.n 0
    · refine ite_T (decide_eq_true g) (w_val rfl ?_)
      rw [if_pos g]
      exact ⟨rfl, rfl⟩
    · refine ite_F (decide_eq_false g) (w_c ?_)
      rw [if_neg g]
      exact ⟨rfl, rfl⟩
  · rintro y ρ hw ⟨rfl, ho⟩
    unfold orderIn
    rw [hw]
    exact ⟨rfl, ho⟩
end LAW

set_option Elab.async false
set_option linter.all false
set_option maxRecDepth 100000
set_option maxHeartbeats 4000000
namespace LAW
open PySem Z
local macro_rules | `(tactic| decreasing_trivial) => `(tactic| repeat (first
  | ((with_reducible apply w_val); exact rfl) | ((with_reducible apply w_cel); exact rfl) | with_reducible refine w_c ?_ | with_reducible refine w_op2 ?_ | with_reducible refine w_cons ?_ | with_reducible refine w_nil ?_ | with_reducible refine w_tst ?_ | with_reducible refine w_call ?_ | with_reducible refine w_ix ?_ | with_reducible refine w_bnot ?_ | with_reducible refine w_band ?_ | with_reducible refine w_bor ?_ | with_reducible refine ws_seq ?_ | with_reducible refine ws_asg ?_ | with_reducible refine ws_if ?_ | with_reducible refine ws_ret ?_ | with_reducible refine ws_expr ?_ | with_reducible refine ws_nx ?_ | with_reducible refine w_and ?_ | with_reducible refine w_or ?_ | with_reducible refine w_not ?_ | with_reducible refine w_eif ?_ | with_reducible refine w_tup ?_ | with_reducible refine w_lst ?_ | with_reducible refine w_fld ?_ | with_reducible refine w_cut ?_ | with_reducible refine w_onone ?_ | with_reducible refine w_osome ?_ | with_reducible refine w_fn ?_ | with_reducible refine w_fnK ?_ | with_reducible refine w_mkK ?_ | with_reducible refine w_meth ?_ | with_reducible refine w_comp ?_ | with_reducible refine w_seq ?_ | with_reducible refine w_en ?_ | with_reducible refine w_rg1 ?_ | with_reducible refine w_rg2 ?_ | with_reducible refine w_isi ?_ | with_reducible refine w_isLT ?_ | with_reducible refine w_isOwn ?_ | with_reducible refine w_ss ?_ | with_reducible refine w_chain ?_ | with_reducible refine w_un ?_ | with_reducible refine w_neg ?_ | with_reducible refine w_rep ?_ | with_reducible refine w_lrg ?_ | with_reducible refine w_lrg1 ?_ | with_reducible refine w_tm ?_ | with_reducible refine w_true ?_ | with_reducible refine ws_par ?_ | with_reducible refine w_pcons ?_ | with_reducible refine w_pnil ?_ | with_reducible refine ws_for ?_ | with_reducible refine ws_retN ?_ | with_reducible refine ws_sub ?_ | with_reducible refine ws_fld ?_ | with_reducible refine ws_raise ?_ | with_reducible refine ws_raise2 ?_ | with_reducible refine ws_bk ?_ | with_reducible refine ws_ct ?_ | ((with_reducible apply w_lm); exact rfl)
  | refine ⟨_, _, rfl, rfl, Nat.le_of_ble_eq_true rfl, ?_⟩ | refine ⟨_, _, _, _, rfl, rfl, rfl, (by decide), ?_⟩ | refine ⟨_, _, _, _, rfl, rfl, rfl, ?_⟩ | refine ⟨_, _, _, rfl, rfl, (by decide), ?_⟩ | refine ⟨_, _, _, rfl, rfl, rfl, ?_⟩ | refine ⟨_, _, _, rfl, rfl, ?_⟩ | refine ⟨_, _, rfl, rfl, ?_⟩ | refine ⟨_, _, (rfl : frz _ _ = some (R.ok _ _)), ?_⟩ | refine ⟨_, _, (rfl : stk _ _ = some (R.ok _ _)), ?_⟩ | refine ⟨_, rfl, ?_⟩ | refine ⟨_, _, rfl, Nat.le_of_ble_eq_true rfl, ?_⟩
  | ((with_reducible apply ite_T); exact rfl) | ((with_reducible apply ite_F); exact rfl) | exact ⟨rfl, rfl⟩ | refine ws_seq ?_ | refine ws_if ?_ | refine ws_ret ?_ | refine ws_for ?_ | refine ws_asg ?_ | refine w_c ?_))
/-! the law's own walk -/
def bodyL : S := (sSeq (sIf (bOr (bNot (tst (eIsi .tuple (eVar 9)))) (tst (eOp2 fNin (eCall fLen (aCons (eVar 9) aNil)) (eTup (aCons (eC (.int 2)) (aCons (eC (.int 3)) aNil)))))) (sRet (eC .non)) sNx) (sSeq (sIf (tst (eOp2 fNe (eComp (iSeq (eCut (eVar 9) (oSome (eC (.int 1))) oNone)) (tgName 10) (bOr (tst (eIsi .bool (eVar 10))) (bNot (tst (eIsi .int (eVar 10))))) (eC (.int 1)) [10]) (eLst aNil))) (sRet (eC .non)) sNx) (sIf (bAnd (tst (eOp2 fEq2 (eIx (eVar 9) (eC (.int 0))) (eC (.str "in")))) (bAnd (tst (eOp2 fEq (eCall fLen (aCons (eVar 9) aNil)) (eC (.int 2)))) (bAnd (tst (eOp2 fIn (eIx (eVar 9) (eC (.int 1))) (eVar 4))) (tst (eOp2 fEq (eIx (eVar 6) (eIx (eVar 9) (eC (.int 1)))) (eC (.int 0))))))) (sSeq (sAsg (eOp2 fAdd (eVar 7) (eC (.int 1))) (tgName 7)) (sSub (eVar 7) (eVar 6) (eIx (eVar 9) (eC (.int 1))))) (sIf (bAnd (tst (eOp2 fEq2 (eIx (eVar 9) (eC (.int 0))) (eC (.str "out")))) (bAnd (tst (eOp2 fEq (eCall fLen (aCons (eVar 9) aNil)) (eC (.int 2)))) (bAnd (tst (eOp2 fIn (eIx (eVar 9) (eC (.int 1))) (eVar 5))) (tst (eOp2 (fI kGt) (eIx (eVar 6) (eIx (eVar 9) (eC (.int 1)))) (eC (.int 0))))))) (sSeq (sAsg (eOp2 fAdd (eVar 8) (eTup (aCons (eIx (eVar 6) (eIx (eVar 9) (eC (.int 1)))) aNil))) (tgName 8)) (sSub (eC (.int 0)) (eVar 6) (eIx (eVar 9) (eC (.int 1))))) (sIf (bAnd (tst (eOp2 fEq2 (eIx (eVar 9) (eC (.int 0))) (eC (.str "road")))) (bAnd (tst (eOp2 fIn (eCut (eVar 9) (oSome (eC (.int 1))) oNone) (eVar 3))) (bAnd (tst (eOp2 (fI kGt) (eIx (eVar 6) (eIx (eVar 9) (eC (.int 1)))) (eC (.int 0)))) (tst (eOp2 fEq (eIx (eVar 6) (eIx (eVar 9) (eC (.int 2)))) (eC (.int 0))))))) (sSeq (sSub (eIx (eVar 6) (eIx (eVar 9) (eC (.int 1)))) (eVar 6) (eIx (eVar 9) (eC (.int 2)))) (sSub (eC (.int 0)) (eVar 6) (eIx (eVar 9) (eC (.int 1))))) (sRet (eC .non)))))))
theorem in_wl1 (xs : List (Nat × Nat)) : fIn (.tup [.int 0]) (.lst (xs.map wD)) = some (.bl false) := by
  unfold fIn inD
  simp only [D.py, D.pys, pys_w, Option.map_some, (shaped_l (lay_w xs)).1, and_true]
  have : ((xs.map wP).any fun z => PyData.eqv z (.tuple [.int 0])) = false := by
    induction xs with
    | nil => rfl
    | cons x xs ih =>
      rw [List.map_cons, List.any_cons, ih]
      simp [wP, PyData.eqv, PyData.eqvAll]
  simp only [this]
  rfl
theorem in_neg (xs : List Nat) : fIn (.int (-1)) (.lst (xs.map nD)) = some (.bl false) := by
  have : (xs.any fun x => decide ((x : Int) = -1)) = false := by
    rw [List.any_eq_false]
    intro x _ q
    have := of_decide_eq_true q
    omega
  rw [in_nl, this]
local macro_rules | `(tactic| decreasing_trivial) => `(tactic| repeat (first
  | refine ⟨_, _, _, rfl, rfl, (by with_reducible (first | exact s_ii | exact s_io | exact s_ir | exact s_oi | exact s_oo | exact s_or | exact s_ri | exact s_ro | exact s_rr | exact s_Ii | exact s_Io | exact s_Ir | exact in_wl1 _ | exact in_neg _)), ?_⟩
  | ((with_reducible apply w_val); exact rfl) | ((with_reducible apply w_cel); exact rfl) | with_reducible refine w_c ?_ | with_reducible refine w_op2 ?_ | with_reducible refine w_cons ?_ | with_reducible refine w_nil ?_ | with_reducible refine w_tst ?_ | with_reducible refine w_call ?_ | with_reducible refine w_ix ?_ | with_reducible refine w_bnot ?_ | with_reducible refine w_band ?_ | with_reducible refine w_bor ?_ | with_reducible refine ws_seq ?_ | with_reducible refine ws_asg ?_ | with_reducible refine ws_if ?_ | with_reducible refine ws_ret ?_ | with_reducible refine ws_expr ?_ | with_reducible refine ws_nx ?_ | with_reducible refine w_and ?_ | with_reducible refine w_or ?_ | with_reducible refine w_not ?_ | with_reducible refine w_eif ?_ | with_reducible refine w_tup ?_ | with_reducible refine w_lst ?_ | with_reducible refine w_fld ?_ | with_reducible refine w_cut ?_ | with_reducible refine w_onone ?_ | with_reducible refine w_osome ?_ | with_reducible refine w_fn ?_ | with_reducible refine w_fnK ?_ | with_reducible refine w_mkK ?_ | with_reducible refine w_meth ?_ | with_reducible refine w_comp ?_ | with_reducible refine w_seq ?_ | with_reducible refine w_en ?_ | with_reducible refine w_rg1 ?_ | with_reducible refine w_rg2 ?_ | with_reducible refine w_isi ?_ | with_reducible refine w_isLT ?_ | with_reducible refine w_isOwn ?_ | with_reducible refine w_ss ?_ | with_reducible refine w_chain ?_ | with_reducible refine w_un ?_ | with_reducible refine w_neg ?_ | with_reducible refine w_rep ?_ | with_reducible refine w_lrg ?_ | with_reducible refine w_lrg1 ?_ | with_reducible refine w_tm ?_ | with_reducible refine w_true ?_ | with_reducible refine ws_par ?_ | with_reducible refine w_pcons ?_ | with_reducible refine w_pnil ?_ | with_reducible refine ws_for ?_ | with_reducible refine ws_retN ?_ | with_reducible refine ws_sub ?_ | with_reducible refine ws_fld ?_ | with_reducible refine ws_raise ?_ | with_reducible refine ws_raise2 ?_ | with_reducible refine ws_bk ?_ | with_reducible refine ws_ct ?_ | ((with_reducible apply w_lm); exact rfl)
  | refine ⟨_, _, rfl, rfl, Nat.le_of_ble_eq_true rfl, ?_⟩ | refine ⟨_, _, _, _, rfl, rfl, rfl, (by decide), ?_⟩ | refine ⟨_, _, _, _, rfl, rfl, rfl, ?_⟩ | refine ⟨_, _, _, rfl, rfl, (by decide), ?_⟩ | refine ⟨_, _, _, rfl, rfl, rfl, ?_⟩ | refine ⟨_, _, _, rfl, rfl, ?_⟩ | refine ⟨_, _, rfl, rfl, ?_⟩ | refine ⟨_, _, (rfl : frz _ _ = some (R.ok _ _)), ?_⟩ | refine ⟨_, _, (rfl : stk _ _ = some (R.ok _ _)), ?_⟩ | refine ⟨_, rfl, ?_⟩ | refine ⟨_, _, rfl, Nat.le_of_ble_eq_true rfl, ?_⟩
  | ((with_reducible apply ite_T); exact rfl) | ((with_reducible apply ite_F); exact rfl) | exact ⟨rfl, rfl⟩ | refine ws_seq ?_ | refine ws_if ?_ | refine ws_ret ?_ | refine ws_for ?_ | refine ws_asg ?_ | refine w_c ?_))
theorem lawbad {r : Raw} {row gone : D} {cells : List D} {came : D} {N B C : E → Prop} {T : Rf → E → Prop} {X : Ex → E → Prop} (hT : ∀ ρ, outs [Ar.val r.d, Ar.val row] ρ = some [] → T (.dat .non) ρ) : ∀ d ∈ badA,
    wS bodyL N T B C X [.val r.d, .val row, .val (.int (r.n : Int)), .val (.lst (r.ways.map wD)), .val (.lst (r.ins.map nD)), .val (.lst (r.outs.map nD)), .cel false (.lst cells), .val came, .val gone, .val d, .no] := by
  intro d hd
  simp only [badA, badM, List.cons_append, List.nil_append, List.mem_cons, List.not_mem_nil, or_false] at hd
  rcases hd with rfl | rfl | rfl | rfl | rfl | rfl | rfl | rfl | rfl | rfl | rfl | rfl | rfl | rfl | rfl | rfl
  all_goals (decreasing_trivial; first | exact hT _ rfl | (refine ⟨_, _, _, rfl, rfl, in_wl1 _, ?_⟩; decreasing_trivial; exact hT _ rfl))
theorem in_nl' (i : Nat) (xs : List Nat) : fIn (.int (i : Int)) (.lst (xs.map nD)) = some (.bl (decide (i ∈ xs))) := by rw [in_nl, any_nat]
theorem in_wl' (u v : Nat) (xs : List (Nat × Nat)) : fIn (.tup [.int (u : Int), .int (v : Int)]) (.lst (xs.map wD)) = some (.bl (decide ((u, v) ∈ xs))) := by rw [in_wl, any_way]
theorem ixN_nat {n u : Nat} (h : u < n) : L2.ixN n (u : Int) = some u := by
  unfold L2.ixN
  rw [if_pos (by omega), if_pos (by omega)]
  congr 1
theorem set_map (cells : List Nat) (u a : Nat) : (cells.map nD).set u (.int (a : Int)) = (cells.set u a).map nD := by
  rw [List.map_set]
  rfl
inductive Row | seq (b : Bool) (ms : List MM) | odd (d : D)
def oddR : List D := [.non, .int 5, .str "in", .dic [] [], .bl true]
def Row.d : Row → D
  | .seq b ms => isSeq b (ms.map MM.d)
  | .odd d => d
def Row.fine : Row → Prop
  | .seq _ ms => (∀ x ∈ ms, x.fine) ∧ ms.length ≤ 400
  | .odd d => d ∈ oddR
def dueR (r : Raw) : Row → Option (List Nat)
  | .seq _ ms => orderIn r ms
  | .odd _ => none
theorem order_row_ev {r : Raw} {m k : Nat} (h : r.Ok m k) (hm : m ≤ 100) {w : Row} (hw : w.fine) : f_order_in [.val (yardD r), .val w.d] = some (.ret false (ordD (dueR r w)) []) := by
  cases w with
  | seq b ms => exact order_in_ev h hm b hw.1 hw.2
  | odd d =>
    have hd : d ∈ oddR := hw
    simp only [oddR, List.mem_cons, List.not_mem_nil, or_false] at hd
    rcases hd with rfl | rfl | rfl | rfl | rfl <;> (refine fn_rt [.val (yardD r), _, .no, .no, .no, .no] ?_; decreasing_trivial)
theorem lorder_ev {r : Raw} {m k : Nat} (h : r.Ok m k) (hm : m ≤ 100) (b : Bool) {ms : List MM} (hf : ∀ x ∈ ms, x.fine) (hl : ms.length ≤ 400) : f__law_order_in [.val r.d, .val (isSeq b (ms.map MM.d))] = some (.ret false (ordD (orderIn r ms)) []) := by
  have h1 := h.n1
  have h2 := h.nm
  refine fn_rt [.val r.d, .val (isSeq b (ms.map MM.d)), .no, .no, .no, .no, .no, .no, .no, .no, .no] ?_
  have e1 : isLT (isSeq b (ms.map MM.d)) = some true := by cases b <;> rfl
  have e2 : seqOf (isSeq b (ms.map MM.d)) = some (ms.map MM.d) := by cases b <;> rfl
  have rep : (List.replicate (r.n : Int).toNat [D.int 0]).flatten = (List.replicate r.n 0).map nD := by
    have z : (r.n : Int).toNat = r.n := by omega
    rw [z, List.map_replicate]
    have : ∀ n : Nat, (List.replicate n [D.int 0]).flatten = List.replicate n (D.int 0) := fun n => by
      induction n with
      | zero => rfl
      | succ n ih => rw [List.replicate_succ, List.flatten_cons, ih]; rfl
    exact this r.n
  refine ws_seq (ws_asg (w_val rfl ⟨_, rfl, ?_⟩))
  refine ws_seq (ws_if (w_bnot (w_tst (w_isLT (w_val rfl ⟨_, _, rfl, e1, ⟨_, rfl, ite_F rfl (ws_nx ?_)⟩⟩)))))
  refine ws_seq (ws_par (w_pcons (w_rep (w_lst (w_cons (w_c (w_nil ⟨_, _, rfl, Nat.le_of_ble_eq_true rfl, ⟨_, rfl, w_val rfl ⟨_, rfl, ⟨by omega, by omega, ?_⟩, ?_⟩⟩⟩)))))))
  · show 1 * (r.n : Int).toNat ≤ 1000
    omega
  rw [rep]
  refine ⟨_, _, rfl, w_pcons (w_c ⟨_, _, rfl, w_pcons (w_tup (w_nil ⟨_, _, rfl, Nat.le_of_ble_eq_true rfl, ⟨_, _, rfl, w_pnil ⟨_, rfl, ?_⟩⟩⟩))⟩)⟩
  refine ws_seq (ws_for (w_seq (w_val rfl ⟨_, _, _, rfl, e2, ?_⟩)))
  refine ws_walk (b := bodyL) MM.d (stepM r) (fun i s ρ => s.cells.length = r.n ∧ s.gone.length ≤ i ∧ ∃ s9, okSlot [s9] 0 = true ∧ ρ = [.val r.d, .val (isSeq b (ms.map MM.d)), .val (.int (r.n : Int)), .val (.lst (r.ways.map wD)), .val (.lst (r.ins.map nD)), .val (.lst (r.outs.map nD)), .cel false (.lst (s.cells.map nD)), .val (.int (s.came : Int)), .val (.tup (s.gone.map nD)), s9, .no])
    (fun x ρ => x = .dat .non ∧ outs [Ar.val r.d, Ar.val (isSeq b (ms.map MM.d))] ρ = some []) ms 0 (st0 r) _ ?_ ?_ ?_ ?_
  · exact ⟨List.length_replicate, Nat.le_refl _, .no, rfl, rfl⟩
  · rintro j x hx s ρ ⟨h3, h4, s9, h5, rfl⟩
    have hj : j < ms.length := (List.getElem?_eq_some_iff.mp hx).1
    have hfx := hf x (List.mem_of_getElem? hx)
    refine ⟨[.val r.d, .val (isSeq b (ms.map MM.d)), .val (.int (r.n : Int)), .val (.lst (r.ways.map wD)), .val (.lst (r.ins.map nD)), .val (.lst (r.outs.map nD)), .cel false (.lst (s.cells.map nD)), .val (.int (s.came : Int)), .val (.tup (s.gone.map nD)), .val x.d, .no], ?_, ?_⟩
    · unfold tgName
      rw [if_pos (show okSlot _ 9 = true from h5)]
      rfl
    · cases x with
      | bad d => exact lawbad (fun ρ ho => ⟨rfl, rfl, ho⟩) d hfx
      | ok mv =>
        have no : ∀ {c : Prop}, ¬ (isMv r mv = true ∧ blk s.cells mv = none) → stepM r s (.ok mv) = none := fun {c} q => by
          show (if isMv r mv = true ∧ blk s.cells mv = none then _ else none) = none
          rw [if_neg q]
        have est : ∀ {s'}, isMv r mv = true → blk s.cells mv = none → (match mv with
              | .inn u => some (⟨s.cells.set u (s.came + 1), s.came + 1, s.gone⟩ : St)
              | .out u => some ⟨s.cells.set u 0, s.came, s.gone ++ [s.cells.getD u 0]⟩
              | .road u v => some ⟨(s.cells.set u 0).set v (s.cells.getD u 0), s.came, s.gone⟩) = some s' → stepM r s (.ok mv) = some s' := fun {s'} hv hb q => by
              show (if isMv r mv = true ∧ blk s.cells mv = none then _ else none) = _
              rw [if_pos ⟨hv, hb⟩]
              exact q
        cases mv with
        | inn u =>
          decreasing_trivial
          refine ⟨_, _, _, rfl, rfl, in_nl' u r.ins, ?_⟩
          decreasing_trivial
          by_cases hu : u ∈ r.ins
          · have hn : u < s.cells.length := by rw [h3]; exact h.i u hu
            refine ite_T (decide_eq_true hu) ?_
            decreasing_trivial
            refine ⟨_, _, _, rfl, rfl, at_l hn, ?_⟩
            decreasing_trivial
            rw [eqv_z]
            by_cases g : s.cells.getD u 0 = 0
            · refine ite_T (decide_eq_true g) ?_
              decreasing_trivial
              refine ⟨_, _, _, _, _, rfl, rfl, rfl, ixN_nat (by rw [List.length_map]; exact hn), _, est (decide_eq_true hu) (if_pos g) rfl, ?_, ?_, .val (Mv.inn u).d, rfl, ?_⟩
              · show (s.cells.set u _).length = _
                rw [List.length_set]
                exact h3
              · show s.gone.length ≤ _
                omega
              · show _ = [Sl.val r.d, Sl.val (isSeq b (List.map MM.d ms)), Sl.val (D.int (r.n : Int)), Sl.val (D.lst (r.ways.map wD)), Sl.val (D.lst (r.ins.map nD)), Sl.val (D.lst (r.outs.map nD)), Sl.cel false (.lst ((s.cells.set u (s.came + 1)).map nD)), Sl.val (D.int ((s.came + 1 : Nat) : Int)), Sl.val (D.tup (s.gone.map nD)), Sl.val (Mv.inn u).d, Sl.no]
                rw [← set_map]
                rfl
            · refine ite_F (decide_eq_false g) ?_
              decreasing_trivial
              exact ⟨no (c := True) (fun q => by have q := q.2; simp only [blk] at q; rw [if_neg g] at q; cases q), rfl, rfl⟩
          · refine ite_F (decide_eq_false hu) ?_
            decreasing_trivial
            exact ⟨no (c := True) fun q => hu (of_decide_eq_true q.1), rfl, rfl⟩
        | out u =>
          decreasing_trivial
          refine ⟨_, _, _, rfl, rfl, in_nl' u r.outs, ?_⟩
          decreasing_trivial
          by_cases hu : u ∈ r.outs
          · have hn : u < s.cells.length := by rw [h3]; exact h.o u hu
            refine ite_T (decide_eq_true hu) ?_
            decreasing_trivial
            refine ⟨_, _, _, rfl, rfl, at_l hn, ?_⟩
            decreasing_trivial
            by_cases g : s.cells.getD u 0 = 0
            · refine ite_F (decide_eq_false (by omega)) ?_
              decreasing_trivial
              exact ⟨no (c := True) (fun q => by have q := q.2; simp only [blk] at q; rw [if_pos g] at q; cases q), rfl, rfl⟩
            · refine ite_T (decide_eq_true (by omega)) ?_
              decreasing_trivial
              refine ⟨_, _, _, rfl, rfl, at_l hn, ?_⟩
              decreasing_trivial
              refine ⟨_, _, _, rfl, rfl, fAdd_t (by rw [List.length_map, List.length_singleton]; omega), ?_⟩
              decreasing_trivial
              refine ⟨_, _, _, _, _, rfl, rfl, rfl, ixN_nat (by rw [List.length_map]; exact hn), _, est (decide_eq_true hu) (if_neg g) rfl, ?_, ?_, .val (Mv.out u).d, rfl, ?_⟩
              · show (s.cells.set u _).length = _
                rw [List.length_set]
                exact h3
              · show (s.gone ++ [_]).length ≤ _
                rw [List.length_append, List.length_singleton]
                omega
              · show _ = [Sl.val r.d, Sl.val (isSeq b (List.map MM.d ms)), Sl.val (D.int (r.n : Int)), Sl.val (D.lst (r.ways.map wD)), Sl.val (D.lst (r.ins.map nD)), Sl.val (D.lst (r.outs.map nD)), Sl.cel false (.lst ((s.cells.set u 0).map nD)), Sl.val (D.int (s.came : Int)), Sl.val (D.tup ((s.gone ++ [s.cells.getD u 0]).map nD)), Sl.val (Mv.out u).d, Sl.no]
                rw [← set_map, List.map_append]
                rfl
          · refine ite_F (decide_eq_false hu) ?_
            decreasing_trivial
            exact ⟨no (c := True) fun q => hu (of_decide_eq_true q.1), rfl, rfl⟩
        | road u v =>
          decreasing_trivial
          refine ⟨_, _, _, rfl, rfl, in_wl' u v r.ways, ?_⟩
          decreasing_trivial
          by_cases hu : (u, v) ∈ r.ways
          · have hw := h.w _ hu
            have hn : u < s.cells.length := by rw [h3]; exact hw.1
            have hn2 : v < s.cells.length := by rw [h3]; exact hw.2.1
            refine ite_T (decide_eq_true hu) ?_
            decreasing_trivial
            refine ⟨_, _, _, rfl, rfl, at_l hn, ?_⟩
            decreasing_trivial
            by_cases g : s.cells.getD u 0 = 0
            · refine ite_F (decide_eq_false (by omega)) ?_
              decreasing_trivial
              exact ⟨no (c := True) (fun q => by have q := q.2; simp only [blk] at q; rw [if_pos g] at q; cases q), rfl, rfl⟩
            · refine ite_T (decide_eq_true (by omega)) ?_
              decreasing_trivial
              refine ⟨_, _, _, rfl, rfl, at_l hn2, ?_⟩
              decreasing_trivial
              rw [eqv_z]
              by_cases g2 : s.cells.getD v 0 = 0
              · refine ite_T (decide_eq_true g2) ?_
                decreasing_trivial
                refine ⟨_, _, _, rfl, rfl, at_l hn, ?_⟩
                decreasing_trivial
                refine ⟨_, _, _, _, _, rfl, rfl, rfl, ixN_nat (by rw [List.length_map]; exact hn2), ?_⟩
                decreasing_trivial
                refine ⟨_, _, _, _, _, rfl, rfl, rfl, ixN_nat (by rw [List.length_set, List.length_map]; exact hn), _, est (decide_eq_true hu) (by simp only [blk]; rw [if_neg g, if_pos g2]) rfl, ?_, ?_, .val (Mv.road u v).d, rfl, ?_⟩
                · show ((s.cells.set u _).set v _).length = _
                  rw [List.length_set, List.length_set]
                  exact h3
                · show s.gone.length ≤ _
                  omega
                · show _ = [Sl.val r.d, Sl.val (isSeq b (List.map MM.d ms)), Sl.val (D.int (r.n : Int)), Sl.val (D.lst (r.ways.map wD)), Sl.val (D.lst (r.ins.map nD)), Sl.val (D.lst (r.outs.map nD)), Sl.cel false (.lst (((s.cells.set u 0).set v (s.cells.getD u 0)).map nD)), Sl.val (D.int (s.came : Int)), Sl.val (D.tup (s.gone.map nD)), Sl.val (Mv.road u v).d, Sl.no]
                  rw [List.set_comm _ _ hw.2.2, ← set_map, ← set_map]
                  rfl
              · refine ite_F (decide_eq_false g2) ?_
                decreasing_trivial
                exact ⟨no (c := True) (fun q => by have q := q.2; simp only [blk] at q; rw [if_neg g, if_neg g2] at q; cases q), rfl, rfl⟩
          · refine ite_F (decide_eq_false hu) ?_
            decreasing_trivial
            exact ⟨no (c := True) fun q => hu (of_decide_eq_true q.1), rfl, rfl⟩
  · rintro s' ρ hw ⟨h3, h4, s9, h5, rfl⟩
    refine ws_ret (w_eif (w_tst (w_op2 (w_cel rfl (w_rep ?_)))))
    refine w_lst (w_cons (w_c (w_nil ⟨_, _, rfl, Nat.le_of_ble_eq_true rfl, ⟨_, rfl, w_val rfl ⟨_, rfl, ⟨by omega, by omega, ?_⟩, ?_⟩⟩⟩)))
    · show 1 * (r.n : Int).toNat ≤ 1000
      omega
    rw [rep]
    refine ⟨_, _, _, rfl, rfl, eq_lists s'.cells (List.replicate r.n 0), ⟨_, rfl, ?_⟩⟩
    unfold orderIn
    rw [hw]
    simp only
    by_cases g : s'.cells = List.replicate r.n 0
    · refine ite_T (decide_eq_true g) (w_val rfl ?_)
      rw [if_pos g]
      exact ⟨rfl, rfl⟩
    · refine ite_F (decide_eq_false g) (w_c ?_)
      rw [if_neg g]
      exact ⟨rfl, rfl⟩
  · rintro y ρ hw ⟨rfl, ho⟩
    unfold orderIn
    rw [hw]
    exact ⟨rfl, ho⟩
end LAW

set_option Elab.async false
set_option linter.all false
set_option maxRecDepth 100000
set_option maxHeartbeats 4000000
namespace LAW
open PySem Z
local macro_rules | `(tactic| decreasing_trivial) => `(tactic| repeat (first
  | ((with_reducible apply w_val); exact rfl) | ((with_reducible apply w_cel); exact rfl) | with_reducible refine w_c ?_ | with_reducible refine w_op2 ?_ | with_reducible refine w_cons ?_ | with_reducible refine w_nil ?_ | with_reducible refine w_tst ?_ | with_reducible refine w_call ?_ | with_reducible refine w_ix ?_ | with_reducible refine w_bnot ?_ | with_reducible refine w_band ?_ | with_reducible refine w_bor ?_ | with_reducible refine ws_seq ?_ | with_reducible refine ws_asg ?_ | with_reducible refine ws_if ?_ | with_reducible refine ws_ret ?_ | with_reducible refine ws_expr ?_ | with_reducible refine ws_nx ?_ | with_reducible refine w_and ?_ | with_reducible refine w_or ?_ | with_reducible refine w_not ?_ | with_reducible refine w_eif ?_ | with_reducible refine w_tup ?_ | with_reducible refine w_lst ?_ | with_reducible refine w_fld ?_ | with_reducible refine w_cut ?_ | with_reducible refine w_onone ?_ | with_reducible refine w_osome ?_ | with_reducible refine w_fn ?_ | with_reducible refine w_fnK ?_ | with_reducible refine w_mkK ?_ | with_reducible refine w_meth ?_ | with_reducible refine w_comp ?_ | with_reducible refine w_seq ?_ | with_reducible refine w_en ?_ | with_reducible refine w_rg1 ?_ | with_reducible refine w_rg2 ?_ | with_reducible refine w_isi ?_ | with_reducible refine w_isLT ?_ | with_reducible refine w_isOwn ?_ | with_reducible refine w_ss ?_ | with_reducible refine w_chain ?_ | with_reducible refine w_un ?_ | with_reducible refine w_neg ?_ | with_reducible refine w_rep ?_ | with_reducible refine w_lrg ?_ | with_reducible refine w_lrg1 ?_ | with_reducible refine w_tm ?_ | with_reducible refine w_true ?_ | with_reducible refine ws_par ?_ | with_reducible refine w_pcons ?_ | with_reducible refine w_pnil ?_ | with_reducible refine ws_for ?_ | with_reducible refine ws_retN ?_ | with_reducible refine ws_sub ?_ | with_reducible refine ws_fld ?_ | with_reducible refine ws_raise ?_ | with_reducible refine ws_raise2 ?_ | with_reducible refine ws_bk ?_ | with_reducible refine ws_ct ?_ | ((with_reducible apply w_lm); exact rfl)
  | refine ⟨_, _, rfl, rfl, Nat.le_of_ble_eq_true rfl, ?_⟩ | refine ⟨_, _, _, _, rfl, rfl, rfl, (by decide), ?_⟩ | refine ⟨_, _, _, _, rfl, rfl, rfl, ?_⟩ | refine ⟨_, _, _, rfl, rfl, (by decide), ?_⟩ | refine ⟨_, _, _, rfl, rfl, rfl, ?_⟩ | refine ⟨_, _, _, rfl, rfl, ?_⟩ | refine ⟨_, _, rfl, rfl, ?_⟩ | refine ⟨_, _, (rfl : frz _ _ = some (R.ok _ _)), ?_⟩ | refine ⟨_, _, (rfl : stk _ _ = some (R.ok _ _)), ?_⟩ | refine ⟨_, rfl, ?_⟩ | refine ⟨_, _, rfl, Nat.le_of_ble_eq_true rfl, ?_⟩
  | ((with_reducible apply ite_T); exact rfl) | ((with_reducible apply ite_F); exact rfl) | exact ⟨rfl, rfl⟩ | refine ws_seq ?_ | refine ws_if ?_ | refine ws_ret ?_ | refine ws_for ?_ | refine ws_asg ?_ | refine w_c ?_))
theorem lorder_row_ev {r : Raw} {m k : Nat} (h : r.Ok m k) (hm : m ≤ 100) {w : Row} (hw : w.fine) : f__law_order_in [.val r.d, .val w.d] = some (.ret false (ordD (dueR r w)) []) := by
  cases w with
  | seq b ms => exact lorder_ev h hm b hw.1 hw.2
  | odd d =>
    have hd : d ∈ oddR := hw
    simp only [oddR, List.mem_cons, List.not_mem_nil, or_false] at hd
    rcases hd with rfl | rfl | rfl | rfl | rfl <;> (refine fn_rt [.val r.d, _, .no, .no, .no, .no, .no, .no, .no, .no, .no] ?_; decreasing_trivial)
theorem ord_non (o : Option (List Nat)) : fIsN (ordD o) .non = some (.bl (decide (o ≠ none))) := by
  cases o <;> rfl
theorem ord_is (o : Option (List Nat)) : fIs (ordD o) .non = some (.bl (decide (o = none))) := by
  cases o <;> rfl
theorem is_run_ev {r : Raw} {m k : Nat} (h : r.Ok m k) (hm : m ≤ 100) {w : Row} (hw : w.fine) : f_is_run [.val (yardD r), .val w.d] = some (.ret false (.bl (decide (dueR r w ≠ none))) []) := by
  refine fn_rt [.val (yardD r), .val w.d] ?_
  refine ws_seq (ws_expr (w_fn (w_cons (w_val rfl (w_nil (w_fnL (require_yard_ev r) ⟨_, _, _, _, rfl, rfl, rfl, by decide, ?_⟩))))))
  refine ws_ret (w_op2 (w_fn (w_cons (w_val rfl ?_))))
  refine w_cons (w_val rfl (w_nil (w_fnL (order_row_ev h hm hw) ⟨_, _, _, _, rfl, rfl, rfl, by decide, w_c ⟨_, _, _, rfl, rfl, ord_non _, rfl, rfl⟩⟩)))
theorem made_ev {r : Raw} {m k : Nat} (h : r.Ok m k) (hm : m ≤ 100) {w : Row} (hw : w.fine) {g : List Nat} (hg : dueR r w = some g) : f_order_made [.val (yardD r), .val w.d] = some (.ret false (cD g) []) := by
  refine fn_rt [.val (yardD r), .val w.d, .no] ?_
  refine ws_seq (ws_expr (w_fn (w_cons (w_val rfl (w_nil (w_fnL (require_yard_ev r) ⟨_, _, _, _, rfl, rfl, rfl, by decide, ?_⟩))))))
  refine ws_seq (ws_asg (w_fn (w_cons (w_val rfl ?_))))
  refine w_cons (w_val rfl (w_nil (w_fnL (order_row_ev h hm hw) ⟨_, _, _, _, rfl, rfl, rfl, by decide, ⟨_, rfl, ?_⟩⟩)))
  refine ws_seq (ws_if (w_tst (w_op2 (w_val rfl (w_c ⟨_, _, _, rfl, rfl, ord_is _, ⟨_, rfl, ?_⟩⟩)))))
  refine ite_F (by rw [hg]; rfl) (ws_nx (ws_ret (w_val rfl ?_)))
  rw [hg]
  exact ⟨rfl, rfl⟩
theorem made_ex {r : Raw} {m k : Nat} (h : r.Ok m k) (hm : m ≤ 100) {w : Row} (hw : w.fine) (hg : dueR r w = none) : f_order_made [.val (yardD r), .val w.d] = some (.exc ⟨"InvalidMove", ["thing"], [w.d]⟩ []) := by
  refine fn_ex [.val (yardD r), .val w.d, .no] ?_
  refine ws_seq (ws_expr (w_fn (w_cons (w_val rfl (w_nil (w_fnL (require_yard_ev r) ⟨_, _, _, _, rfl, rfl, rfl, by decide, ?_⟩))))))
  refine ws_seq (ws_asg (w_fn (w_cons (w_val rfl ?_))))
  refine w_cons (w_val rfl (w_nil (w_fnL (order_row_ev h hm hw) ⟨_, _, _, _, rfl, rfl, rfl, by decide, ⟨_, rfl, ?_⟩⟩)))
  refine ws_seq (ws_if (w_tst (w_op2 (w_val rfl (w_c ⟨_, _, _, rfl, rfl, ord_is _, ⟨_, rfl, ?_⟩⟩)))))
  refine ite_T (by rw [hg]; rfl) (ws_raise (w_cons (w_val rfl (w_nil ⟨_, _, rfl, rfl, rfl, rfl⟩))))
theorem caught_ev {r : Raw} {m k : Nat} (h : r.Ok m k) (hm : m ≤ 100) {w : Row} (hw : w.fine) (hg : dueR r w = none) : f__law_caught [.val (yardD r), .val w.d] = some (.ret true (.lst [.str "move", w.d]) []) := by
  refine fn_rt [.val (yardD r), .val w.d, .no, .no] ?_
  refine ws_seq (ws_asg (w_c ⟨_, rfl, ?_⟩))
  refine ws_seq (ws_try (ws_asg (w_fn (w_cons (w_val rfl (w_cons (w_val rfl (w_nil (w_fnLX (made_ex h hm hw hg) ⟨_, _, _, rfl, rfl, by decide, ?_⟩)))))))))
  refine hgo_named (by kernel_rfl) rfl (ws_asg (w_lst (w_cons (w_c (w_cons (w_xf (d := w.d) rfl (by kernel_rfl) (by kernel_rfl) (w_nil ⟨_, _, rfl, Nat.le_of_ble_eq_true rfl, ⟨_, rfl, ⟨rfl, rfl⟩, ?_⟩⟩)))))))
  exact ws_ret (w_cel rfl ⟨rfl, rfl⟩)
theorem fin2 : f__law_caught [.val .non, .val (.lst [.tup [.str "in", .int 0], .tup [.str "road", .int 0, .int 1], .tup [.str "in", .int 0], .tup [.str "out", .int 0], .tup [.str "road", .int 1, .int 0], .tup [.str "out", .int 0]])] = some (.ret true (.lst [.str "yard", .non]) []) := by kernel_rfl
/-! moves that are open -/
def openL (r : Raw) (inside : List Nat) : List Mv := ((r.outs.filter fun u => decide (0 < inside.getD u 0)).map Mv.out ++ (r.ins.filter fun u => decide (inside.getD u 0 = 0)).map Mv.inn) ++ (r.ways.filter fun w => decide (0 < inside.getD w.1 0) && decide (inside.getD w.2 0 = 0)).map fun w => Mv.road w.1 w.2
theorem open_ev {r : Raw} {m k : Nat} (h : r.Ok m k) (hk : k ≤ 100) {inside : List Nat} (hi : inside.length = r.n) : f__law_open [.val r.d, .cel (.lst (inside.map nD))] = some (.ret true (.lst ((openL r inside).map Mv.d)) [.lst (inside.map nD)]) := by
  have hwl := h.wl
  have hil := h.il
  have hol := h.ol
  have l1 := List.length_filter_le (fun u => decide (0 < inside.getD u 0)) r.outs
  have l2 := List.length_filter_le (fun u => decide (inside.getD u 0 = 0)) r.ins
  have l3 := List.length_filter_le (fun (w : Nat × Nat) => decide (0 < inside.getD w.1 0) && decide (inside.getD w.2 0 = 0)) r.ways
  refine fn_rt [.val r.d, .cel true (.lst (inside.map nD)), .no, .no, .no, .no, .no, .no, .no] ?_
  decreasing_trivial
  refine ⟨_, _, rfl, comp_flt nD (fun u => .tup [.str "out", nD u]) (fun u => decide (0 < inside.getD u 0)) r.outs (fun u hu => ?_), by rw [List.length_map]; omega, ?_⟩
  · refine ⟨_, rfl, ?_⟩
    decreasing_trivial
    refine ⟨_, _, _, rfl, rfl, at_l (by rw [hi]; exact h.o u hu), ?_⟩
    decreasing_trivial
    refine ⟨by rw [Bool.eq_iff_iff]; simp, ite_B (fun g => ?_) fun g => ?_⟩
    · decreasing_trivial
    · exact ⟨rfl, rfl⟩
  decreasing_trivial
  refine ⟨_, _, rfl, comp_flt nD (fun u => .tup [.str "in", nD u]) (fun u => decide (inside.getD u 0 = 0)) r.ins (fun u hu => ?_), by rw [List.length_map]; omega, ?_⟩
  · refine ⟨_, rfl, ?_⟩
    decreasing_trivial
    refine ⟨_, _, _, rfl, rfl, at_l (by rw [hi]; exact h.i u hu), ?_⟩
    decreasing_trivial
    rw [eqv_z]
    refine ⟨rfl, ite_B (fun g => ?_) fun g => ?_⟩
    · decreasing_trivial
    · exact ⟨rfl, rfl⟩
  refine ⟨_, _, _, rfl, rfl, fAdd_l (by rw [List.length_map, List.length_map]; omega), ?_⟩
  decreasing_trivial
  refine ⟨_, _, rfl, comp_flt wD (fun w => .tup [.str "road", nD w.1, nD w.2]) (fun (w : Nat × Nat) => decide (0 < inside.getD w.1 0) && decide (inside.getD w.2 0 = 0)) r.ways (fun w hw => ?_), by rw [List.length_map]; omega, ?_⟩
  · have hw' := h.w w hw
    refine ⟨_, rfl, ?_⟩
    decreasing_trivial
    refine ⟨_, _, _, rfl, rfl, at_l (by rw [hi]; exact hw'.1), ?_⟩
    decreasing_trivial
    by_cases g : 0 < inside.getD w.1 0
    · refine ite_T (decide_eq_true (by omega)) ?_
      decreasing_trivial
      refine ⟨_, _, _, rfl, rfl, at_l (by rw [hi]; exact hw'.2.1), ?_⟩
      decreasing_trivial
      rw [eqv_z]
      refine ⟨by rw [decide_eq_true g]; rfl, ?_⟩
      rw [decide_eq_true g]
      refine ite_B (fun g => ?_) fun g => ?_
      · decreasing_trivial
      · exact ⟨rfl, rfl⟩
    · refine ite_F (decide_eq_false (by omega)) ?_
      refine ⟨by rw [decide_eq_false g]; rfl, ?_⟩
      rw [decide_eq_false g]
      exact ite_F rfl ⟨rfl, rfl⟩
  refine ⟨_, _, _, rfl, rfl, fAdd_l (by rw [List.length_append, List.length_map, List.length_map, List.length_map]; omega), ?_⟩
  have z : (List.map (fun u => D.tup [.str "out", nD u]) (r.outs.filter fun u => decide (0 < inside.getD u 0)) ++ List.map (fun u => D.tup [.str "in", nD u]) (r.ins.filter fun u => decide (inside.getD u 0 = 0))) ++ List.map (fun (w : Nat × Nat) => D.tup [.str "road", nD w.1, nD w.2]) (r.ways.filter fun (w : Nat × Nat) => decide (0 < inside.getD w.1 0) && decide (inside.getD w.2 0 = 0)) = (openL r inside).map Mv.d := by
    unfold openL
    rw [List.map_append, List.map_append, List.map_map, List.map_map, List.map_map]
    rfl
  rw [z]
  exact ⟨rfl, rfl⟩
end LAW

set_option Elab.async false
set_option linter.all false
set_option maxRecDepth 100000
set_option maxHeartbeats 4000000
namespace LAW
open PySem Z
local macro_rules | `(tactic| decreasing_trivial) => `(tactic| repeat (first
  | ((with_reducible apply w_val); exact rfl) | ((with_reducible apply w_cel); exact rfl) | with_reducible refine w_c ?_ | with_reducible refine w_op2 ?_ | with_reducible refine w_cons ?_ | with_reducible refine w_nil ?_ | with_reducible refine w_tst ?_ | with_reducible refine w_call ?_ | with_reducible refine w_ix ?_ | with_reducible refine w_bnot ?_ | with_reducible refine w_band ?_ | with_reducible refine w_bor ?_ | with_reducible refine ws_seq ?_ | with_reducible refine ws_asg ?_ | with_reducible refine ws_if ?_ | with_reducible refine ws_ret ?_ | with_reducible refine ws_expr ?_ | with_reducible refine ws_nx ?_ | with_reducible refine w_and ?_ | with_reducible refine w_or ?_ | with_reducible refine w_not ?_ | with_reducible refine w_eif ?_ | with_reducible refine w_tup ?_ | with_reducible refine w_lst ?_ | with_reducible refine w_fld ?_ | with_reducible refine w_cut ?_ | with_reducible refine w_onone ?_ | with_reducible refine w_osome ?_ | with_reducible refine w_fn ?_ | with_reducible refine w_fnK ?_ | with_reducible refine w_mkK ?_ | with_reducible refine w_meth ?_ | with_reducible refine w_comp ?_ | with_reducible refine w_seq ?_ | with_reducible refine w_en ?_ | with_reducible refine w_rg1 ?_ | with_reducible refine w_rg2 ?_ | with_reducible refine w_isi ?_ | with_reducible refine w_isLT ?_ | with_reducible refine w_isOwn ?_ | with_reducible refine w_ss ?_ | with_reducible refine w_chain ?_ | with_reducible refine w_un ?_ | with_reducible refine w_neg ?_ | with_reducible refine w_rep ?_ | with_reducible refine w_lrg ?_ | with_reducible refine w_lrg1 ?_ | with_reducible refine w_tm ?_ | with_reducible refine w_true ?_ | with_reducible refine ws_par ?_ | with_reducible refine w_pcons ?_ | with_reducible refine w_pnil ?_ | with_reducible refine ws_for ?_ | with_reducible refine ws_retN ?_ | with_reducible refine ws_sub ?_ | with_reducible refine ws_fld ?_ | with_reducible refine ws_raise ?_ | with_reducible refine ws_raise2 ?_ | with_reducible refine ws_bk ?_ | with_reducible refine ws_ct ?_ | ((with_reducible apply w_lm); exact rfl)
  | refine ⟨_, _, rfl, rfl, Nat.le_of_ble_eq_true rfl, ?_⟩ | refine ⟨_, _, _, _, rfl, rfl, rfl, (by decide), ?_⟩ | refine ⟨_, _, _, _, rfl, rfl, rfl, ?_⟩ | refine ⟨_, _, _, rfl, rfl, (by decide), ?_⟩ | refine ⟨_, _, _, rfl, rfl, rfl, ?_⟩ | refine ⟨_, _, _, rfl, rfl, ?_⟩ | refine ⟨_, _, rfl, rfl, ?_⟩ | refine ⟨_, _, (rfl : frz _ _ = some (R.ok _ _)), ?_⟩ | refine ⟨_, _, (rfl : stk _ _ = some (R.ok _ _)), ?_⟩ | refine ⟨_, rfl, ?_⟩ | refine ⟨_, _, rfl, Nat.le_of_ble_eq_true rfl, ?_⟩
  | ((with_reducible apply ite_T); exact rfl) | ((with_reducible apply ite_F); exact rfl) | exact ⟨rfl, rfl⟩ | refine ws_seq ?_ | refine ws_if ?_ | refine ws_ret ?_ | refine ws_for ?_ | refine ws_asg ?_ | refine w_c ?_))
def isIn : Mv → Bool
  | .inn _ => true
  | _ => false
theorem sn_ii : fNe (.str "in") (.str "in") = some (.bl false) := by kernel_rfl
theorem sn_oi : fNe (.str "out") (.str "in") = some (.bl true) := by kernel_rfl
theorem sn_ri : fNe (.str "road") (.str "in") = some (.bl true) := by kernel_rfl
def mvP : Mv → PyData
  | .inn u => .tuple [.str "in", nP u]
  | .out u => .tuple [.str "out", nP u]
  | .road u v => .tuple [.str "road", nP u, nP v]
theorem py_mv (mv : Mv) : mv.d.py = some (mvP mv) := by cases mv <;> rfl
theorem pys_mv : ∀ xs : List Mv, D.pys (xs.map Mv.d) = some (xs.map mvP)
  | [] => rfl
  | x :: xs => by simp only [List.map_cons, D.pys, py_mv, pys_mv xs]
theorem lay_mv1 (mv : Mv) : (mvP mv).canLay0 = true ∧ (mvP mv).depth ≤ 1 := by
  have a : PyData.strOk "in" = true := by decide +kernel
  have b : PyData.strOk "out" = true := by decide +kernel
  have c : PyData.strOk "road" = true := by decide +kernel
  cases mv <;> simp [mvP, nP, PyData.canLay0, PyData.canLayAll0, PyData.depth, PyData.depthAll, a, b, c]
theorem lay_mv : ∀ xs : List Mv, PyData.canLayAll0 (xs.map mvP) = true ∧ PyData.depthAll (xs.map mvP) ≤ 2
  | [] => by simp [PyData.canLayAll0, PyData.depthAll]
  | x :: xs => by
    have a := lay_mv xs
    have b := lay_mv1 x
    simp only [List.map_cons, PyData.canLayAll0, b.1, a.1, PyData.depthAll, Bool.and_self, true_and]
    omega
theorem eq_nilM (xs : List Mv) : fEq (.lst (xs.map Mv.d)) (.lst []) = some (.bl (decide (xs = []))) := by
  unfold fEq eqD
  have z : PyData.eqv (.list (xs.map mvP)) (.list []) = decide (xs = []) := by cases xs <;> rfl
  have w : SeqAt.shaped (.list []) = true := rfl
  simp only [D.py, D.pys, pys_mv, Option.map_some, (shaped_l (lay_mv xs)).1, w, and_self, if_true, z]
theorem at_mv {xs : List Mv} {v : Nat} (h : v < xs.length) : ∃ mv ∈ xs, fIx (.lst (xs.map Mv.d)) (.int (v : Int)) = some mv.d := by
  refine ⟨xs[v], List.getElem_mem h, ?_⟩
  show L2.atI (xs.map Mv.d) (v : Int) = _
  rw [atI_nat (by rw [List.length_map]; exact h), List.getElem?_map, List.getElem?_eq_getElem h]
  rfl
theorem open_in {r : Raw} {m k : Nat} (h : r.Ok m k) {inside : List Nat} : ∀ mv ∈ openL r inside, mvIn r.n mv := by
  intro mv hm
  unfold openL at hm
  rcases List.mem_append.mp hm with hm | hm
  · rcases List.mem_append.mp hm with hm | hm
    · obtain ⟨u, hu, rfl⟩ := List.mem_map.mp hm
      exact h.o u (List.mem_filter.mp hu).1
    · obtain ⟨u, hu, rfl⟩ := List.mem_map.mp hm
      exact h.i u (List.mem_filter.mp hu).1
  · obtain ⟨w, hw, rfl⟩ := List.mem_map.mp hm
    have := h.w w (List.mem_filter.mp hw).1
    exact ⟨this.1, this.2.1⟩
theorem open_len {r : Raw} {m k : Nat} (h : r.Ok m k) (inside : List Nat) : (openL r inside).length ≤ 3 * k := by
  have hwl := h.wl
  have hil := h.il
  have hol := h.ol
  have l1 := List.length_filter_le (fun u => decide (0 < inside.getD u 0)) r.outs
  have l2 := List.length_filter_le (fun u => decide (inside.getD u 0 = 0)) r.ins
  have l3 := List.length_filter_le (fun (w : Nat × Nat) => decide (0 < inside.getD w.1 0) && decide (inside.getD w.2 0 = 0)) r.ways
  unfold openL
  rw [List.length_append, List.length_append, List.length_map, List.length_map, List.length_map]
  omega
local macro_rules | `(tactic| decreasing_trivial) => `(tactic| repeat (first
  | refine ⟨_, _, _, rfl, rfl, (by with_reducible (first | exact s_ii | exact s_io | exact s_ir | exact s_oi | exact s_oo | exact s_or | exact s_ri | exact s_ro | exact s_rr | exact sn_ii | exact sn_oi | exact sn_ri)), ?_⟩
  | ((with_reducible apply w_val); exact rfl) | ((with_reducible apply w_cel); exact rfl) | with_reducible refine w_c ?_ | with_reducible refine w_op2 ?_ | with_reducible refine w_cons ?_ | with_reducible refine w_nil ?_ | with_reducible refine w_tst ?_ | with_reducible refine w_call ?_ | with_reducible refine w_ix ?_ | with_reducible refine w_bnot ?_ | with_reducible refine w_band ?_ | with_reducible refine w_bor ?_ | with_reducible refine ws_seq ?_ | with_reducible refine ws_asg ?_ | with_reducible refine ws_if ?_ | with_reducible refine ws_ret ?_ | with_reducible refine ws_expr ?_ | with_reducible refine ws_nx ?_ | with_reducible refine w_and ?_ | with_reducible refine w_or ?_ | with_reducible refine w_not ?_ | with_reducible refine w_eif ?_ | with_reducible refine w_tup ?_ | with_reducible refine w_lst ?_ | with_reducible refine w_fld ?_ | with_reducible refine w_cut ?_ | with_reducible refine w_onone ?_ | with_reducible refine w_osome ?_ | with_reducible refine w_fn ?_ | with_reducible refine w_fnK ?_ | with_reducible refine w_mkK ?_ | with_reducible refine w_meth ?_ | with_reducible refine w_comp ?_ | with_reducible refine w_seq ?_ | with_reducible refine w_en ?_ | with_reducible refine w_rg1 ?_ | with_reducible refine w_rg2 ?_ | with_reducible refine w_isi ?_ | with_reducible refine w_isLT ?_ | with_reducible refine w_isOwn ?_ | with_reducible refine w_ss ?_ | with_reducible refine w_chain ?_ | with_reducible refine w_un ?_ | with_reducible refine w_neg ?_ | with_reducible refine w_rep ?_ | with_reducible refine w_lrg ?_ | with_reducible refine w_lrg1 ?_ | with_reducible refine w_tm ?_ | with_reducible refine w_true ?_ | with_reducible refine ws_par ?_ | with_reducible refine w_pcons ?_ | with_reducible refine w_pnil ?_ | with_reducible refine ws_for ?_ | with_reducible refine ws_retN ?_ | with_reducible refine ws_sub ?_ | with_reducible refine ws_fld ?_ | with_reducible refine ws_raise ?_ | with_reducible refine ws_raise2 ?_ | with_reducible refine ws_bk ?_ | with_reducible refine ws_ct ?_ | ((with_reducible apply w_lm); exact rfl)
  | refine ⟨_, _, rfl, rfl, Nat.le_of_ble_eq_true rfl, ?_⟩ | refine ⟨_, _, _, _, rfl, rfl, rfl, (by decide), ?_⟩ | refine ⟨_, _, _, _, rfl, rfl, rfl, ?_⟩ | refine ⟨_, _, _, rfl, rfl, (by decide), ?_⟩ | refine ⟨_, _, _, rfl, rfl, rfl, ?_⟩ | refine ⟨_, _, _, rfl, rfl, ?_⟩ | refine ⟨_, _, rfl, rfl, ?_⟩ | refine ⟨_, _, (rfl : frz _ _ = some (R.ok _ _)), ?_⟩ | refine ⟨_, _, (rfl : stk _ _ = some (R.ok _ _)), ?_⟩ | refine ⟨_, rfl, ?_⟩ | refine ⟨_, _, rfl, Nat.le_of_ble_eq_true rfl, ?_⟩
  | ((with_reducible apply ite_T); exact rfl) | ((with_reducible apply ite_F); exact rfl) | exact ⟨rfl, rfl⟩ | refine ws_seq ?_ | refine ws_if ?_ | refine ws_ret ?_ | refine ws_for ?_ | refine ws_asg ?_ | refine w_c ?_))
def restL : S := (sSeq (sIf (tst (eOp2 fEq (eVar 6) (eLst aNil))) (sRet (eVar 4)) sNx) (sSeq (sAsg (eIx (eVar 6) (eFn f__law_draw [true, false] (aCons (eVar 0) (aCons (eCall fLen (aCons (eVar 6) aNil)) aNil)))) (tgName 7)) (sSeq (sExpr (eLM 4 fApp (aCons (eVar 7) aNil))) (sSeq (sIf (tst (eOp2 fEq2 (eIx (eVar 7) (eC (.int 0))) (eC (.str "road")))) (sSub (eC (.int 1)) (eVar 3) (eIx (eVar 7) (eC (.int 2)))) sNx) (sSub (eCall fInt (aCons (eOp2 fEq2 (eIx (eVar 7) (eC (.int 0))) (eC (.str "in"))) aNil)) (eVar 3) (eIx (eVar 7) (eC (.int 1))))))))
theorem led_rest {n : Nat} {p : List D} {r : Raw} {most j : D} {inside : List Nat} {ms xs : List Mv} {s7 : Sl} {N B C : E → Prop} {T : Rf → E → Prop} {X : Ex → E → Prop} (hp : Pu n p) (hn : n ≤ 10 ^ 8) (hi : inside.length = r.n) (hx : ∀ mv ∈ xs, mvIn r.n mv) (hl : xs.length ≤ 1000) (hml : ms.length ≤ 200) (o7 : okSlot [s7] 0 = true)
    (hT : T (.cel 4) [.cel true (.lst p), .val r.d, .val most, .cel false (.lst (inside.map nD)), .cel false (.lst (ms.map Mv.d)), .val j, .cel false (.lst (xs.map Mv.d)), s7])
    (hN : ∀ p' (mv : Mv) (ins' : List Nat), Pu (n + 1) p' → mvIn r.n mv → ins'.length = r.n → N [.cel true (.lst p'), .val r.d, .val most, .cel false (.lst (ins'.map nD)), .cel false (.lst ((ms ++ [mv]).map Mv.d)), .val j, .cel false (.lst (xs.map Mv.d)), .val mv.d]) :
    wS restL N T B C X [.cel true (.lst p), .val r.d, .val most, .cel false (.lst (inside.map nD)), .cel false (.lst (ms.map Mv.d)), .val j, .cel false (.lst (xs.map Mv.d)), s7] := by
  refine ws_seq (ws_if (w_tst (w_op2 (w_cel rfl (w_lst (w_nil ⟨_, _, rfl, Nat.le_of_ble_eq_true rfl, ⟨_, _, _, rfl, rfl, eq_nilM xs, ⟨_, rfl, ?_⟩⟩⟩))))))
  by_cases hxs : xs = []
  · exact ite_T (decide_eq_true hxs) (ws_ret (w_cel rfl hT))
  refine ite_F (decide_eq_false hxs) (ws_nx ?_)
  have hpos : 0 < xs.length := List.length_pos_iff.mpr hxs
  refine ws_seq (ws_asg (w_ix (w_cel rfl (w_fn (w_cons (w_cel rfl (w_cons (w_call (w_cons (w_cel rfl (w_nil ?_)))))))))))
  refine ⟨_, _, rfl, rfl, w_nil ?_⟩
  refine w_draw (m := xs.length) hp hn (by omega) (by rw [List.length_map]) fun v p' hv hp' => ?_
  obtain ⟨mv, hmv, e⟩ := at_mv hv
  have hin := hx mv hmv
  refine ⟨_, _, _, rfl, rfl, e, ?_⟩
  refine ⟨[.cel true (.lst p'), .val r.d, .val most, .cel false (.lst (inside.map nD)), .cel false (.lst (ms.map Mv.d)), .val j, .cel false (.lst (xs.map Mv.d)), .val mv.d], ?_, ?_⟩
  · unfold tgName
    rw [if_pos (show okSlot _ 7 = true from o7)]
    rfl
  refine ws_seq (ws_expr (w_lm rfl (w_cons (w_val rfl (w_nil ⟨_, _, _, _, _, _, rfl, rfl, (show fApp (ms.map Mv.d) [mv.d] = some (.non, ms.map Mv.d ++ [mv.d]) from ?_), ?_⟩)))))
  · show (if (ms.map Mv.d).length < sizeLine then _ else _) = _
    rw [if_pos (by rw [List.length_map, sizeLine_eq]; omega)]
  have app : ms.map Mv.d ++ [mv.d] = (ms ++ [mv]).map Mv.d := by rw [List.map_append]; rfl
  rw [app]
  cases mv with
  | inn u =>
    have hu : u < inside.length := by rw [hi]; exact hin
    decreasing_trivial
    refine ⟨_, _, _, _, _, rfl, rfl, rfl, ixN_nat (by rw [List.length_map]; exact hu), ?_⟩
    have := hN p' (.inn u) (inside.set u 1) hp' hin (by rw [List.length_set]; exact hi)
    rw [← set_map] at this
    exact this
  | out u =>
    have hu : u < inside.length := by rw [hi]; exact hin
    decreasing_trivial
    refine ⟨_, _, _, _, _, rfl, rfl, rfl, ixN_nat (by rw [List.length_map]; exact hu), ?_⟩
    have := hN p' (.out u) (inside.set u 0) hp' hin (by rw [List.length_set]; exact hi)
    rw [← set_map] at this
    exact this
  | road u v =>
    have hu : u < inside.length := by rw [hi]; exact hin.1
    have hv : v < inside.length := by rw [hi]; exact hin.2
    decreasing_trivial
    refine ⟨_, _, _, _, _, rfl, rfl, rfl, ixN_nat (by rw [List.length_map]; exact hv), ?_⟩
    decreasing_trivial
    refine ⟨_, _, _, _, _, rfl, rfl, rfl, ixN_nat (by rw [List.length_set, List.length_map]; exact hu), ?_⟩
    have := hN p' (.road u v) ((inside.set v 1).set u 0) hp' hin (by rw [List.length_set, List.length_set]; exact hi)
    rw [← set_map, ← set_map] at this
    exact this
theorem led_ev {n m k most : Nat} {p : List D} {r : Raw} (hp : Pu n p) (hr : r.Ok m k) (hm : m ≤ 100) (hk : k ≤ 100) (hmo : most ≤ 100) (hn : n + most ≤ 10 ^ 8) : ∃ x, f__law_led [.cel (.lst p), .val r.d, .val (.int (most : Int))] = some x ∧ ∃ (ms : List Mv) (p' : List D), ms.length ≤ most ∧ (∀ mv ∈ ms, mvIn r.n mv) ∧ Pu (n + most) p' ∧ x = .ret true (.lst (ms.map Mv.d)) [.lst p'] := by
  have h1 := hr.n1
  have h2 := hr.nm
  refine fn_any [.cel true (.lst p), .val r.d, .val (.int (most : Int)), .no, .no, .no, .no, .no] ?_
  have rep : (List.replicate (r.n : Int).toNat [D.int 0]).flatten = (List.replicate r.n 0).map nD := by
    have z : (r.n : Int).toNat = r.n := by omega
    rw [z, List.map_replicate]
    have : ∀ n : Nat, (List.replicate n [D.int 0]).flatten = List.replicate n (D.int 0) := fun n => by
      induction n with
      | zero => rfl
      | succ n ih => rw [List.replicate_succ, List.flatten_cons, ih]; rfl
    exact this r.n
  refine ws_seq (ws_par (w_pcons (w_rep (w_lst (w_cons (w_c (w_nil ⟨_, _, rfl, Nat.le_of_ble_eq_true rfl, ⟨_, rfl, ?_⟩⟩)))))))
  refine w_ix (w_val rfl (w_c ⟨_, _, _, rfl, rfl, rfl, ⟨_, rfl, ⟨by omega, by omega, ?_⟩, ?_⟩⟩))
  · show 1 * (r.n : Int).toNat ≤ 1000
    omega
  rw [rep]
  refine ⟨_, _, rfl, w_pcons (w_lst (w_nil ⟨_, _, rfl, Nat.le_of_ble_eq_true rfl, ⟨_, _, rfl, w_pnil ⟨_, rfl, ?_⟩⟩⟩))⟩
  refine ws_seq (ws_for (w_rg1 (w_cons (w_val rfl (w_nil ⟨_, rfl, by omega, ?_⟩)))))
  have z2 : (most : Int).toNat = most := by omega
  rw [z2]
  refine ws_forL (fun j ρ => ∃ p' ms inside s5 s6 s7, Pu (n + j) p' ∧ ms.length ≤ j ∧ (∀ mv ∈ ms, mvIn r.n mv) ∧ inside.length = r.n ∧ okSlot [s5] 0 = true ∧ okSlot [s6] 0 = true ∧ okSlot [s7] 0 = true ∧
    ρ = [.cel true (.lst p'), .val r.d, .val (.int (most : Int)), .cel false (.lst (inside.map nD)), .cel false (.lst (ms.map Mv.d)), s5, s6, s7]) (rangeD 0 most) 0 _ ⟨p, [], List.replicate r.n 0, .no, .no, .no, hp, Nat.le_refl _, by simp, List.length_replicate, rfl, rfl, rfl, rfl⟩ ?_ ?_
  · rintro j d ρ hd ⟨p', ms, inside, s5, s6, s7, g1, g2, g3, g4, o5, o6, o7, rfl⟩
    obtain ⟨hj, rfl⟩ := rangeD_at hd
    rw [Nat.zero_add] at g1 g2 ⊢
    refine ⟨[.cel true (.lst p'), .val r.d, .val (.int (most : Int)), .cel false (.lst (inside.map nD)), .cel false (.lst (ms.map Mv.d)), .val (.int (j : Int)), s6, s7], ?_, ?_⟩
    · unfold tgName
      rw [if_pos (show okSlot _ 5 = true from o5)]
      rfl
    have ol := open_len hr inside
    refine ws_seq (ws_asg (w_fn (w_cons (w_val rfl ?_))))
    refine w_cons (w_cel rfl (w_nil (w_fnL (open_ev hr hk g4) ⟨[none, some 3], _, _, _, rfl, rfl, rfl, by decide, ?_⟩)))
    refine ⟨[.cel true (.lst p'), .val r.d, .val (.int (most : Int)), .cel false (.lst (inside.map nD)), .cel false (.lst (ms.map Mv.d)), .val (.int (j : Int)), .cel false (.lst ((openL r inside).map Mv.d)), s7], ?_, ?_⟩
    · unfold tgName
      rw [if_pos (show okSlot _ 6 = true from o6)]
      rfl
    refine ws_seq (ws_if (w_tst (w_op2 (w_val rfl (w_op2 (w_val rfl (w_c ⟨_, _, _, rfl, rfl, rfl, ⟨_, _, _, rfl, rfl, rfl, ⟨_, rfl, ?_⟩⟩⟩)))))))
    refine ite_B (fun _ => ?_) fun _ => ws_nx ?_
    · have fl := List.length_filter_le (fun mv => !isIn mv) (openL r inside)
      refine ws_asg (w_comp (w_seq (w_cel rfl ⟨_, _, _, rfl, rfl, ?_⟩)))
      refine ⟨_, [.cel true (.lst p'), .val r.d, .val (.int (most : Int)), .cel false (.lst (inside.map nD)), .cel false (.lst (ms.map Mv.d)), .val (.int (j : Int)), .val (.lst ((openL r inside).map Mv.d)), .no], ?_, comp_flt (ρ := [.cel true (.lst p'), .val r.d, .val (.int (most : Int)), .cel false (.lst (inside.map nD)), .cel false (.lst (ms.map Mv.d)), .val (.int (j : Int)), .val (.lst ((openL r inside).map Mv.d)), .no]) Mv.d Mv.d (fun mv => !isIn mv) (openL r inside) (fun mv hmv => ?_), ?_, ?_⟩
      · simp only [okSlots, List.all_cons, List.all_nil, Bool.and_true]
        exact o7
      · refine ⟨_, rfl, ?_⟩
        cases mv with
        | inn u =>
          decreasing_trivial
          exact ⟨rfl, ite_F rfl ⟨rfl, rfl⟩⟩
        | out u =>
          decreasing_trivial
          refine ⟨rfl, ite_T rfl ?_⟩
          decreasing_trivial
        | road u v =>
          decreasing_trivial
          refine ⟨rfl, ite_T rfl ?_⟩
          decreasing_trivial
      · rw [List.length_map]
        omega
      · refine ⟨_, rfl, ?_⟩
        refine led_rest (xs := (openL r inside).filter fun mv => !isIn mv) g1 (by omega) g4 (fun mv hmv => open_in hr mv (List.mem_filter.mp hmv).1) (by omega) (by omega) rfl ⟨_, _, _, rfl, rfl, ms, p', by omega, g3, g1.mono (by omega), rfl⟩ fun p2 mv ins2 q1 q2 q3 => ?_
        exact ⟨p2, ms ++ [mv], ins2, _, _, _, q1, by rw [List.length_append, List.length_singleton]; omega, fun x hx => (List.mem_append.mp hx).elim (g3 x) fun q => by rw [List.mem_singleton.mp q]; exact q2, q3, rfl, rfl, rfl, rfl⟩
    · refine led_rest (xs := openL r inside) g1 (by omega) g4 (open_in hr) (by omega) (by omega) o7 ⟨_, _, _, rfl, rfl, ms, p', by omega, g3, g1.mono (by omega), rfl⟩ fun p2 mv ins2 q1 q2 q3 => ?_
      exact ⟨p2, ms ++ [mv], ins2, _, _, _, q1, by rw [List.length_append, List.length_singleton]; omega, fun x hx => (List.mem_append.mp hx).elim (g3 x) fun q => by rw [List.mem_singleton.mp q]; exact q2, q3, rfl, rfl, rfl, rfl⟩
  · rintro ρ ⟨p', ms, inside, s5, s6, s7, g1, g2, g3, g4, o5, o6, o7, rfl⟩
    rw [Nat.zero_add, rangeD_len] at g1 g2
    exact ws_ret (w_cel rfl ⟨_, _, _, rfl, rfl, ms, p', g2, g3, g1, rfl⟩)
end LAW

set_option Elab.async false
set_option linter.all false
set_option maxRecDepth 100000
set_option maxHeartbeats 4000000
namespace LAW
open PySem Z
local macro_rules | `(tactic| decreasing_trivial) => `(tactic| repeat (first
  | ((with_reducible apply w_val); exact rfl) | ((with_reducible apply w_cel); exact rfl) | with_reducible refine w_c ?_ | with_reducible refine w_op2 ?_ | with_reducible refine w_cons ?_ | with_reducible refine w_nil ?_ | with_reducible refine w_tst ?_ | with_reducible refine w_call ?_ | with_reducible refine w_ix ?_ | with_reducible refine w_bnot ?_ | with_reducible refine w_band ?_ | with_reducible refine w_bor ?_ | with_reducible refine ws_seq ?_ | with_reducible refine ws_asg ?_ | with_reducible refine ws_if ?_ | with_reducible refine ws_ret ?_ | with_reducible refine ws_expr ?_ | with_reducible refine ws_nx ?_ | with_reducible refine w_and ?_ | with_reducible refine w_or ?_ | with_reducible refine w_not ?_ | with_reducible refine w_eif ?_ | with_reducible refine w_tup ?_ | with_reducible refine w_lst ?_ | with_reducible refine w_fld ?_ | with_reducible refine w_cut ?_ | with_reducible refine w_onone ?_ | with_reducible refine w_osome ?_ | with_reducible refine w_fn ?_ | with_reducible refine w_fnK ?_ | with_reducible refine w_mkK ?_ | with_reducible refine w_meth ?_ | with_reducible refine w_comp ?_ | with_reducible refine w_seq ?_ | with_reducible refine w_en ?_ | with_reducible refine w_rg1 ?_ | with_reducible refine w_rg2 ?_ | with_reducible refine w_isi ?_ | with_reducible refine w_isLT ?_ | with_reducible refine w_isOwn ?_ | with_reducible refine w_ss ?_ | with_reducible refine w_chain ?_ | with_reducible refine w_un ?_ | with_reducible refine w_neg ?_ | with_reducible refine w_rep ?_ | with_reducible refine w_lrg ?_ | with_reducible refine w_lrg1 ?_ | with_reducible refine w_tm ?_ | with_reducible refine w_true ?_ | with_reducible refine ws_par ?_ | with_reducible refine w_pcons ?_ | with_reducible refine w_pnil ?_ | with_reducible refine ws_for ?_ | with_reducible refine ws_retN ?_ | with_reducible refine ws_sub ?_ | with_reducible refine ws_fld ?_ | with_reducible refine ws_raise ?_ | with_reducible refine ws_raise2 ?_ | with_reducible refine ws_bk ?_ | with_reducible refine ws_ct ?_ | ((with_reducible apply w_lm); exact rfl)
  | refine ⟨_, _, rfl, rfl, Nat.le_of_ble_eq_true rfl, ?_⟩ | refine ⟨_, _, _, _, rfl, rfl, rfl, (by decide), ?_⟩ | refine ⟨_, _, _, _, rfl, rfl, rfl, ?_⟩ | refine ⟨_, _, _, rfl, rfl, (by decide), ?_⟩ | refine ⟨_, _, _, rfl, rfl, rfl, ?_⟩ | refine ⟨_, _, _, rfl, rfl, ?_⟩ | refine ⟨_, _, rfl, rfl, ?_⟩ | refine ⟨_, _, (rfl : frz _ _ = some (R.ok _ _)), ?_⟩ | refine ⟨_, _, (rfl : stk _ _ = some (R.ok _ _)), ?_⟩ | refine ⟨_, rfl, ?_⟩ | refine ⟨_, _, rfl, Nat.le_of_ble_eq_true rfl, ?_⟩
  | ((with_reducible apply ite_T); exact rfl) | ((with_reducible apply ite_F); exact rfl) | exact ⟨rfl, rfl⟩ | refine ws_seq ?_ | refine ws_if ?_ | refine ws_ret ?_ | refine ws_for ?_ | refine ws_asg ?_ | refine w_c ?_))
def oddMM : List MM := [.ok (.inn 0), .ok (.out 0), .ok (.road 0 1), .bad (.tup [.str "in", .int (-1)]), .bad (.tup [.str "out", .bl true]), .ok (.road 1 0), .bad (.tup [.str "in"]), .bad (.tup [.str "in", .int 0, .int 1]),
  .bad .non, .bad (.lst [.str "in", .int 0]), .bad (.str "in"), .bad (.tup [.str "road", .int 0]), .bad (.tup [.int 0, .str "in"]), .bad (.tup [.str "In", .int 0]), .ok (.inn 9), .ok (.road 0 9), .bad (.tup [.dic [] [], .int 0]),
  .bad (.tup [.str "out", .non]), .bad (.tup [.str "road", .int 0, .bl true]), .bad (.tup [.str "road", .bl false, .int 1])]
theorem odd_fine : ∀ x ∈ oddMM, x.fine := by
  intro x hx
  simp only [oddMM, List.mem_cons, List.not_mem_nil, or_false] at hx
  rcases hx with rfl | rfl | rfl | rfl | rfl | rfl | rfl | rfl | rfl | rfl | rfl | rfl | rfl | rfl | rfl | rfl | rfl | rfl | rfl | rfl <;> simp [MM.fine, badA, badM]
theorem cutT {α : Type} {M : List α} {f : α → D} {a : Nat} (h : a ≤ M.length) : fCut (.lst (M.map f)) none (some (a : Int)) = some (.lst ((M.take a).map f)) := by
  show some (D.lst (cutD (M.map f) none (some (a : Int)))) = _
  rw [cut_to (by rw [List.length_map]; exact h), List.map_take]
theorem cutF {α : Type} {M : List α} {f : α → D} {a : Nat} (h : a ≤ M.length) : fCut (.lst (M.map f)) (some (a : Int)) none = some (.lst ((M.drop a).map f)) := by
  show some (D.lst (cutD (M.map f) (some (a : Int)) none)) = _
  rw [cut_from (by rw [List.length_map]; exact h), List.map_drop]
theorem cutF1 {α : Type} {M : List α} {f : α → D} : fCut (.lst (M.map f)) (some ((M.length : Int) + 1)) none = some (.lst []) := by
  show some (D.lst (cutD (M.map f) (some ((M.length : Int) + 1)) none)) = _
  unfold cutD
  have z : HT.sIx (M.map f).length 0 (some ((M.length : Int) + 1)) = (M.map f).length := by
    unfold HT.sIx
    simp only [List.length_map]
    split <;> omega
  rw [z, List.drop_length]
  simp
theorem cutFs {α : Type} {M : List α} {f : α → D} {a : Nat} (h : a ≤ M.length) : fCut (.lst (M.map f)) (some ((a : Int) + 1)) none = some (.lst ((M.drop (a + 1)).map f)) := by
  by_cases e : a = M.length
  · subst e
    rw [cutF1, List.drop_eq_nil_of_le (by omega)]
    rfl
  · have : (a : Int) + 1 = ((a + 1 : Nat) : Int) := by omega
    rw [this]
    exact cutF (by omega)
theorem cutT0 {α : Type} {M : List α} {f : α → D} {a : Nat} (h : a ≤ M.length) : cutD (M.map f) none (some (a : Int)) = (M.take a).map f := by
  have := cutT (f := f) h
  injection this with this
  injection this
theorem cutF0 {α : Type} {M : List α} {f : α → D} {a : Nat} (h : a ≤ M.length) : cutD (M.map f) (some (a : Int)) none = (M.drop a).map f := by
  have := cutF (f := f) h
  injection this with this
  injection this
theorem cutFs0 {α : Type} {M : List α} {f : α → D} {a : Nat} (h : a ≤ M.length) : cutD (M.map f) (some ((a : Int) + 1)) none = (M.drop (a + 1)).map f := by
  have := cutFs (f := f) h
  injection this with this
  injection this
def bentL (M : List MM) (a : Nat) (x : MM) : List (List MM) := [M.take a ++ [x] ++ M.drop a, M.take a ++ M.drop (a + 1), M.take a, M.drop a, M.take a ++ [x]]
theorem bent_fine {M : List MM} {a : Nat} {x : MM} (hM : ∀ y ∈ M, y.fine) (hx : x.fine) : ∀ L ∈ bentL M a x, (∀ y ∈ L, y.fine) ∧ L.length ≤ M.length + 1 := by
  intro L hL
  simp only [bentL, List.mem_cons, List.not_mem_nil, or_false] at hL
  rcases hL with rfl | rfl | rfl | rfl | rfl
  · refine ⟨fun y hy => ?_, by simp; omega⟩
    simp only [List.mem_append, List.mem_singleton] at hy
    rcases hy with (hy | rfl) | hy
    · exact hM y (List.mem_of_mem_take hy)
    · exact hx
    · exact hM y (List.mem_of_mem_drop hy)
  · refine ⟨fun y hy => ?_, by simp; omega⟩
    simp only [List.mem_append] at hy
    rcases hy with hy | hy
    · exact hM y (List.mem_of_mem_take hy)
    · exact hM y (List.mem_of_mem_drop hy)
  · exact ⟨fun y hy => hM y (List.mem_of_mem_take hy), by simp; omega⟩
  · exact ⟨fun y hy => hM y (List.mem_of_mem_drop hy), by simp; omega⟩
  · refine ⟨fun y hy => ?_, by simp; omega⟩
    simp only [List.mem_append, List.mem_singleton] at hy
    rcases hy with hy | rfl
    · exact hM y (List.mem_of_mem_take hy)
    · exact hx
theorem at_any {α : Type} {M : List α} {f : α → D} {v : Nat} (h : v < M.length) : ∃ x ∈ M, fIx (.lst (M.map f)) (.int (v : Int)) = some (f x) := by
  refine ⟨M[v], List.getElem_mem h, ?_⟩
  show L2.atI (M.map f) (v : Int) = _
  rw [atI_nat (by rw [List.length_map]; exact h), List.getElem?_map, List.getElem?_eq_getElem h]
  rfl
theorem bent_ev {n : Nat} {p : List D} {raw : D} {M : List MM} (hp : Pu n p) (hn : n + 3 ≤ 10 ^ 8) (hM : ∀ y ∈ M, y.fine) (hl : M.length ≤ 300) : ∃ x, f__law_bent [.cel (.lst p), .val raw, .val (.lst (M.map MM.d))] = some x ∧ ∃ (L : List MM) (p' : List D), (∀ y ∈ L, y.fine) ∧ L.length ≤ M.length + 1 ∧ Pu (n + 3) p' ∧ (∀ y ∈ L, y ∈ M ∨ y ∈ oddMM) ∧ x = .ret false (.lst (L.map MM.d)) [.lst p'] := by
  refine fn_any [.cel true (.lst p), .val raw, .val (.lst (M.map MM.d)), .no, .no, .no, .no, .no] ?_
  decreasing_trivial
  refine w_draw (m := M.length + 1) hp (by omega) (by omega) (by rw [List.length_map]; rfl) fun a p1 ha hp1 => ?_
  decreasing_trivial
  refine w_draw (m := 5) hp1 (by omega) (by omega) rfl fun v p2 hv hp2 => ?_
  decreasing_trivial
  refine w_draw (m := 20) hp2 (by omega) (by omega) rfl fun o p3 ho hp3 => ?_
  obtain ⟨x, hx, ex⟩ := at_any (M := oddMM) (f := MM.d) (v := o) ho
  refine ⟨_, _, _, rfl, rfl, ex, ?_⟩
  have hxf := odd_fine x hx
  have ha' : a ≤ M.length := by omega
  have L1 : (M.take a).length ≤ 300 := by simp; omega
  have L2 : (M.drop a).length ≤ 300 := by simp; omega
  have L3 : (M.drop (a + 1)).length ≤ 300 := by simp; omega
  decreasing_trivial
  rw [cutT0 ha']
  refine ⟨_, _, _, rfl, rfl, fAdd_l (by rw [List.length_map, List.length_singleton]; omega), ?_⟩
  decreasing_trivial
  rw [cutF0 ha']
  refine ⟨_, _, _, rfl, rfl, fAdd_l (by rw [List.length_append, List.length_map, List.length_map, List.length_singleton]; omega), ?_⟩
  decreasing_trivial
  rw [cutFs0 ha', cutT0 ha']
  refine ⟨_, _, _, rfl, rfl, fAdd_l (by rw [List.length_map, List.length_map]; omega), ?_⟩
  decreasing_trivial
  rw [cutF0 ha', cutT0 ha']
  refine ⟨_, _, _, rfl, rfl, fAdd_l (by rw [List.length_map, List.length_singleton]; omega), ?_⟩
  have e1 : List.map MM.d (M.take a) ++ [x.d] ++ List.map MM.d (M.drop a) = (M.take a ++ [x] ++ M.drop a).map MM.d := by rw [List.map_append, List.map_append]; rfl
  have e2 : List.map MM.d (M.take a) ++ List.map MM.d (M.drop (a + 1)) = (M.take a ++ M.drop (a + 1)).map MM.d := by rw [List.map_append]
  have e3 : List.map MM.d (M.take a) ++ [x.d] = (M.take a ++ [x]).map MM.d := by rw [List.map_append]; rfl
  rw [e1, e2, e3]
  decreasing_trivial
  obtain ⟨L, hL, eL⟩ := at_any (M := bentL M a x) (f := fun L => D.lst (L.map MM.d)) (v := v) hv
  refine ⟨_, _, _, rfl, rfl, eL, ?_⟩
  obtain ⟨f1, f2⟩ := bent_fine hM hxf L hL
  refine ⟨_, _, _, rfl, rfl, L, p3, f1, f2, hp3, fun y hy => ?_, rfl⟩
  simp only [bentL, List.mem_cons, List.not_mem_nil, or_false] at hL
  rcases hL with rfl | rfl | rfl | rfl | rfl
  · simp only [List.mem_append, List.mem_singleton] at hy
    rcases hy with (hy | rfl) | hy
    · exact .inl (List.mem_of_mem_take hy)
    · exact .inr hx
    · exact .inl (List.mem_of_mem_drop hy)
  · simp only [List.mem_append] at hy
    rcases hy with hy | hy
    · exact .inl (List.mem_of_mem_take hy)
    · exact .inl (List.mem_of_mem_drop hy)
  · exact .inl (List.mem_of_mem_take hy)
  · exact .inl (List.mem_of_mem_drop hy)
  · simp only [List.mem_append, List.mem_singleton] at hy
    rcases hy with hy | rfl
    · exact .inl (List.mem_of_mem_take hy)
    · exact .inr hx
end LAW

set_option Elab.async false
set_option linter.all false
set_option maxRecDepth 100000
set_option maxHeartbeats 4000000
namespace LAW
open PySem Z
local macro_rules | `(tactic| decreasing_trivial) => `(tactic| repeat (first
  | ((with_reducible apply w_val); exact rfl) | ((with_reducible apply w_cel); exact rfl) | with_reducible refine w_c ?_ | with_reducible refine w_op2 ?_ | with_reducible refine w_cons ?_ | with_reducible refine w_nil ?_ | with_reducible refine w_tst ?_ | with_reducible refine w_call ?_ | with_reducible refine w_ix ?_ | with_reducible refine w_bnot ?_ | with_reducible refine w_band ?_ | with_reducible refine w_bor ?_ | with_reducible refine ws_seq ?_ | with_reducible refine ws_asg ?_ | with_reducible refine ws_if ?_ | with_reducible refine ws_ret ?_ | with_reducible refine ws_expr ?_ | with_reducible refine ws_nx ?_ | with_reducible refine w_and ?_ | with_reducible refine w_or ?_ | with_reducible refine w_not ?_ | with_reducible refine w_eif ?_ | with_reducible refine w_tup ?_ | with_reducible refine w_lst ?_ | with_reducible refine w_fld ?_ | with_reducible refine w_cut ?_ | with_reducible refine w_onone ?_ | with_reducible refine w_osome ?_ | with_reducible refine w_fn ?_ | with_reducible refine w_fnK ?_ | with_reducible refine w_mkK ?_ | with_reducible refine w_meth ?_ | with_reducible refine w_comp ?_ | with_reducible refine w_seq ?_ | with_reducible refine w_en ?_ | with_reducible refine w_rg1 ?_ | with_reducible refine w_rg2 ?_ | with_reducible refine w_isi ?_ | with_reducible refine w_isLT ?_ | with_reducible refine w_isOwn ?_ | with_reducible refine w_ss ?_ | with_reducible refine w_chain ?_ | with_reducible refine w_un ?_ | with_reducible refine w_neg ?_ | with_reducible refine w_rep ?_ | with_reducible refine w_lrg ?_ | with_reducible refine w_lrg1 ?_ | with_reducible refine w_tm ?_ | with_reducible refine w_true ?_ | with_reducible refine ws_par ?_ | with_reducible refine w_pcons ?_ | with_reducible refine w_pnil ?_ | with_reducible refine ws_for ?_ | with_reducible refine ws_retN ?_ | with_reducible refine ws_sub ?_ | with_reducible refine ws_fld ?_ | with_reducible refine ws_raise ?_ | with_reducible refine ws_raise2 ?_ | with_reducible refine ws_bk ?_ | with_reducible refine ws_ct ?_ | ((with_reducible apply w_lm); exact rfl)
  | refine ⟨_, _, rfl, rfl, Nat.le_of_ble_eq_true rfl, ?_⟩ | refine ⟨_, _, _, _, rfl, rfl, rfl, (by decide), ?_⟩ | refine ⟨_, _, _, _, rfl, rfl, rfl, ?_⟩ | refine ⟨_, _, _, rfl, rfl, (by decide), ?_⟩ | refine ⟨_, _, _, rfl, rfl, rfl, ?_⟩ | refine ⟨_, _, _, rfl, rfl, ?_⟩ | refine ⟨_, _, rfl, rfl, ?_⟩ | refine ⟨_, _, (rfl : frz _ _ = some (R.ok _ _)), ?_⟩ | refine ⟨_, _, (rfl : stk _ _ = some (R.ok _ _)), ?_⟩ | refine ⟨_, rfl, ?_⟩ | refine ⟨_, _, rfl, Nat.le_of_ble_eq_true rfl, ?_⟩
  | ((with_reducible apply ite_T); exact rfl) | ((with_reducible apply ite_F); exact rfl) | exact ⟨rfl, rfl⟩ | refine ws_seq ?_ | refine ws_if ?_ | refine ws_ret ?_ | refine ws_for ?_ | refine ws_asg ?_ | refine w_c ?_))
theorem ok_mv {mv : Mv} (h : mvIn 4 mv) : OkD 60 6 mv.d := by
  cases mv with
  | inn u => exact okD_lt (b := 4) (f := fun u => (Mv.inn u).d) (by decide +kernel) h
  | out u => exact okD_lt (b := 4) (f := fun u => (Mv.out u).d) (by decide +kernel) h
  | road u v =>
    have z : ∀ u : Nat, u < 4 → ((List.range 4).all fun v => okDb 60 6 (Mv.road u v).d) = true := by
      intro u hu
      match u, hu with
      | 0, _ => decide +kernel
      | 1, _ => decide +kernel
      | 2, _ => decide +kernel
      | 3, _ => decide +kernel
      | u + 4, h => exact absurd h (by omega)
    exact .of (List.all_eq_true.mp (z u h.1) v (List.mem_range.mpr h.2))
theorem ok_odd : ∀ x ∈ oddMM, OkD 60 6 x.d := fun x hx => .of (List.all_eq_true.mp (by decide +kernel : (oddMM.all fun x => okDb 60 6 x.d) = true) x hx)
def Row.good (w : Row) : Prop := w.fine ∧ OkD 6000 8 w.d
theorem good_seq (b : Bool) {ms : List MM} (hf : ∀ x ∈ ms, x.fine) (ho : ∀ x ∈ ms, OkD 60 6 x.d) (hl : ms.length ≤ 80) : (Row.seq b ms).good := by
  refine ⟨⟨hf, by omega⟩, ?_⟩
  have h : ∀ d ∈ ms.map MM.d, OkD 60 6 d := fun d hd => by
    obtain ⟨x, hx, rfl⟩ := List.mem_map.mp hd
    exact ho x hx
  have l : (ms.map MM.d).length = ms.length := List.length_map ..
  cases b with
  | false => exact (OkD.lst h).mono (by rw [l]; omega) (by omega)
  | true => exact (OkD.tup h).mono (by rw [l]; omega) (by omega)
def oddRows : List Row := [.odd .non, .odd (.int 5), .odd (.str "in"), .odd (.dic [] []), .odd (.bl true), .seq false [.bad (.lst [])], .seq false [.bad (.tup [.str "in"])], .seq true [.bad (.dic [] [])]]
theorem good_odd : ∀ w ∈ oddRows, w.good := by
  have z : ∀ w ∈ oddRows, OkD 6000 8 w.d := fun w hw => .of (List.all_eq_true.mp (by decide +kernel : (oddRows.all fun w => okDb 6000 8 w.d) = true) w hw)
  intro w hw
  refine ⟨?_, z w hw⟩
  simp only [oddRows, List.mem_cons, List.not_mem_nil, or_false] at hw
  rcases hw with rfl | rfl | rfl | rfl | rfl | rfl | rfl | rfl <;> simp [Row.fine, oddR, MM.fine, badA, badM]
theorem ok_map {ms : List Mv} {n : Nat} (h : ∀ mv ∈ ms, mvIn n mv) (hn : n ≤ 4) : (∀ x ∈ ms.map MM.ok, x.fine) ∧ ∀ x ∈ ms.map MM.ok, OkD 60 6 x.d := by
  constructor
  · intro x hx
    obtain ⟨mv, _, rfl⟩ := List.mem_map.mp hx
    exact True.intro
  · intro x hx
    obtain ⟨mv, hm, rfl⟩ := List.mem_map.mp hx
    refine ok_mv ?_
    have := h mv hm
    cases mv with
    | inn u => exact Nat.lt_of_lt_of_le this hn
    | out u => exact Nat.lt_of_lt_of_le this hn
    | road u v => exact ⟨Nat.lt_of_lt_of_le this.1 hn, Nat.lt_of_lt_of_le this.2 hn⟩
theorem map_ok (ms : List Mv) : (ms.map MM.ok).map MM.d = ms.map Mv.d := by
  rw [List.map_map]
  rfl
theorem ne_bl (a : Bool) : fNe (.str (if a then "True" else "False")) (.str (if a then "True" else "False")) = some (.bl false) := by
  unfold fNe
  rw [eq_bl]
  simp
theorem ne_str {s : Str} (h : eqD (.str s) (.str s) = some true) : fNe (.str s) (.str s) = some (.bl false) := by
  unfold fNe
  rw [h]
  rfl
theorem ne_cells (g : List Nat) : fNe (cD g) (cD g) = some (.bl false) := by
  have h := eq_cells g g
  unfold fEq at h
  unfold fNe
  cases e : eqD (cD g) (cD g) with
  | none =>
    rw [e] at h
    cases h
  | some c =>
    rw [e] at h
    simp at h
    subst h
    rfl
def bodyR : S := (sSeq (sAsg (eFn f__law_order_in [false, false] (aCons (eVar 1) (aCons (eVar 6) aNil))) (tgName 7)) (sSeq (sIf (bOr (tst (eOp2 fNe (eCall fStr2 (aCons (eFn f_is_run [false, false] (aCons (eVar 2) (aCons (eVar 6) aNil))) aNil)) (eCall fStr2 (aCons (eOp2 fIsN (eVar 7) (eC .non)) aNil)))) (tst (eOp2 fNe (eCall fStr2 (aCons (eFnK f_is_run [false, false] 0 2 [1, 0] [] aNil (aCons (eVar 6) (aCons (eVar 2) aNil))) aNil)) (eCall fStr2 (aCons (eOp2 fIsN (eVar 7) (eC .non)) aNil))))) (sRet (eC (.bl false))) sNx) (sSeq (sIf (bAnd (tst (eOp2 fIs (eVar 7) (eC .non))) (tst (eOp2 fNe (eCall fStr2 (aCons (eFn f__law_caught [false, false] (aCons (eVar 2) (aCons (eVar 6) aNil))) aNil)) (eCall fStr2 (aCons (eLst (aCons (eC (.str "move")) (aCons (eVar 6) aNil))) aNil))))) (sRet (eC (.bl false))) sNx) (sIf (tst (eOp2 fIsN (eVar 7) (eC .non))) (sIf (bOr (tst (eOp2 fNe (eFn f_order_made [false, false] (aCons (eVar 2) (aCons (eVar 6) aNil))) (eVar 7))) (tst (eOp2 fNe (eFnK f_order_made [false, false] 0 2 [1, 0] [] aNil (aCons (eVar 6) (aCons (eVar 2) aNil))) (eVar 7)))) (sRet (eC (.bl false))) sNx) sNx))))
theorem row_ev {p : List D} {r : Raw} {m k : Nat} {s3 s4 s5 s7 : Sl} {w : Row} {N B C : E → Prop} {T : Rf → E → Prop} {X : Ex → E → Prop} (h : r.Ok m k) (hm : m ≤ 100) (hw : w.good) (o7 : okSlot [s7] 0 = true)
    (hN : ∀ s7, okSlot [s7] 0 = true → N [.cel true (.lst p), .val r.d, .val (yardD r), s3, s4, s5, .val w.d, s7]) :
    wS bodyR N T B C X [.cel true (.lst p), .val r.d, .val (yardD r), s3, s4, s5, .val w.d, s7] := by
  obtain ⟨z, hz, he⟩ := fStr_ok (n := 6000) (k := 8) (ds := [.str "move", w.d]) (by
    intro d hd
    simp only [List.mem_cons, List.not_mem_nil, or_false] at hd
    rcases hd with rfl | rfl
    · exact .of (by decide +kernel)
    · exact hw.2) (by decide) (by simp)
  refine ws_seq (ws_asg (w_fn (w_cons (w_val rfl ?_))))
  refine w_cons (w_val rfl (w_nil (w_fnL (lorder_row_ev h hm hw.1) ⟨_, _, _, _, rfl, rfl, rfl, by decide, ?_⟩)))
  refine ⟨[.cel true (.lst p), .val r.d, .val (yardD r), s3, s4, s5, .val w.d, .val (ordD (dueR r w))], ?_, ?_⟩
  · unfold tgName
    rw [if_pos (show okSlot _ 7 = true from o7)]
    rfl
  refine ws_seq (ws_if (w_bor (w_tst (w_op2 (w_call (w_cons (w_fn (w_cons (w_val rfl ?_)))))))))
  refine w_cons (w_val rfl (w_nil (w_fnL (is_run_ev h hm hw.1) ⟨_, _, _, _, rfl, rfl, rfl, by decide, ?_⟩)))
  refine w_nil ⟨_, _, rfl, rfl, ?_⟩
  refine w_call (w_cons (w_op2 (w_val rfl (w_c ⟨_, _, _, rfl, rfl, ord_non _, w_nil ⟨_, _, rfl, rfl, ?_⟩⟩))))
  refine ⟨_, _, _, rfl, rfl, ne_bl _, ⟨_, rfl, ite_F rfl ?_⟩⟩
  refine w_tst (w_op2 (w_call (w_cons (w_fnK (w_nil (w_cons (w_val rfl (w_cons (w_val rfl (w_nil ⟨⟨rfl, rfl⟩, ?_⟩))))))))))
  refine w_fnL (is_run_ev h hm hw.1) ⟨_, _, _, _, rfl, rfl, rfl, by decide, ?_⟩
  refine w_nil ⟨_, _, rfl, rfl, ?_⟩
  refine w_call (w_cons (w_op2 (w_val rfl (w_c ⟨_, _, _, rfl, rfl, ord_non _, w_nil ⟨_, _, rfl, rfl, ?_⟩⟩))))
  refine ⟨_, _, _, rfl, rfl, ne_bl _, ⟨_, rfl, ite_F rfl (ws_nx ?_)⟩⟩
  refine ws_seq (ws_if (w_band (w_tst (w_op2 (w_val rfl (w_c ⟨_, _, _, rfl, rfl, ord_is _, ⟨_, rfl, ?_⟩⟩))))))
  cases hd : dueR r w with
  | none =>
    refine ite_T rfl (w_tst (w_op2 (w_call (w_cons (w_fn (w_cons (w_val rfl ?_)))))))
    refine w_cons (w_val rfl (w_nil (w_fnL (caught_ev h hm hw.1 hd) ⟨_, _, _, _, rfl, rfl, rfl, by decide, ?_⟩)))
    refine w_nil ⟨_, _, rfl, hz, ?_⟩
    refine w_call (w_cons (w_lst (w_cons (w_c (w_cons (w_val rfl (w_nil ⟨_, _, rfl, Nat.le_of_ble_eq_true rfl, w_nil ⟨_, _, rfl, hz, ?_⟩⟩)))))))
    refine ⟨_, _, _, rfl, rfl, ne_str he, ⟨_, rfl, ite_F rfl (ws_nx ?_)⟩⟩
    refine ws_if (w_tst (w_op2 (w_val rfl (w_c ⟨_, _, _, rfl, rfl, ord_non none, ⟨_, rfl, ite_F rfl (ws_nx ?_)⟩⟩))))
    exact hN _ rfl
  | some g =>
    refine ite_F rfl (ite_F rfl (ws_nx ?_))
    refine ws_if (w_tst (w_op2 (w_val rfl (w_c ⟨_, _, _, rfl, rfl, ord_non (some g), ⟨_, rfl, ite_T rfl ?_⟩⟩))))
    refine ws_if (w_bor (w_tst (w_op2 (w_fn (w_cons (w_val rfl ?_))))))
    refine w_cons (w_val rfl (w_nil (w_fnL (made_ev h hm hw.1 hd) ⟨_, _, _, _, rfl, rfl, rfl, by decide, w_val rfl ⟨_, _, _, rfl, rfl, ne_cells g, ⟨_, rfl, ite_F rfl ?_⟩⟩⟩)))
    refine w_tst (w_op2 (w_fnK (w_nil (w_cons (w_val rfl (w_cons (w_val rfl (w_nil ⟨⟨rfl, rfl⟩, ?_⟩))))))))
    refine w_fnL (made_ev h hm hw.1 hd) ⟨_, _, _, _, rfl, rfl, rfl, by decide, w_val rfl ⟨_, _, _, rfl, rfl, ne_cells g, ⟨_, rfl, ite_F rfl (ws_nx ?_)⟩⟩⟩
    exact hN _ rfl
end LAW

set_option Elab.async false
set_option linter.all false
set_option maxRecDepth 100000
set_option maxHeartbeats 4000000
namespace LAW
open PySem Z
local macro_rules | `(tactic| decreasing_trivial) => `(tactic| repeat (first
  | ((with_reducible apply w_val); exact rfl) | ((with_reducible apply w_cel); exact rfl) | with_reducible refine w_c ?_ | with_reducible refine w_op2 ?_ | with_reducible refine w_cons ?_ | with_reducible refine w_nil ?_ | with_reducible refine w_tst ?_ | with_reducible refine w_call ?_ | with_reducible refine w_ix ?_ | with_reducible refine w_bnot ?_ | with_reducible refine w_band ?_ | with_reducible refine w_bor ?_ | with_reducible refine ws_seq ?_ | with_reducible refine ws_asg ?_ | with_reducible refine ws_if ?_ | with_reducible refine ws_ret ?_ | with_reducible refine ws_expr ?_ | with_reducible refine ws_nx ?_ | with_reducible refine w_and ?_ | with_reducible refine w_or ?_ | with_reducible refine w_not ?_ | with_reducible refine w_eif ?_ | with_reducible refine w_tup ?_ | with_reducible refine w_lst ?_ | with_reducible refine w_fld ?_ | with_reducible refine w_cut ?_ | with_reducible refine w_onone ?_ | with_reducible refine w_osome ?_ | with_reducible refine w_fn ?_ | with_reducible refine w_fnK ?_ | with_reducible refine w_mkK ?_ | with_reducible refine w_meth ?_ | with_reducible refine w_comp ?_ | with_reducible refine w_seq ?_ | with_reducible refine w_en ?_ | with_reducible refine w_rg1 ?_ | with_reducible refine w_rg2 ?_ | with_reducible refine w_isi ?_ | with_reducible refine w_isLT ?_ | with_reducible refine w_isOwn ?_ | with_reducible refine w_ss ?_ | with_reducible refine w_chain ?_ | with_reducible refine w_un ?_ | with_reducible refine w_neg ?_ | with_reducible refine w_rep ?_ | with_reducible refine w_lrg ?_ | with_reducible refine w_lrg1 ?_ | with_reducible refine w_tm ?_ | with_reducible refine w_true ?_ | with_reducible refine ws_par ?_ | with_reducible refine w_pcons ?_ | with_reducible refine w_pnil ?_ | with_reducible refine ws_for ?_ | with_reducible refine ws_retN ?_ | with_reducible refine ws_sub ?_ | with_reducible refine ws_fld ?_ | with_reducible refine ws_raise ?_ | with_reducible refine ws_raise2 ?_ | with_reducible refine ws_bk ?_ | with_reducible refine ws_ct ?_ | ((with_reducible apply w_lm); exact rfl)
  | refine ⟨_, _, rfl, rfl, Nat.le_of_ble_eq_true rfl, ?_⟩ | refine ⟨_, _, _, _, rfl, rfl, rfl, (by decide), ?_⟩ | refine ⟨_, _, _, _, rfl, rfl, rfl, ?_⟩ | refine ⟨_, _, _, rfl, rfl, (by decide), ?_⟩ | refine ⟨_, _, _, rfl, rfl, rfl, ?_⟩ | refine ⟨_, _, _, rfl, rfl, ?_⟩ | refine ⟨_, _, rfl, rfl, ?_⟩ | refine ⟨_, _, (rfl : frz _ _ = some (R.ok _ _)), ?_⟩ | refine ⟨_, _, (rfl : stk _ _ = some (R.ok _ _)), ?_⟩ | refine ⟨_, rfl, ?_⟩ | refine ⟨_, _, rfl, Nat.le_of_ble_eq_true rfl, ?_⟩
  | ((with_reducible apply ite_T); exact rfl) | ((with_reducible apply ite_F); exact rfl) | exact ⟨rfl, rfl⟩ | refine ws_seq ?_ | refine ws_if ?_ | refine ws_ret ?_ | refine ws_for ?_ | refine ws_asg ?_ | refine w_c ?_))
theorem w_raw {n m : Nat} {p : List D} {rest : E} {i : Int} {K : Rf → E → Prop} {X : Ex → E → Prop} (hp : Pu n p) (hn : n + 60 ≤ 10 ^ 8) (hm : 1 ≤ m ∧ m ≤ 4) (hi : i = (m : Int))
    (h : ∀ (r : Raw) p', r.Ok m 16 → Pu (n + 60) p' → K (.dat r.d) (.cel true (.lst p') :: rest)) : wM (eFnL f__law_raw [true, false] [.cel 0, .dat (.int i)]) K X (.cel true (.lst p) :: rest) := by
  subst hi
  obtain ⟨x, e, r, p', h1, h2, rfl⟩ := raw_ev hp hn hm
  refine w_fnL e ?_
  exact ⟨[some 0, none], _, _, _, rfl, rfl, rfl, by decide, h r p' h1 h2⟩
theorem w_led {n m k most : Nat} {p : List D} {r : Raw} {rest : E} {i : Int} {K : Rf → E → Prop} {X : Ex → E → Prop} (hp : Pu n p) (hr : r.Ok m k) (hm : m ≤ 100) (hk : k ≤ 100) (hmo : most ≤ 100) (hn : n + most ≤ 10 ^ 8) (hi : i = (most : Int))
    (h : ∀ (ms : List Mv) p', ms.length ≤ most → (∀ mv ∈ ms, mvIn r.n mv) → Pu (n + most) p' → K (.new (ms.map Mv.d)) (.cel true (.lst p') :: rest)) : wM (eFnL f__law_led [true, false, false] [.cel 0, .dat r.d, .dat (.int i)]) K X (.cel true (.lst p) :: rest) := by
  subst hi
  obtain ⟨x, e, ms, p', h1, h2, h3, rfl⟩ := led_ev hp hr hm hk hmo hn
  refine w_fnL e ?_
  exact ⟨[some 0, none, none], _, _, _, rfl, rfl, rfl, by decide, h ms p' h1 h2 h3⟩
theorem odd_rows_d : (oddRows.map Row.d) = [.non, .int 5, .str "in", .dic [] [], .bl true, .lst [.lst []], .lst [.tup [.str "in"]], .tup [.dic [] []]] := rfl
theorem is_true (b : Bool) : fIs (.bl b) (.bl true) = some (.bl b) := by cases b <;> rfl
theorem right_ev {n : Nat} {p : List D} (hp : Pu n p) (hn : n + 200 ≤ 10 ^ 8) : ∃ x, f__law_right [.cel (.lst p)] = some x ∧ ∃ p', Pu (n + 200) p' ∧ x = .ret false (.bl true) [.lst p'] := by
  refine fn_any [.cel true (.lst p), .no, .no, .no, .no, .no, .no, .no] ?_
  refine ws_seq (ws_asg (w_fn (w_cons (w_cel rfl (w_cons (w_c (w_nil ?_)))))))
  refine w_raw (m := 4) hp (by omega) (by omega) rfl fun r p1 hr hp1 => ⟨_, rfl, ?_⟩
  refine ws_seq (ws_asg (w_fn (w_cons (w_val rfl (w_nil (w_fnL (built_ev hr (by decide)) ⟨_, _, _, _, rfl, rfl, rfl, by decide, ⟨_, rfl, ?_⟩⟩))))))
  refine ws_seq (ws_asg (w_fn (w_cons (w_cel rfl (w_cons (w_val rfl (w_cons (w_op2 (w_c (w_fn (w_cons (w_cel rfl (w_cons (w_c (w_nil ?_)))))))))))))))
  refine w_draw (m := 30) hp1 (by omega) (by omega) rfl fun v p2 hv hp2 => ⟨_, _, _, rfl, rfl, rfl, w_nil ?_⟩
  refine w_led (most := 4 + v) hp2 hr (by omega) (by omega) (by omega) (by omega) rfl fun ms p3 hms1 hms2 hp3 => ⟨_, rfl, ?_⟩
  obtain ⟨f1, o1⟩ := ok_map hms2 hr.nm
  refine ws_seq (ws_asg (w_fn (w_cons (w_cel rfl (w_cons (w_fn (w_cons (w_cel rfl (w_cons (w_val rfl (w_nil ?_)))))))))))
  refine w_flip hp3 (by omega) hr (by omega) (by omega) fun r2 p4 hr2 hp4 => w_nil ?_
  refine w_flip hp4 (by omega) hr2 (by omega) (by omega) fun r3 p5 hr3 hp5 => ⟨_, rfl, ?_⟩
  refine ws_seq (ws_asg (w_lst (w_cons (w_cel rfl (w_cons (w_call (w_cons (w_cel rfl (w_nil ⟨_, _, rfl, rfl, ?_⟩)))))))))
  refine w_cons (w_fn (w_cons (w_cel rfl (w_cons (w_val rfl (w_cons (w_cel rfl (w_nil ?_))))))))
  obtain ⟨x1, e1, L1, p6, L1f, L1l, hp6, L1m, rfl⟩ := bent_ev (raw := r.d) (M := ms.map MM.ok) hp5 (by omega) f1 (by rw [List.length_map]; omega)
  rw [map_ok] at e1
  rw [List.length_map] at L1l
  refine w_fnL e1 ⟨[some 0, none, none], _, _, _, rfl, rfl, rfl, by decide, ?_⟩
  refine w_cons (w_fn (w_cons (w_cel rfl (w_cons (w_val rfl (w_cons (w_cut (w_val rfl (w_onone (w_osome (w_c ⟨_, rfl, _, _, rfl, rfl, w_nil ?_⟩)))))))))))
  have c6 : cutD (ms.map Mv.d) none (some 6) = ((ms.take 6).map MM.ok).map MM.d := by
    rw [map_ok]
    unfold cutD
    have z : HT.sIx (ms.map Mv.d).length (ms.map Mv.d).length (some 6) = min 6 ms.length := by
      rw [List.length_map]
      exact HT.sIx_nat _ _ 6
    rw [z, HT.sIx_none, List.drop_zero, Nat.sub_zero, List.map_take]
    by_cases q : 6 ≤ ms.length
    · rw [Nat.min_eq_left q]
    · rw [Nat.min_eq_right (by omega), List.take_of_length_le (by rw [List.length_map]; omega), List.take_of_length_le (by rw [List.length_map]; omega)]
  have t6 : (ms.take 6).length ≤ ms.length := by rw [List.length_take]; omega
  obtain ⟨f2, o2⟩ := ok_map (ms := ms.take 6) (fun mv h => hms2 mv (List.mem_of_mem_take h)) hr.nm
  obtain ⟨x2, e2, L2, p7, L2f, L2l, hp7, L2m, rfl⟩ := bent_ev (raw := r.d) (M := (ms.take 6).map MM.ok) hp6 (by omega) f2 (by rw [List.length_map]; omega)
  rw [List.length_map] at L2l
  rw [← c6] at e2
  refine w_fnL e2 ⟨[some 0, none, none], _, _, _, rfl, rfl, rfl, by decide, ?_⟩
  refine w_nil ⟨_, _, rfl, Nat.le_of_ble_eq_true rfl, ⟨_, rfl, ?_⟩⟩
  refine ws_seq (ws_asg (w_op2 (w_cel rfl (w_lst (w_cons (w_fn (w_cons (w_cel rfl (w_cons (w_val rfl (w_cons (w_op2 (w_c (w_fn (w_cons (w_cel rfl (w_cons (w_c (w_nil ?_)))))))))))))))))))
  refine w_draw (m := 20) hp7 (by omega) (by omega) rfl fun v2 p8 hv2 hp8 => ⟨_, _, _, rfl, rfl, rfl, w_nil ?_⟩
  refine w_led (most := 4 + v2) hp8 hr3 (by omega) (by omega) (by omega) (by omega) rfl fun m2 p9 g1 g2 hp9 => ?_
  refine w_cons (w_fn (w_cons (w_cel rfl (w_cons (w_val rfl (w_cons (w_c (w_nil ?_))))))))
  refine w_led (most := 8) hp9 hr3 (by omega) (by omega) (by omega) (by omega) rfl fun m3 p10 g3 g4 hp10 => ?_
  refine w_nil ⟨_, _, rfl, Nat.le_of_ble_eq_true rfl, ⟨_, _, _, rfl, rfl, rfl, ⟨_, rfl, ?_⟩⟩⟩
  obtain ⟨f3, o3⟩ := ok_map g2 hr3.nm
  obtain ⟨f4, o4⟩ := ok_map g4 hr3.nm
  have od : ∀ x ∈ oddMM, x.fine := odd_fine
  have ok1 : ∀ x ∈ L1, OkD 60 6 x.d := fun x hx => (L1m x hx).elim (o1 x) (ok_odd x)
  have ok2 : ∀ x ∈ L2, OkD 60 6 x.d := fun x hx => (L2m x hx).elim (o2 x) (ok_odd x)
  refine ws_seq (ws_expr (w_lm rfl (w_cons (w_ix (w_lst ?_)))))
  decreasing_trivial
  refine w_draw (m := 8) hp10 (by omega) (by omega) rfl fun o p11 ho hp11 => ?_
  obtain ⟨ow, how, eo⟩ := at_any (M := oddRows) (f := Row.d) (v := o) ho
  refine ⟨_, _, _, rfl, rfl, eo, w_nil ⟨_, _, _, _, _, _, rfl, rfl, rfl, ?_⟩⟩
  refine ws_seq (ws_for (w_seq (w_cel rfl ⟨_, _, _, rfl, rfl, ?_⟩)))
  let rows : List Row := [.seq false (ms.map .ok), .seq true (ms.map .ok), .seq false L1, .seq false L2, .seq false (m2.map .ok), .seq false (m3.map .ok), ow]
  have good : ∀ w ∈ rows, w.good := by
    intro w hw
    simp only [rows, List.mem_cons, List.not_mem_nil, or_false] at hw
    rcases hw with rfl | rfl | rfl | rfl | rfl | rfl | rfl
    · exact good_seq _ f1 o1 (by rw [List.length_map]; omega)
    · exact good_seq _ f1 o1 (by rw [List.length_map]; omega)
    · exact good_seq _ L1f ok1 (by omega)
    · exact good_seq _ L2f ok2 (by omega)
    · exact good_seq _ f3 o3 (by rw [List.length_map]; omega)
    · exact good_seq _ f4 o4 (by rw [List.length_map]; omega)
    · exact good_odd _ how
  have rowsD : rows.map Row.d = [.lst (ms.map Mv.d), .tup (ms.map Mv.d), .lst (L1.map MM.d), .lst (L2.map MM.d), .lst (m2.map Mv.d), .lst (m3.map Mv.d), ow.d] := by
    simp only [rows, List.map_cons, List.map_nil, Row.d, isSeq, map_ok]
    rfl
  show wS (forL (tgName 6) bodyR [.lst (ms.map Mv.d), .tup (ms.map Mv.d), .lst (L1.map MM.d), .lst (L2.map MM.d), .lst (m2.map Mv.d), .lst (m3.map Mv.d), ow.d]) _ _ _ _ _ _
  rw [← rowsD]
  refine ws_forL (fun j ρ => ∃ s6 s7, okSlot [s6] 0 = true ∧ okSlot [s7] 0 = true ∧ ρ = [.cel true (.lst p11), .val r.d, .val (yardD r), .val (.lst (ms.map Mv.d)), .val r3.d, .val (.lst (rows.map Row.d)), s6, s7]) _ 0 _ ⟨.no, .no, rfl, rfl, by rw [rowsD]; rfl⟩ ?_ ?_
  · rintro j d ρ hd ⟨s6, s7, q6, q7, rfl⟩
    rw [List.getElem?_map] at hd
    cases e : rows[j]? with
    | none =>
      rw [e] at hd
      cases hd
    | some w =>
      rw [e] at hd
      cases hd
      refine ⟨[.cel true (.lst p11), .val r.d, .val (yardD r), .val (.lst (ms.map Mv.d)), .val r3.d, .val (.lst (rows.map Row.d)), .val w.d, s7], ?_, ?_⟩
      · unfold tgName
        rw [if_pos (show okSlot _ 6 = true from q6)]
        rfl
      · exact row_ev hr (by omega) (good w (List.mem_of_getElem? e)) q7 fun s7 o7 => ⟨_, s7, rfl, o7, rfl⟩
  · rintro ρ ⟨s6, s7, q6, q7, rfl⟩
    have z1 := is_run_ev hr (by omega) (w := .seq false []) (by simp [Row.fine])
    have z2 := made_ev hr (by omega) (w := .seq true []) (g := []) (by simp [Row.fine]) (by simp [dueR, orderIn, walkL, st0])
    refine ws_ret (w_and (w_op2 (w_fn (w_cons (w_val rfl (w_cons (w_lst (w_nil ⟨_, _, rfl, Nat.le_of_ble_eq_true rfl, w_nil ?_⟩))))))))
    refine w_fnL z1 ⟨_, _, _, _, rfl, rfl, rfl, by decide, w_c ⟨_, _, _, rfl, rfl, is_true _, ⟨_, rfl, ?_⟩⟩⟩
    have y : decide (dueR r (.seq false []) ≠ none) = true := by simp [dueR, orderIn, walkL, st0]
    refine ite_T y ?_
    refine w_op2 (w_fn (w_cons (w_val rfl (w_cons (w_tup (w_nil ⟨_, _, rfl, Nat.le_of_ble_eq_true rfl, w_nil ?_⟩))))))
    refine w_fnL z2 ⟨_, _, _, _, rfl, rfl, rfl, by decide, w_tup (w_nil ⟨_, _, rfl, Nat.le_of_ble_eq_true rfl, ⟨_, _, _, rfl, rfl, rfl, ?_⟩⟩)⟩
    exact ⟨_, _, _, rfl, rfl, p11, hp11.mono (by omega), rfl⟩
end LAW

set_option Elab.async false
set_option linter.all false
set_option maxRecDepth 100000
set_option maxHeartbeats 4000000
namespace LAW
open PySem Z
local macro_rules | `(tactic| decreasing_trivial) => `(tactic| repeat (first
  | ((with_reducible apply w_val); exact rfl) | ((with_reducible apply w_cel); exact rfl) | with_reducible refine w_c ?_ | with_reducible refine w_op2 ?_ | with_reducible refine w_cons ?_ | with_reducible refine w_nil ?_ | with_reducible refine w_tst ?_ | with_reducible refine w_call ?_ | with_reducible refine w_ix ?_ | with_reducible refine w_bnot ?_ | with_reducible refine w_band ?_ | with_reducible refine w_bor ?_ | with_reducible refine ws_seq ?_ | with_reducible refine ws_asg ?_ | with_reducible refine ws_if ?_ | with_reducible refine ws_ret ?_ | with_reducible refine ws_expr ?_ | with_reducible refine ws_nx ?_ | with_reducible refine w_and ?_ | with_reducible refine w_or ?_ | with_reducible refine w_not ?_ | with_reducible refine w_eif ?_ | with_reducible refine w_tup ?_ | with_reducible refine w_lst ?_ | with_reducible refine w_fld ?_ | with_reducible refine w_cut ?_ | with_reducible refine w_onone ?_ | with_reducible refine w_osome ?_ | with_reducible refine w_fn ?_ | with_reducible refine w_fnK ?_ | with_reducible refine w_mkK ?_ | with_reducible refine w_meth ?_ | with_reducible refine w_comp ?_ | with_reducible refine w_seq ?_ | with_reducible refine w_en ?_ | with_reducible refine w_rg1 ?_ | with_reducible refine w_rg2 ?_ | with_reducible refine w_isi ?_ | with_reducible refine w_isLT ?_ | with_reducible refine w_isOwn ?_ | with_reducible refine w_ss ?_ | with_reducible refine w_chain ?_ | with_reducible refine w_un ?_ | with_reducible refine w_neg ?_ | with_reducible refine w_rep ?_ | with_reducible refine w_lrg ?_ | with_reducible refine w_lrg1 ?_ | with_reducible refine w_tm ?_ | with_reducible refine w_true ?_ | with_reducible refine ws_par ?_ | with_reducible refine w_pcons ?_ | with_reducible refine w_pnil ?_ | with_reducible refine ws_for ?_ | with_reducible refine ws_retN ?_ | with_reducible refine ws_sub ?_ | with_reducible refine ws_fld ?_ | with_reducible refine ws_raise ?_ | with_reducible refine ws_raise2 ?_ | with_reducible refine ws_bk ?_ | with_reducible refine ws_ct ?_ | ((with_reducible apply w_lm); exact rfl)
  | refine ⟨_, _, rfl, rfl, Nat.le_of_ble_eq_true rfl, ?_⟩ | refine ⟨_, _, _, _, rfl, rfl, rfl, (by decide), ?_⟩ | refine ⟨_, _, _, _, rfl, rfl, rfl, ?_⟩ | refine ⟨_, _, _, rfl, rfl, (by decide), ?_⟩ | refine ⟨_, _, _, rfl, rfl, rfl, ?_⟩ | refine ⟨_, _, _, rfl, rfl, ?_⟩ | refine ⟨_, _, rfl, rfl, ?_⟩ | refine ⟨_, _, (rfl : frz _ _ = some (R.ok _ _)), ?_⟩ | refine ⟨_, _, (rfl : stk _ _ = some (R.ok _ _)), ?_⟩ | refine ⟨_, rfl, ?_⟩ | refine ⟨_, _, rfl, Nat.le_of_ble_eq_true rfl, ?_⟩
  | ((with_reducible apply ite_T); exact rfl) | ((with_reducible apply ite_F); exact rfl) | exact ⟨rfl, rfl⟩ | refine ws_seq ?_ | refine ws_if ?_ | refine ws_ret ?_ | refine ws_for ?_ | refine ws_asg ?_ | refine w_c ?_))
def stubR : Raw := ⟨2, [(0, 1), (1, 0)], [0], [0]⟩
theorem stub_ok : stubR.Ok 4 4 := by decide +kernel
def stubM : List MM := [.ok (.inn 0), .ok (.road 0 1), .ok (.inn 0), .ok (.out 0), .ok (.road 1 0), .ok (.out 0)]
theorem stub_fine : ∀ x ∈ stubM, x.fine := by
  intro x hx
  simp only [stubM, List.mem_cons, List.not_mem_nil, or_false] at hx
  rcases hx with rfl | rfl | rfl | rfl | rfl | rfl <;> exact True.intro
theorem is_n0 (b : Bool) : fIsN (.bl b) (.bl false) = some (.bl b) := by cases b <;> rfl
theorem is_0 (b : Bool) : fIs (.bl b) (.bl false) = some (.bl (!b)) := by cases b <;> rfl
theorem law_true : ∀ ns : List Int, ns.length ≤ 63 → f_law [.val (.lst (ns.map .int))] = some (.ret false (.bl true) []) := by
  intro ns hl
  let k := min 8 ns.length
  refine fn_rt [.val (LI ns), .no, .no, .no, .no, .no] ?_
  refine ws_seq (ws_for (w_rg1 (w_cons (w_op2 (w_c (w_call (w_cons (w_c (w_cons (w_call (w_cons (w_val rfl (w_nil ?_)))))))))))))
  refine ⟨_, .int (ns.length : Int), rfl, ?_, w_nil ⟨_, .int (k : Int), rfl, ?_, ⟨_, _, _, rfl, rfl, rfl, w_nil ⟨_, rfl, ?_, ?_⟩⟩⟩⟩
  · show some (D.int ((ns.map D.int).length : Nat)) = _
    rw [List.length_map]
  · show some (D.int (if (ns.length : Int) < 8 then (ns.length : Int) else 8)) = _
    congr 2
    split <;> omega
  · show -1000 ≤ (1 : Int) + (k : Int) ∧ (1 : Int) + (k : Int) ≤ 1000
    omega
  have z : ((1 : Int) + (k : Int)).toNat = 1 + k := by omega
  rw [z]
  refine ws_forL (fun i ρ => ∃ s1 s2 s3 : Sl, okSlot [s1] 0 = true ∧ okSlot [s2] 0 = true ∧ okSlot [s3] 0 = true ∧ ρ = [.val (LI ns), s1, s2, s3, .no, .no]) (rangeD 0 (1 + k)) 0 _ ⟨.no, .no, .no, rfl, rfl, rfl, rfl⟩ ?_ ?_
  · rintro j d ρ hd ⟨s1, s2, s3, o1, o2, o3, rfl⟩
    obtain ⟨hj, rfl⟩ := rangeD_at hd
    refine ⟨[.val (LI ns), .val (.int (j : Int)), s2, s3, .no, .no], ?_, ?_⟩
    · unfold tgName
      rw [if_pos (show okSlot _ 1 = true from o1)]
      rfl
    obtain ⟨p, hp, e⟩ := purse_ev (ns := ns) (j := j) (by omega) (by omega)
    refine ws_seq (ws_asg (w_fn (w_cons (w_val rfl (w_cons (w_val rfl (w_nil ?_)))))))
    refine w_fnL e ⟨_, _, _, _, rfl, rfl, rfl, by decide, ?_⟩
    refine ⟨[.val (LI ns), .val (.int (j : Int)), .cel false (.lst p), s3, .no, .no], ?_, ?_⟩
    · unfold tgName
      rw [if_pos (show okSlot _ 2 = true from o2)]
      rfl
    refine ws_for (w_rg1 (w_cons (w_c (w_nil ⟨_, rfl, by decide, ?_⟩))))
    refine ws_forL (fun i ρ => ∃ (p : List D) (s3 : Sl), okSlot [s3] 0 = true ∧ Pu (10000 + 200 * i) p ∧ ρ = [.val (LI ns), .val (.int (j : Int)), .cel false (.lst p), s3, .no, .no]) (rangeD 0 3) 0 _ ⟨p, s3, o3, hp.mono (by omega), rfl⟩ ?_ ?_
    · rintro i d ρ hi ⟨p, s3, h3, hp, rfl⟩
      obtain ⟨hil, rfl⟩ := rangeD_at hi
      rw [Nat.zero_add] at hp ⊢
      refine ⟨[.val (LI ns), .val (.int (j : Int)), .cel false (.lst p), .val (.int (i : Int)), .no, .no], ?_, ?_⟩
      · unfold tgName
        rw [if_pos (show okSlot _ 3 = true from h3)]
        rfl
      obtain ⟨x, e2, p', hp', rfl⟩ := right_ev hp (by omega)
      refine ws_if (w_bnot (w_tst (w_fn (w_cons (w_cel rfl (w_nil (w_fnL e2 ⟨[some 2], _, _, _, rfl, rfl, rfl, by decide, ⟨_, rfl, ite_F rfl (ws_nx ?_)⟩⟩)))))))
      exact ⟨p', _, rfl, hp'.mono (by omega), rfl⟩
    · rintro ρ ⟨p, s3, h3, hp, rfl⟩
      exact ⟨_, _, _, rfl, rfl, h3, rfl⟩
  · rintro ρ ⟨s1, s2, s3, o1, o2, o3, rfl⟩
    have hb := yard_init_ev (r := stubR) false false false stub_ok (by decide)
    refine ws_seq (ws_asg (w_mkK (w_cons (w_c (w_nil ?_)))))
    refine w_cons (w_lst (w_cons (w_tup (w_cons (w_c (w_cons (w_c (w_nil ⟨_, _, rfl, Nat.le_of_ble_eq_true rfl, ?_⟩))))))))
    refine w_cons (w_tup (w_cons (w_c (w_cons (w_c (w_nil ⟨_, _, rfl, Nat.le_of_ble_eq_true rfl, w_nil ⟨_, _, rfl, Nat.le_of_ble_eq_true rfl, ?_⟩⟩))))))
    refine w_cons (w_lst (w_cons (w_c (w_nil ⟨_, _, rfl, Nat.le_of_ble_eq_true rfl, ?_⟩))))
    refine w_cons (w_lst (w_cons (w_c (w_nil ⟨_, _, rfl, Nat.le_of_ble_eq_true rfl, w_nil ⟨⟨rfl, rfl⟩, _, _, rfl, .inl ⟨_, _, hb, ⟨_, rfl, ?_⟩⟩⟩⟩))))
    refine ws_seq ?_
    decreasing_trivial
    have r1 := made_ev stub_ok (by decide) (w := .seq false stubM) (g := [2, 1]) ⟨stub_fine, by decide⟩ (by decide +kernel)
    have r2 := is_run_ev stub_ok (by decide) (w := .seq false (stubM.take 5)) ⟨fun x hx => stub_fine x (List.mem_of_mem_take hx), by decide⟩
    have r3 := is_run_ev stub_ok (by decide) (w := .seq false (stubM.drop 1)) ⟨fun x hx => stub_fine x (List.mem_of_mem_drop hx), by decide⟩
    have d2 : decide (dueR stubR (.seq false (stubM.take 5)) ≠ none) = false := by decide +kernel
    have d3 : decide (dueR stubR (.seq false (stubM.drop 1)) ≠ none) = false := by decide +kernel
    rw [d2] at r2
    rw [d3] at r3
    refine w_fnL r1 ⟨_, _, _, _, rfl, rfl, rfl, by decide, ?_⟩
    decreasing_trivial
    refine w_fnL r2 ⟨_, _, _, _, rfl, rfl, rfl, by decide, ?_⟩
    decreasing_trivial
    refine w_fnL fin2 ⟨_, _, _, _, rfl, rfl, rfl, by decide, ?_⟩
    decreasing_trivial
    refine ⟨_, _, .bl true, rfl, rfl, by kernel_rfl, ⟨_, rfl, ite_T rfl ?_⟩⟩
    decreasing_trivial
    refine w_fnL r3 ⟨_, _, _, _, rfl, rfl, rfl, by decide, ?_⟩
    decreasing_trivial
end LAW

set_option Elab.async false
set_option linter.all false
open PySem PySem.W PyProof.Rows in
set_option maxRecDepth 100000 in
set_option maxHeartbeats 0 in
theorem PySem.Challenge.cw_cellyards_k10_runs_holds : PySem.Challenge.rw_cellyards_k10_runs.Holds := by
  w_on; o_law; k_head; (case hw => w_witness2)
  k_fill
  refine Z.walkZ (l := PySem.Challenge.rw_cellyards_k10_runs) (n := 63) (k := 9) (x := "script") (fn := LAW.f_law) rfl (by decide) rfl ⟨rfl, by decide, by decide⟩ (fun w h Y => PySem.W.kIn_of Y) ?F LAW.law_true
  case F =>
    intro w mg fa h KX G hmg
    refine' LAW.all_mk KX G hmg ?z_set ?z_len ?z_int ?z_max ?z_min ?z_all ?z_sum ?z_sorted ?z_list ?z_tuple ?z_str ?z_isinstance ?z_range ?z_enumerate ?z_bool ?z_dict ?n_is_number ?l_is_number ?c_is_number ?k_is_number ?n_is_cell ?l_is_cell ?c_is_cell ?k_is_cell ?n_is_road ?l_is_road ?c_is_road ?k_is_road ?n_checked_roads ?l_checked_roads ?c_checked_roads ?k_checked_roads ?n_checked_cells ?l_checked_cells ?c_checked_cells ?k_checked_cells ?l_Yard_init ?c_Yard_init ?k_Yard_init ?n__law_purse ?l__law_purse ?c__law_purse ?k__law_purse ?n_require_yard ?l_require_yard ?c_require_yard ?k_require_yard ?n_empty_of ?l_empty_of ?c_empty_of ?k_empty_of ?n_with_cell ?l_with_cell ?c_with_cell ?k_with_cell ?n_moved ?l_moved ?c_moved ?k_moved ?n_is_move ?l_is_move ?c_is_move ?k_is_move ?n_blocked_at ?l_blocked_at ?c_blocked_at ?k_blocked_at ?n_order_in ?l_order_in ?c_order_in ?k_order_in ?n_order_made ?l_order_made ?c_order_made ?k_order_made ?n_is_run ?l_is_run ?c_is_run ?k_is_run ?n__law_caught ?l__law_caught ?c__law_caught ?k__law_caught ?n__law_mixed ?l__law_mixed ?c__law_mixed ?k__law_mixed ?n__law_draw ?l__law_draw ?c__law_draw ?k__law_draw ?n__law_menu ?l__law_menu ?c__law_menu ?k__law_menu ?n__law_flipped ?l__law_flipped ?c__law_flipped ?k__law_flipped ?n__law_raw ?l__law_raw ?c__law_raw ?k__law_raw ?n__law_built ?l__law_built ?c__law_built ?k__law_built ?n__law_open ?l__law_open ?c__law_open ?k__law_open ?n__law_led ?l__law_led ?c__law_led ?k__law_led ?n__law_bent ?l__law_bent ?c__law_bent ?k__law_bent ?n__law_order_in ?l__law_order_in ?c__law_order_in ?k__law_order_in ?n__law_right ?l__law_right ?c__law_right ?k__law_right ?n_law ?l_law ?c_law ?k_law ?nC_Yard ?pg_Yard ?hd_Yard ?po_Yard ?sa_Yard ?ms_Yard ?mi_Yard ?mf_Yard ?mp_Yard ?ia_Yard ?ib_Yard ?ic_Yard ?id_Yard ?ie_Yard ?if_Yard_NoneType ?if_Yard_bool ?if_Yard_int ?if_Yard_str ?if_Yard_list ?if_Yard_tuple ?if_Yard_dict ?no_Yard_cells ?no_Yard_entries ?no_Yard_exits ?no_Yard_roads ?nC_YardError ?nC_InvalidNumber ?nf_InvalidNumber_thing ?ex_InvalidNumber ?xl_InvalidNumber ?rv_InvalidNumber ?sa_InvalidNumber ?ty_InvalidNumber ?kC_InvalidNumber ?nC_InvalidRoads ?nf_InvalidRoads_place ?ex_InvalidRoads ?xl_InvalidRoads ?rv_InvalidRoads ?sa_InvalidRoads ?ty_InvalidRoads ?kC_InvalidRoads ?nC_InvalidCells ?nf_InvalidCells_place ?ex_InvalidCells ?xl_InvalidCells ?rv_InvalidCells ?sa_InvalidCells ?ty_InvalidCells ?kC_InvalidCells ?nC_InvalidYard ?nf_InvalidYard_thing ?ex_InvalidYard ?xl_InvalidYard ?rv_InvalidYard ?sa_InvalidYard ?ty_InvalidYard ?kC_InvalidYard ?ga_InvalidYard ?gg_InvalidYard ?hd_InvalidYard ?nC_InvalidMove ?nf_InvalidMove_thing ?ex_InvalidMove ?xl_InvalidMove ?rv_InvalidMove ?sa_InvalidMove ?ty_InvalidMove ?kC_InvalidMove ?ga_InvalidMove ?gg_InvalidMove ?hd_InvalidMove ?in_InvalidNumber ?ti_InvalidNumber ?li_InvalidNumber ?ci_InvalidNumber ?ki_InvalidNumber ?in_InvalidRoads ?ti_InvalidRoads ?li_InvalidRoads ?ci_InvalidRoads ?ki_InvalidRoads ?in_InvalidCells ?ti_InvalidCells ?li_InvalidCells ?ci_InvalidCells ?ki_InvalidCells ?in_InvalidYard ?ti_InvalidYard ?li_InvalidYard ?ci_InvalidYard ?ki_InvalidYard ?in_InvalidMove ?ti_InvalidMove ?li_InvalidMove ?ci_InvalidMove ?ki_InvalidMove ?em_InvalidMove_InvalidMove ?em_InvalidMove_InvalidYard ?em_InvalidMove_YardError ?em_InvalidYard_InvalidMove ?em_InvalidYard_InvalidYard ?em_InvalidYard_YardError
    (case nC_Yard => k_is)
    (case nC_YardError => k_is)
    (case nC_InvalidNumber => k_is)
    (case nC_InvalidRoads => k_is)
    (case nC_InvalidCells => k_is)
    (case nC_InvalidYard => k_is)
    (case nC_InvalidMove => k_is)
    (case mi_Yard => k_is)
    (case in_InvalidNumber => k_is)
    (case in_InvalidRoads => k_is)
    (case in_InvalidCells => k_is)
    (case in_InvalidYard => k_is)
    (case in_InvalidMove => k_is)
    (case z_set => k_is)
    (case z_len => k_is)
    (case z_int => k_is)
    (case z_max => k_is)
    (case z_min => k_is)
    (case z_all => k_is)
    (case z_sum => k_is)
    (case z_sorted => k_is)
    (case z_list => k_is)
    (case z_tuple => k_is)
    (case z_str => k_is)
    (case z_isinstance => k_is)
    (case z_range => k_is)
    (case z_enumerate => k_is)
    (case z_bool => k_is)
    (case z_dict => k_is)
    (case n_is_number => k_is)
    (case l_is_number => k_is)
    (case c_is_number => k_is)
    (case k_is_number => k_is)
    (case n_is_cell => k_is)
    (case l_is_cell => k_is)
    (case c_is_cell => k_is)
    (case k_is_cell => k_is)
    (case n_is_road => k_is)
    (case l_is_road => k_is)
    (case c_is_road => k_is)
    (case k_is_road => k_is)
    (case n_checked_roads => k_is)
    (case l_checked_roads => k_is)
    (case c_checked_roads => k_is)
    (case k_checked_roads => k_is)
    (case n_checked_cells => k_is)
    (case l_checked_cells => k_is)
    (case c_checked_cells => k_is)
    (case k_checked_cells => k_is)
    (case l_Yard_init => k_is)
    (case c_Yard_init => k_is)
    (case k_Yard_init => k_is)
    (case n__law_purse => k_is)
    (case l__law_purse => k_is)
    (case c__law_purse => k_is)
    (case k__law_purse => k_is)
    (case n_require_yard => k_is)
    (case l_require_yard => k_is)
    (case c_require_yard => k_is)
    (case k_require_yard => k_is)
    (case n_empty_of => k_is)
    (case l_empty_of => k_is)
    (case c_empty_of => k_is)
    (case k_empty_of => k_is)
    (case n_with_cell => k_is)
    (case l_with_cell => k_is)
    (case c_with_cell => k_is)
    (case k_with_cell => k_is)
    (case n_moved => k_is)
    (case l_moved => k_is)
    (case c_moved => k_is)
    (case k_moved => k_is)
    (case n_is_move => k_is)
    (case l_is_move => k_is)
    (case c_is_move => k_is)
    (case k_is_move => k_is)
    (case n_blocked_at => k_is)
    (case l_blocked_at => k_is)
    (case c_blocked_at => k_is)
    (case k_blocked_at => k_is)
    (case n_order_in => k_is)
    (case l_order_in => k_is)
    (case c_order_in => k_is)
    (case k_order_in => k_is)
    (case n_order_made => k_is)
    (case l_order_made => k_is)
    (case c_order_made => k_is)
    (case k_order_made => k_is)
    (case n_is_run => k_is)
    (case l_is_run => k_is)
    (case c_is_run => k_is)
    (case k_is_run => k_is)
    (case n__law_caught => k_is)
    (case l__law_caught => k_is)
    (case c__law_caught => k_is)
    (case k__law_caught => k_is)
    (case n__law_mixed => k_is)
    (case l__law_mixed => k_is)
    (case c__law_mixed => k_is)
    (case k__law_mixed => k_is)
    (case n__law_draw => k_is)
    (case l__law_draw => k_is)
    (case c__law_draw => k_is)
    (case k__law_draw => k_is)
    (case n__law_menu => k_is)
    (case l__law_menu => k_is)
    (case c__law_menu => k_is)
    (case k__law_menu => k_is)
    (case n__law_flipped => k_is)
    (case l__law_flipped => k_is)
    (case c__law_flipped => k_is)
    (case k__law_flipped => k_is)
    (case n__law_raw => k_is)
    (case l__law_raw => k_is)
    (case c__law_raw => k_is)
    (case k__law_raw => k_is)
    (case n__law_built => k_is)
    (case l__law_built => k_is)
    (case c__law_built => k_is)
    (case k__law_built => k_is)
    (case n__law_open => k_is)
    (case l__law_open => k_is)
    (case c__law_open => k_is)
    (case k__law_open => k_is)
    (case n__law_led => k_is)
    (case l__law_led => k_is)
    (case c__law_led => k_is)
    (case k__law_led => k_is)
    (case n__law_bent => k_is)
    (case l__law_bent => k_is)
    (case c__law_bent => k_is)
    (case k__law_bent => k_is)
    (case n__law_order_in => k_is)
    (case l__law_order_in => k_is)
    (case c__law_order_in => k_is)
    (case k__law_order_in => k_is)
    (case n__law_right => k_is)
    (case l__law_right => k_is)
    (case c__law_right => k_is)
    (case k__law_right => k_is)
    (case n_law => k_is)
    (case l_law => k_is)
    (case c_law => k_is)
    (case k_law => k_is)
    (case pg_Yard => k_is)
    (case hd_Yard => k_is)
    (case po_Yard => k_is)
    (case sa_Yard => k_is)
    (case ms_Yard => k_is)
    (case mf_Yard => k_is)
    (case mp_Yard => k_is)
    (case ia_Yard => k_is)
    (case ib_Yard => k_is)
    (case ic_Yard => k_is)
    (case id_Yard => k_is)
    (case ie_Yard => kit_is)
    (case if_Yard_NoneType => kit_is)
    (case if_Yard_bool => kit_is)
    (case if_Yard_int => kit_is)
    (case if_Yard_str => kit_is)
    (case if_Yard_list => kit_is)
    (case if_Yard_tuple => kit_is)
    (case if_Yard_dict => kit_is)
    (case no_Yard_cells => k_is)
    (case no_Yard_entries => k_is)
    (case no_Yard_exits => k_is)
    (case no_Yard_roads => k_is)
    (case nf_InvalidNumber_thing => k_is)
    (case ex_InvalidNumber => k_is)
    (case xl_InvalidNumber => k_is)
    (case rv_InvalidNumber => first | rfl | k_is | decide)
    (case sa_InvalidNumber => k_is)
    (case ty_InvalidNumber => k_is)
    (case kC_InvalidNumber => k_is)
    (case nf_InvalidRoads_place => k_is)
    (case ex_InvalidRoads => k_is)
    (case xl_InvalidRoads => k_is)
    (case rv_InvalidRoads => first | rfl | k_is | decide)
    (case sa_InvalidRoads => k_is)
    (case ty_InvalidRoads => k_is)
    (case kC_InvalidRoads => k_is)
    (case nf_InvalidCells_place => k_is)
    (case ex_InvalidCells => k_is)
    (case xl_InvalidCells => k_is)
    (case rv_InvalidCells => first | rfl | k_is | decide)
    (case sa_InvalidCells => k_is)
    (case ty_InvalidCells => k_is)
    (case kC_InvalidCells => k_is)
    (case nf_InvalidYard_thing => k_is)
    (case ex_InvalidYard => k_is)
    (case xl_InvalidYard => k_is)
    (case rv_InvalidYard => first | rfl | k_is | decide)
    (case sa_InvalidYard => k_is)
    (case ty_InvalidYard => k_is)
    (case kC_InvalidYard => k_is)
    (case ga_InvalidYard => k_is)
    (case gg_InvalidYard => k_is)
    (case hd_InvalidYard => k_is)
    (case nf_InvalidMove_thing => k_is)
    (case ex_InvalidMove => k_is)
    (case xl_InvalidMove => k_is)
    (case rv_InvalidMove => first | rfl | k_is | decide)
    (case sa_InvalidMove => k_is)
    (case ty_InvalidMove => k_is)
    (case kC_InvalidMove => k_is)
    (case ga_InvalidMove => k_is)
    (case gg_InvalidMove => k_is)
    (case hd_InvalidMove => k_is)
    (case ti_InvalidNumber => k_is)
    (case li_InvalidNumber => k_is)
    (case ci_InvalidNumber => k_is)
    (case ki_InvalidNumber => k_is)
    (case ti_InvalidRoads => k_is)
    (case li_InvalidRoads => k_is)
    (case ci_InvalidRoads => k_is)
    (case ki_InvalidRoads => k_is)
    (case ti_InvalidCells => k_is)
    (case li_InvalidCells => k_is)
    (case ci_InvalidCells => k_is)
    (case ki_InvalidCells => k_is)
    (case ti_InvalidYard => k_is)
    (case li_InvalidYard => k_is)
    (case ci_InvalidYard => k_is)
    (case ki_InvalidYard => k_is)
    (case ti_InvalidMove => k_is)
    (case li_InvalidMove => k_is)
    (case ci_InvalidMove => k_is)
    (case ki_InvalidMove => k_is)
    (case em_InvalidMove_InvalidMove => first | k_is | rfl | decide)
    (case em_InvalidMove_InvalidYard => first | k_is | rfl | decide)
    (case em_InvalidMove_YardError => first | k_is | rfl | decide)
    (case em_InvalidYard_InvalidMove => first | k_is | rfl | decide)
    (case em_InvalidYard_InvalidYard => first | k_is | rfl | decide)
    (case em_InvalidYard_YardError => first | k_is | rfl | decide)

