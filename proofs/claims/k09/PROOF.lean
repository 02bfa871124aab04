import PyProof.Rows.All
import Wide.All
import OpenK.AllK
import Wide.FinOn
import HandS.ForMost
import HandS.ForExc
import HandS.CallSlots
import HandS.IsInst
import HandS.Flow
import HandS.Wide
import KE.KeyNested
import HandS.Defaults
import HandS.EndBits
import HandS.HeadEnd
import HandS.TupAny
import HandS.Deep
import HandS.WideBits
import KE.KDictKeyed
import PyProof.DictRoadsH
import PyProof.DictKind
import HandS.Iter
import KE.KDictWalk
import KE.GoesNew
import KE.GoesEnum
import HandS.Comp
import HandS.DictComp
import HandS.Dict
import HandS.TupLen
import HandS.More
import HandS.Conv
import KE.SortData
import HandS.Sort
import HandS.RaiseMore
import HandS.ListItems
import KE.KDictIter
import HandS.Style
import HandS.Head0
import HandS.Head1
import HandS.Head2
import HandS.HeadHook1
import HandS.HeadHook2
import HandS.ExcOwn
import HandS.TryOnly
import KE.KEqDict
import PyProof.ReprRoads
import KE.KStateDown
import HandS.Base
import HandS.Call
import HandS.Ends
import HandS.Words
import HandS.WordsExc
import PyProof.ReprLen
import KE.SortLaws
import PySem.Challenge.RW_forkcells_k09_whole_rings_or_numbers
set_option Elab.async false
section
set_option linter.all false
set_option maxRecDepth 100000
set_option maxHeartbeats 2000000
/-! A layer of tree values over the hand layer: immutable values are trees (P), mutable objects are numbered cells (Mem); a piece of Python is read as a total function on these. -/
namespace TV
open PySem PySem.Spec PyProof.Rows L2

inductive P where
  | non | bl (b : Bool) | int (i : Int) | str (x : Str) | ty (n : String) | tup (ps : List P) | loc (l : Nat)
inductive MO where
  | lst (xs : List P) | dct (kvs : List (P × P)) | dctL (kvs : List (P × P)) | scr (ns : List Int)
abbrev Mem := List MO
abbrev Rho := List (Option P)
inductive Res (α : Type) where
  | ok (a : α) (M : Mem) | exc (c : Str) (fs : List (Str × P)) (M : Mem) | bad
def Res.bind {α β : Type} (r : Res α) (k : α → Mem → Res β) : Res β := match r with
  | .ok a M => k a M
  | .exc c fs M => .exc c fs M
  | .bad => .bad
inductive ResS where
  | next (ρ : Rho) (M : Mem) | ret (p : P) (M : Mem) | brk (ρ : Rho) (M : Mem) | cont (ρ : Rho) (M : Mem) | exc (c : Str) (fs : List (Str × P)) (ρ : Rho) (M : Mem) | bad

section
variable (K : PySem.W.Frag)
/-! ### what a tree stands for -/
mutual
inductive Tr (H : Hp) (μ : Nat → Addr) (n : Nat) : P → V → Prop
  | non : Tr H μ n .non .non
  | bl (b : Bool) : Tr H μ n (.bl b) (.bl b)
  | int (i : Int) : Tr H μ n (.int i) (.int i)
  | str (x : Str) : Tr H μ n (.str x) (.str x)
  | ty (t : String) : Tr H μ n (.ty t) (.ty t)
  | tup {a : Addr} {xs : List V} {ps : List P} : SqT K H a xs → Trs H μ n ps xs → Tr H μ n (.tup ps) (.ref a)
  | loc {l : Nat} : l < n → Tr H μ n (.loc l) (.ref (μ l))
inductive Trs (H : Hp) (μ : Nat → Addr) (n : Nat) : List P → List V → Prop
  | nil : Trs H μ n [] []
  | cons {p : P} {v : V} {ps : List P} {vs : List V} : Tr H μ n p v → Trs H μ n ps vs → Trs H μ n (p :: ps) (v :: vs)
end
structure Ext (H : Hp) (μ : Nat → Addr) (n : Nat) (H' : Hp) (μ' : Nat → Addr) (n' : Nat) : Prop where
  tups : ∀ a xs, SqT K H a xs → SqT K H' a xs
  same : ∀ l, l < n → μ' l = μ l
  frz : ∀ a o u, H a = some (.frz o u) → H' a = some (.frz o u)
  le : n ≤ n'
variable {K} {H H1 H2 H' : Hp} {μ μ1 μ2 μ' : Nat → Addr} {n n1 n2 n' : Nat}
theorem Ext.refl : Ext K H μ n H μ n := ⟨fun _ _ h => h, fun _ _ => rfl, fun _ _ _ h => h, Nat.le_refl _⟩
theorem Ext.trans (a : Ext K H μ n H1 μ1 n1) (b : Ext K H1 μ1 n1 H2 μ2 n2) : Ext K H μ n H2 μ2 n2 :=
  ⟨fun c xs h => b.tups c xs (a.tups c xs h), fun l hl => (b.same l (Nat.lt_of_lt_of_le hl a.le)).trans (a.same l hl), fun c o u h => b.frz c o u (a.frz c o u h), Nat.le_trans a.le b.le⟩
mutual
theorem Tr.mono (e : Ext K H μ n H' μ' n') : ∀ {p : P} {v : V}, Tr K H μ n p v → Tr K H' μ' n' p v
  | _, _, .non => .non
  | _, _, .bl b => .bl b
  | _, _, .int i => .int i
  | _, _, .str x => .str x
  | _, _, .ty t => .ty t
  | _, _, .tup h hs => .tup (e.tups _ _ h) (Trs.mono e hs)
  | _, _, .loc (l := l) hl => by rw [← e.same l hl]; exact .loc (Nat.lt_of_lt_of_le hl e.le)
theorem Trs.mono (e : Ext K H μ n H' μ' n') : ∀ {ps : List P} {vs : List V}, Trs K H μ n ps vs → Trs K H' μ' n' ps vs
  | _, _, .nil => .nil
  | _, _, .cons h hs => .cons (Tr.mono e h) (Trs.mono e hs)
end
theorem Trs.length : ∀ {ps : List P} {vs : List V}, Trs K H μ n ps vs → ps.length = vs.length
  | _, _, .nil => rfl
  | _, _, .cons _ hs => by simp [Trs.length hs]
theorem Trs.get : ∀ {ps : List P} {vs : List V} {i : Nat} {p : P}, Trs K H μ n ps vs → ps[i]? = some p → ∃ v, vs[i]? = some v ∧ Tr K H μ n p v
  | _, _, _, _, .nil, e => by simp at e
  | _, _, 0, _, .cons h _, e => by simp at e; subst e; exact ⟨_, rfl, h⟩
  | _, _, i + 1, p, .cons _ hs, e => by
    obtain ⟨v, e1, t⟩ := Trs.get (i := i) (p := p) hs (by simpa using e)
    exact ⟨v, by simpa using e1, t⟩
theorem Trs.get' : ∀ {ps : List P} {vs : List V} {i : Nat} {v : V}, Trs K H μ n ps vs → vs[i]? = some v → ∃ p, ps[i]? = some p ∧ Tr K H μ n p v
  | _, _, _, _, .nil, e => by simp at e
  | _, _, 0, _, .cons h _, e => by simp at e; subst e; exact ⟨_, rfl, h⟩
  | _, _, i + 1, v, .cons _ hs, e => by
    obtain ⟨p, e1, t⟩ := Trs.get' (i := i) (v := v) hs (by simpa using e)
    exact ⟨p, by simpa using e1, t⟩
theorem Trs.append : ∀ {ps qs : List P} {vs us : List V}, Trs K H μ n ps vs → Trs K H μ n qs us → Trs K H μ n (ps ++ qs) (vs ++ us)
  | _, _, _, _, .nil, t => t
  | _, _, _, _, .cons h hs, t => .cons h (Trs.append hs t)
theorem Trs.set {p : P} {v : V} (t : Tr K H μ n p v) : ∀ {ps : List P} {vs : List V} (i : Nat), Trs K H μ n ps vs → Trs K H μ n (ps.set i p) (vs.set i v)
  | _, _, _, .nil => .nil
  | _, _, 0, .cons _ hs => .cons t hs
  | _, _, i + 1, .cons h hs => .cons h (Trs.set t i hs)
theorem Trs.take : ∀ {ps : List P} {vs : List V} (k : Nat), Trs K H μ n ps vs → Trs K H μ n (ps.take k) (vs.take k)
  | _, _, 0, _ => .nil
  | _, _, _ + 1, .nil => .nil
  | _, _, k + 1, .cons h hs => .cons h (Trs.take k hs)
theorem Trs.drop : ∀ {ps : List P} {vs : List V} (k : Nat), Trs K H μ n ps vs → Trs K H μ n (ps.drop k) (vs.drop k)
  | _, _, 0, t => t
  | _, _, _ + 1, .nil => .nil
  | _, _, k + 1, .cons _ hs => Trs.drop k hs
theorem Trs.reverse : ∀ {ps : List P} {vs : List V}, Trs K H μ n ps vs → Trs K H μ n ps.reverse vs.reverse
  | _, _, .nil => .nil
  | _, _, .cons h hs => by rw [List.reverse_cons, List.reverse_cons]; exact (Trs.reverse hs).append (.cons h .nil)
end

end TV
end
section
set_option linter.all false
set_option maxRecDepth 100000
set_option maxHeartbeats 2000000
set_option autoImplicit false
namespace TV
open PySem PySem.Spec PyProof.Rows L2
abbrev St := L2.St

/-! ### keys of dicts -/
mutual
def keyOf : P → Option NestedKey
  | .non => some .none
  | .bl b => some (.num (if b = true then 1 else 0))
  | .int i => some (.num i)
  | .str x => some (.text x)
  | .tup ps => (keysOf ps).map NestedKey.tup
  | .ty _ => none
  | .loc _ => none
def keysOf : List P → Option (List NestedKey)
  | [] => some []
  | p :: ps => match keyOf p, keysOf ps with
    | some k, some ks => some (k :: ks)
    | _, _ => none
end

/-- a dict by its entries -/
def DctAt (a : Addr) (kvs : List (V × V)) (hs : List Int) : Heap → Prop := fun h =>
  ∃ (o : Obj) (es : Array DictEntry), h.get? a = some o ∧ o.ExactDict ∧ o.data = .dict es es.size ∧
    Paired (fun (p : V × V) (e : DictEntry) => RelV p.1 e.key ∧ RelV p.2 e.val) kvs es.toList ∧ es.toList.map (·.hash) = hs

/-- a list of the module's own -/
def Stat (K : PySem.W.Frag) (a : Addr) (xs : List V) : Prop :=
  ∃ (o : Obj) (its : Array Value) (n : Nat), K.lookup a = some o ∧ o.cls = .type "list" ∧ o.dict = none ∧ o.data = .seq its n ∧ its.size ≤ sizeLine ∧ Vals xs its.toList

section
variable (K : PySem.W.Frag) (w : World)
inductive MRep (H : Hp) (μ : Nat → Addr) (n : Nat) (a : Addr) : MO → Prop
  | lst {xs : List P} {vs : List V} : H a = some (.lst vs) → Trs K H μ n xs vs → MRep H μ n a (.lst xs)
  | dct {kvs : List (P × P)} {ks vs : List V} {nk : List NestedKey} : H a = some (.ext (DctAt a (ks.zip vs) (nk.map (·.hash w)))) → Trs K H μ n (kvs.map (·.1)) ks → Trs K H μ n (kvs.map (·.2)) vs →
      keysOf (kvs.map (·.1)) = some nk → nk.Nodup → (∀ k ∈ nk, k.depth ≤ 8) → kvs.length ≤ sizeLine → (a == sysModules) = false → MRep H μ n a (.dct kvs)
  | dctL {kvs : List (P × P)} {ks vs : List V} {nk : List NestedKey} {o : Obj} : H a = some (.frz o (.ext (DctAt a (ks.zip vs) (nk.map (·.hash w))))) → Trs K H μ n (kvs.map (·.1)) ks → Trs K H μ n (kvs.map (·.2)) vs →
      keysOf (kvs.map (·.1)) = some nk → nk.Nodup → (∀ k ∈ nk, k.depth ≤ 8) → kvs.length ≤ sizeLine → (a == sysModules) = false → MRep H μ n a (.dctL kvs)
  | scr {ns : List Int} : ((∃ o, H a = some (.frz o (.lst (ns.map V.int)))) ∨ Stat K a (ns.map V.int)) → MRep H μ n a (.scr ns)
def MO.mut : MO → Bool
  | .lst _ => true
  | .dct _ => true
  | .dctL _ => false
  | .scr _ => false
structure MemRep (H : Hp) (M : Mem) (μ : Nat → Addr) : Prop where
  at_ : ∀ (l : Nat) (o : MO), M[l]? = some o → MRep K w H μ M.length (μ l) o
  inj : ∀ (l l' : Nat) (o o' : MO), M[l]? = some o → M[l']? = some o' → o.mut = true → o'.mut = true → μ l = μ l' → l = l'
/-- the names of the frame -/
structure Slots (σ : St) (H : Hp) (ρ : Rho) (μ : Nat → Addr) (n : Nat) : Prop where
  len : σ.length = ρ.length
  at_ : ∀ (i : Nat) (p : P), ρ[i]? = some (some p) → ∃ v, σ[i]? = some (some v) ∧ Tr K H μ n p v
structure Rep (σ : St) (H : Hp) (ρ : Rho) (M : Mem) (μ : Nat → Addr) : Prop where
  slots : Slots K σ H ρ μ M.length
  mem : MemRep K w H M μ
end
section
variable {K : PySem.W.Frag} {w : World} {H H' : Hp} {M M' : Mem} {μ μ' : Nat → Addr} {n n' : Nat} {σ : St} {ρ : Rho} {a p : Addr} {o o' : MO} {l : Nat}
theorem Slots.mono (e : Ext K H μ n H' μ' n') (s : Slots K σ H ρ μ n) : Slots K σ H' ρ μ' n' :=
  ⟨s.len, fun i p h => let ⟨v, e1, t⟩ := s.at_ i p h; ⟨v, e1, t.mono e⟩⟩
theorem Slots.set {i : Nat} {q : P} {v : V} (s : Slots K σ H ρ μ n) (t : Tr K H μ n q v) : Slots K (σ.set i (some v)) H (ρ.set i (some q)) μ n := by
  refine ⟨by simp [s.len], fun j p h => ?_⟩
  by_cases hj : i = j
  · subst hj
    by_cases hl : i < ρ.length
    · rw [List.getElem?_set_self hl] at h
      cases h
      exact ⟨v, by rw [List.getElem?_set_self (by rw [s.len]; exact hl)], t⟩
    · rw [List.getElem?_eq_none (by simpa using hl)] at h
      cases h
  · rw [List.getElem?_set_ne hj] at h ⊢
    exact s.at_ j p h
theorem Slots.unset {i : Nat} (s : Slots K σ H ρ μ n) : Slots K σ H (ρ.set i none) μ n := by
  refine ⟨by simp [s.len], fun j p h => ?_⟩
  by_cases hj : i = j
  · subst hj
    by_cases hl : i < ρ.length
    · rw [List.getElem?_set_self hl] at h; cases h
    · rw [List.getElem?_eq_none (by simpa using hl)] at h; cases h
  · rw [List.getElem?_set_ne hj] at h
    exact s.at_ j p h
theorem Rep.mono (r : Rep K w σ H ρ M μ) (e : Ext K H μ M.length H' μ' M'.length) (m : MemRep K w H' M' μ') : Rep K w σ H' ρ M' μ' := ⟨r.slots.mono e, m⟩
/-- a cell's own object is tracked (if it can be written) -/
theorem MRep.mutable (m : MRep K w H μ n a o) (h : o.mut = true) : Mut (H a) := by
  cases m with
  | lst e _ => rw [e]; trivial
  | dct e => rw [e]; trivial
  | dctL _ => cases h
  | scr _ => cases h
theorem MRep.move (m : MRep K w H μ n a o) (e : Ext K H μ n H' μ' n') (same : ∀ u, (o.mut = true ∨ ∃ ob v, u = .frz ob v) → H a = some u → H' a = some u) : MRep K w H' μ' n' a o := by
  cases m with
  | lst h t => exact .lst (same _ (.inl rfl) h) (t.mono e)
  | dct h t1 t2 k nd dp z y => exact .dct (same _ (.inl rfl) h) (t1.mono e) (t2.mono e) k nd dp z y
  | dctL h t1 t2 k nd dp z y => exact .dctL (same _ (.inr ⟨_, _, rfl⟩) h) (t1.mono e) (t2.mono e) k nd dp z y
  | scr h =>
    refine .scr ?_
    rcases h with ⟨o, h⟩ | h
    · exact .inl ⟨o, same _ (.inr ⟨_, _, rfl⟩) h⟩
    · exact .inr h
theorem sqt_upd {xs : List V} {O : HO} (mu : Mut (H p) ∨ H p = none) (h : SqT K H a xs) : SqT K (upd H p O) a xs := by
  have ne : ∀ u, H a = some u → ¬ Mut (some u) → a ≠ p := fun u e nm z => by
    subst z
    rcases mu with mu | mu
    · rw [e] at mu; exact nm mu
    · rw [e] at mu; cases mu
  rcases h with (h | ⟨o, h⟩) | h
  · exact .inl (.inl (by rw [upd_ne (ne _ h fun z => z)]; exact h))
  · exact .inl (.inr ⟨o, by rw [upd_ne (ne _ h fun z => z)]; exact h⟩)
  · exact .inr h
theorem frz_upd {O u : HO} {ob : Obj} (mu : Mut (H p) ∨ H p = none) (h : H a = some (.frz ob u)) : upd H p O a = some (.frz ob u) := by
  rw [upd_ne]
  · exact h
  · intro z
    subst z
    rcases mu with mu | mu
    · rw [h] at mu; exact mu
    · rw [h] at mu; cases mu
theorem ext_upd {O : HO} (mu : Mut (H p) ∨ H p = none) : Ext K H μ n (upd H p O) μ n := ⟨fun _ _ h => sqt_upd mu h, fun _ _ => rfl, fun _ _ _ h => frz_upd mu h, Nat.le_refl _⟩
/-- a cell is written -/
theorem MemRep.write {O : HO} (m : MemRep K w H M μ) (hl : M[l]? = some o) (hm : o.mut = true) (hm' : o'.mut = true) (new : MRep K w (upd H (μ l) O) μ M.length (μ l) o') :
    MemRep K w (upd H (μ l) O) (M.set l o') μ ∧ Ext K H μ M.length (upd H (μ l) O) μ (M.set l o').length := by
  have mu := (m.at_ l o hl).mutable hm
  have e : Ext K H μ M.length (upd H (μ l) O) μ (M.set l o').length := by
    rw [List.length_set]; exact ext_upd (.inl mu)
  have hlt : l < M.length := (List.getElem?_eq_some_iff.mp hl).1
  refine ⟨⟨fun l1 o1 h1 => ?_, fun l1 l2 o1 o2 h1 h2 m1 m2 e12 => ?_⟩, e⟩
  · by_cases h : l = l1
    · subst h
      rw [List.getElem?_set_self hlt] at h1
      cases h1
      rw [List.length_set]
      exact new
    · rw [List.getElem?_set_ne h] at h1
      refine (m.at_ l1 o1 h1).move e fun u hc hu => ?_
      have ne : μ l1 ≠ μ l := fun z => by
        rcases hc with q | ⟨ob, v, rfl⟩
        · exact h (m.inj l1 l o1 o h1 hl q hm z).symm
        · rw [z] at hu; rw [hu] at mu; exact mu
      rw [upd_ne ne]; exact hu
  · have back : ∀ (l1 : Nat) (o1 : MO), (M.set l o')[l1]? = some o1 → o1.mut = true → ∃ o2, M[l1]? = some o2 ∧ o2.mut = true := fun l1 o1 h1 m1 => by
      by_cases h : l = l1
      · subst h; exact ⟨o, hl, hm⟩
      · rw [List.getElem?_set_ne h] at h1; exact ⟨o1, h1, m1⟩
    obtain ⟨p1, q1, r1⟩ := back l1 o1 h1 m1
    obtain ⟨p2, q2, r2⟩ := back l2 o2 h2 m2
    exact m.inj l1 l2 p1 p2 q1 q2 r1 r2 e12
/-- where a new cell goes -/
def put (μ : Nat → Addr) (n : Nat) (p : Addr) : Nat → Addr := fun l => if l = n then p else μ l
theorem put_at {μ : Nat → Addr} {n : Nat} {p : Addr} : put μ n p n = p := if_pos rfl
theorem put_lt {μ : Nat → Addr} {n l : Nat} {p : Addr} (h : l < n) : put μ n p l = μ l := if_neg (Nat.ne_of_lt h)
/-- a new object that no cell is -/
theorem MemRep.beside {O : HO} (m : MemRep K w H M μ) (hp : H p = none) : MemRep K w (upd H p O) M μ :=
  ⟨fun l o h => (m.at_ l o h).move (ext_upd (.inr hp)) fun u _ hu => by rw [upd_ne (ne_of_none hu hp)]; exact hu, m.inj⟩
theorem ext_new {O : HO} (hp : H p = none) : Ext K H μ n (upd H p O) (put μ n p) (n + 1) :=
  ⟨fun _ _ h => sqt_upd (.inr hp) h, fun _ hl => put_lt hl, fun _ _ _ h => frz_upd (.inr hp) h, Nat.le_succ _⟩
/-- a new cell -/
theorem MemRep.alloc {O : HO} (m : MemRep K w H M μ) (hp : H p = none) (new : MRep K w (upd H p O) (put μ M.length p) (M.length + 1) p o) : MemRep K w (upd H p O) (M ++ [o]) (put μ M.length p) := by
  have hlen : (M ++ [o]).length = M.length + 1 := by simp
  have old : ∀ (l : Nat) (o1 : MO), l < M.length → (M ++ [o])[l]? = some o1 → M[l]? = some o1 := fun l o1 hl h => by rwa [List.getElem?_append_left hl] at h
  have cas : ∀ (l : Nat) (o1 : MO), (M ++ [o])[l]? = some o1 → (l < M.length ∧ M[l]? = some o1) ∨ (l = M.length ∧ o1 = o) := fun l o1 h => by
    by_cases hl : l < M.length
    · exact .inl ⟨hl, old l o1 hl h⟩
    · have hlt := (List.getElem?_eq_some_iff.mp h).1
      have e : l = M.length := by omega
      subst e
      rw [List.getElem?_append_right (Nat.le_refl _)] at h
      simp at h
      exact .inr ⟨rfl, h.symm⟩
  have tr : ∀ (l : Nat) (o1 : MO), M[l]? = some o1 → o1.mut = true → μ l ≠ p := fun l o1 h hm z => by
    have mu := (m.at_ l o1 h).mutable hm
    rw [z, hp] at mu; exact mu
  refine ⟨fun l o1 h => ?_, fun l1 l2 o1 o2 h1 h2 m1 m2 e => ?_⟩
  · rw [hlen]
    rcases cas l o1 h with ⟨hl, h'⟩ | ⟨rfl, rfl⟩
    · rw [put_lt hl]
      exact (m.at_ l o1 h').move (ext_new hp) fun u _ hu => by rw [upd_ne (ne_of_none hu hp)]; exact hu
    · rw [put_at]; exact new
  · rcases cas l1 o1 h1 with ⟨hl1, h1'⟩ | ⟨rfl, rfl⟩ <;> rcases cas l2 o2 h2 with ⟨hl2, h2'⟩ | ⟨rfl, rfl⟩
    · rw [put_lt hl1, put_lt hl2] at e; exact m.inj l1 l2 o1 o2 h1' h2' m1 m2 e
    · rw [put_lt hl1, put_at] at e; exact absurd e (tr l1 o1 h1' m1)
    · rw [put_lt hl2, put_at] at e; exact absurd e.symm (tr l2 o2 h2' m2)
    · rfl
theorem MRep.sqL {xs : List P} (m : MRep K w H μ n a (.lst xs)) : ∃ vs, SqL K H a vs ∧ Trs K H μ n xs vs ∧ H a = some (.lst vs) := by
  cases m with
  | lst e t => exact ⟨_, SqL.of e, t, e⟩
theorem MRep.scrL {ns : List Int} (m : MRep K w H μ n a (.scr ns)) : SqL K H a (ns.map V.int) := by
  cases m with
  | scr h =>
    rcases h with ⟨o, h⟩ | h
    · exact .inl (.inr ⟨o, h⟩)
    · exact .inr h
end
end TV
end
section
set_option linter.all false
set_option maxRecDepth 100000
set_option maxHeartbeats 2000000
set_option autoImplicit false
namespace TV
open PySem PySem.Spec PyProof.Rows L2

/-! ### what a reading by trees asks -/
section
variable (K : PySem.W.Frag) (w : World) (mg : Str → Option Value)
/-- the fields of an error that flies -/
def FRep (H : Hp) (μ : Nat → Addr) (n : Nat) (fs : List (Str × P)) (d : Option Addr) : Prop :=
  (fs = [] ∧ d = none) ∨ ∃ (a : Addr) (vs : List V), d = some a ∧ H a = some (.xd ((fs.map (·.1)).zip vs)) ∧ Trs K H μ n (fs.map (·.2)) vs
abbrev Rel (α β : Type) := Hp → (Nat → Addr) → Nat → α → β → Prop
def Sat {α β : Type} (R : Rel α β) (W : WX) (σ : St) (H : Hp) (μ : Nat → Addr) (n : Nat) (Q : β → Hp → Prop) : Res α → Prop
  | .ok a M' => ∀ v H' μ', Ext K H μ n H' μ' M'.length → MemRep K w H' M' μ' → R H' μ' M'.length a v → Q v H'
  | .exc c fs M' => ∀ C d H' μ', Ext K H μ n H' μ' M'.length → MemRep K w H' M' μ' → mg c = some (.ref C) → FRep K H' μ' M'.length fs d → W (.ref C) d σ H'
  | .bad => False
def sem {α β : Type} (R : Rel α β) (W : WX) (f : Rho → Mem → Res α) : St → Hp → (β → Hp → Prop) → Prop := fun σ H Q =>
  ∃ ρ M μ, Rep K w σ H ρ M μ ∧ Sat K w mg R W σ H μ M.length Q (f ρ M)
end
def RB : Rel Bool Bool := fun _ _ _ a b => a = b
section
variable {K : PySem.W.Frag} {w : World} {mg : Str → Option Value} {α β γ δ : Type} {R : Rel α β} {R' : Rel γ δ} {W : WX} {σ : St} {ρ : Rho} {H H1 : Hp} {M : Mem} {μ μ1 : Nat → Addr} {n n1 : Nat} {r : Res α}
theorem Sat.imp {Q Q' : β → Hp → Prop} (s : Sat K w mg R W σ H μ n Q r) (h : ∀ v H', Q v H' → Q' v H') : Sat K w mg R W σ H μ n Q' r := by
  cases r with
  | ok a M' => exact fun v H' μ' e m t => h v H' (s v H' μ' e m t)
  | exc c fs M' => exact s
  | bad => exact s
theorem Sat.ext {Q : β → Hp → Prop} (s : Sat K w mg R W σ H μ n Q r) (x : Ext K H μ n H1 μ1 n1) : Sat K w mg R W σ H1 μ1 n1 Q r := by
  cases r with
  | ok a M' => exact fun v H' μ' e m t => s v H' μ' (x.trans e) m t
  | exc c fs M' => exact fun C d H' μ' e m hc f => s C d H' μ' (x.trans e) m hc f
  | bad => exact s
/-- behind the first of two -/
def Mid (K : PySem.W.Frag) (w : World) (mg : Str → Option Value) {α β γ δ : Type} (R : Rel α β) (R' : Rel γ δ) (W : WX) (σ : St) (H : Hp) (μ : Nat → Addr) (n : Nat) (Q : δ → Hp → Prop) (r : Res α) (k : α → Mem → Res γ) : β → Hp → Prop := fun v H1 =>
  ∃ a M1 μ1, r = .ok a M1 ∧ Ext K H μ n H1 μ1 M1.length ∧ MemRep K w H1 M1 μ1 ∧ R H1 μ1 M1.length a v ∧ Sat K w mg R' W σ H1 μ1 M1.length Q (k a M1)
theorem Sat.bind {Q : δ → Hp → Prop} {k : α → Mem → Res γ} (s : Sat K w mg R' W σ H μ n Q (r.bind k)) : Sat K w mg R W σ H μ n (Mid K w mg R R' W σ H μ n Q r k) r := by
  cases r with
  | ok a M' => exact fun v H' μ' e m t => ⟨a, M', μ', rfl, e, m, t, Sat.ext (show Sat K w mg R' W σ H μ n Q (k a M') from s) e⟩
  | exc c fs M' => exact s
  | bad => exact s
/-- it ends well, and here -/
theorem Sat.here {Q : β → Hp → Prop} {a : α} {v : β} (s : Sat K w mg R W σ H μ M.length Q (.ok a M)) (m : MemRep K w H M μ) (t : R H μ M.length a v) : Q v H := s v H μ Ext.refl m t
theorem sem.of {Q : β → Hp → Prop} {f : Rho → Mem → Res α} (rep : Rep K w σ H ρ M μ) (s : Sat K w mg R W σ H μ M.length Q (f ρ M)) : sem K w mg R W f σ H Q := ⟨ρ, M, μ, rep, s⟩
end

/-! ### judgements -/
section
variable (X : Cx) (W : WX)
abbrev QE (e : Expr) (f : Rho → Mem → Res P) : Prop := PE X e (sem X.K X.w X.mg (Tr X.K) W f)
abbrev QT (e : Expr) (f : Rho → Mem → Res Bool) : Prop := PT X e (sem X.K X.w X.mg RB W f)
abbrev QW (e : Expr) (f : Rho → Mem → Res Bool) : Prop := PW X e (sem X.K X.w X.mg RB W f)
abbrev QA (es : List Expr) (f : Rho → Mem → Res (List P)) : Prop := PA X es (sem X.K X.w X.mg (Trs X.K) W f)
def SatS (K : PySem.W.Frag) (w : World) (mg : Str → Option Value) (W : WX) (D : Ends) (H : Hp) (μ : Nat → Addr) (n : Nat) : ResS → Prop
  | .next ρ' M' => ∀ σ' H' μ', Ext K H μ n H' μ' M'.length → Rep K w σ' H' ρ' M' μ' → D.nx σ' H'
  | .ret p M' => ∀ v H' μ', Ext K H μ n H' μ' M'.length → MemRep K w H' M' μ' → Tr K H' μ' M'.length p v → D.rt v H'
  | .brk ρ' M' => ∀ σ' H' μ', Ext K H μ n H' μ' M'.length → Rep K w σ' H' ρ' M' μ' → D.bk σ' H'
  | .cont ρ' M' => ∀ σ' H' μ', Ext K H μ n H' μ' M'.length → Rep K w σ' H' ρ' M' μ' → D.ct σ' H'
  | .exc c fs ρ' M' => ∀ C d σ' H' μ', Ext K H μ n H' μ' M'.length → Rep K w σ' H' ρ' M' μ' → mg c = some (.ref C) → FRep K H' μ' M'.length fs d → W (.ref C) d σ' H'
  | .bad => False
def semS (K : PySem.W.Frag) (w : World) (mg : Str → Option Value) (W : WX) (g : Rho → Mem → ResS) : TS := fun D σ H => ∃ ρ M μ, Rep K w σ H ρ M μ ∧ SatS K w mg W D H μ M.length (g ρ M)
abbrev QS (st : Stmt) (g : Rho → Mem → ResS) : Prop := PS X st (semS X.K X.w X.mg W g)
abbrev QSs (st : List Stmt) (g : Rho → Mem → ResS) : Prop := PSs X st (semS X.K X.w X.mg W g)
end
theorem PE_weak {X : Cx} {e : Expr} {t t' : TE} (h : PE X e t) (hi : ∀ σ H Q, t' σ H Q → t σ H Q) : PE X e t' := ⟨fun pins s σ H Q I q => h.run pins s σ H Q I (hi σ H Q q)⟩
theorem PT_weak {X : Cx} {e : Expr} {t t' : TT} (h : PT X e t) (hi : ∀ σ H Q, t' σ H Q → t σ H Q) : PT X e t' := ⟨fun pins s σ H Q I q => h.run pins s σ H Q I (hi σ H Q q)⟩
theorem PW_weak {X : Cx} {e : Expr} {t t' : TT} (h : PW X e t) (hi : ∀ σ H Q, t' σ H Q → t σ H Q) : PW X e t' := ⟨fun wh pins s σ H Q I q => h.run wh pins s σ H Q I (hi σ H Q q)⟩
theorem PA_weak {X : Cx} {e : List Expr} {t t' : TA} (h : PA X e t) (hi : ∀ σ H Q, t' σ H Q → t σ H Q) : PA X e t' := ⟨fun pos pins s σ H Q I q => h.run pos pins s σ H Q I (hi σ H Q q)⟩
theorem PS_weak {X : Cx} {e : Stmt} {t t' : TS} (h : PS X e t) (hi : ∀ D σ H, t' D σ H → t D σ H) : PS X e t' := ⟨fun pins s σ H D I q => h.run pins s σ H D I (hi D σ H q)⟩
theorem PSs_weak {X : Cx} {e : List Stmt} {t t' : TS} (h : PSs X e t) (hi : ∀ D σ H, t' D σ H → t D σ H) : PSs X e t' := ⟨fun pins s σ H D I q => h.run pins s σ H D I (hi D σ H q)⟩

/-! ### mirrors of expressions -/
abbrev FE := Rho → Mem → Res P
def eVar (i : Nat) : FE := fun ρ M => match ρ[i]? with
  | some (some p) => .ok p M
  | _ => .bad
def eC (p : P) : FE := fun _ M => .ok p M
abbrev Op2 := P → P → Mem → Res P
def eOp (g : Op2) (fa fb : FE) : FE := fun ρ M => (fa ρ M).bind fun p M1 => (fb ρ M1).bind fun q M2 => g p q M2
def eUn (g : P → Mem → Res P) (fa : FE) : FE := fun ρ M => (fa ρ M).bind fun p M1 => g p M1
def aNil : Rho → Mem → Res (List P) := fun _ M => .ok [] M
def aCons (fa : FE) (fr : Rho → Mem → Res (List P)) : Rho → Mem → Res (List P) := fun ρ M => (fa ρ M).bind fun p M1 => (fr ρ M1).bind fun ps M2 => .ok (p :: ps) M2
abbrev OpN := List P → Mem → Res P
def eArgs (g : OpN) (fa : Rho → Mem → Res (List P)) : FE := fun ρ M => (fa ρ M).bind g
def tVal (fa : FE) : Rho → Mem → Res Bool := fun ρ M => (fa ρ M).bind fun p M1 => match p with
  | .bl b => .ok b M1
  | _ => .bad
def tAnd (fa fb : Rho → Mem → Res Bool) : Rho → Mem → Res Bool := fun ρ M => (fa ρ M).bind fun b M1 => if b = true then fb ρ M1 else .ok false M1
def tOr (fa fb : Rho → Mem → Res Bool) : Rho → Mem → Res Bool := fun ρ M => (fa ρ M).bind fun b M1 => if b = true then .ok true M1 else fb ρ M1
def tNot (fa : Rho → Mem → Res Bool) : Rho → Mem → Res Bool := fun ρ M => (fa ρ M).bind fun b M1 => .ok (!b) M1
def eAnd (fa fb : FE) : FE := fun ρ M => (fa ρ M).bind fun p M1 => match p with
  | .bl true => fb ρ M1
  | .bl false => .ok (.bl false) M1
  | _ => .bad
def eOr (fa fb : FE) : FE := fun ρ M => (fa ρ M).bind fun p M1 => match p with
  | .bl true => .ok (.bl true) M1
  | .bl false => fb ρ M1
  | _ => .bad
def eNot (fa : FE) : FE := fun ρ M => (fa ρ M).bind fun p M1 => match p with
  | .bl b => .ok (.bl (!b)) M1
  | _ => .bad
def eIf (ft : Rho → Mem → Res Bool) (fa fb : FE) : FE := fun ρ M => (ft ρ M).bind fun b M1 => if b = true then fa ρ M1 else fb ρ M1
def eChain (g g' : Op2) (fa fb fc : FE) : FE := fun ρ M => (fa ρ M).bind fun p M1 => (fb ρ M1).bind fun q M2 => (g p q M2).bind fun z M3 => match z with
  | .bl true => (fc ρ M3).bind fun r M4 => g' q r M4
  | .bl false => .ok (.bl false) M3
  | _ => .bad

/-! ### operations on values -/
section
variable (X : Cx) (W : WX)
/-- the operation f on values does what g does on trees -/
def Prim2 (f : Value → Value → Sem Value) (g : Op2) : Prop := ∃ r : R2, OpR X f r ∧ ∀ {σ : St} {H : Hp} {M : Mem} {μ : Nat → Addr} {p q : P} {x y : V} {Q : VK}, MemRep X.K X.w H M μ → Tr X.K H μ M.length p x → Tr X.K H μ M.length q y →
  Sat X.K X.w X.mg (Tr X.K) W σ H μ M.length Q (g p q M) → r x y H Q
def Prim1 (f : Value → Sem Value) (g : P → Mem → Res P) : Prop := ∃ r : V → Hp → VK → Prop, UnR X f r ∧ ∀ {σ : St} {H : Hp} {M : Mem} {μ : Nat → Addr} {p : P} {x : V} {Q : VK}, MemRep X.K X.w H M μ → Tr X.K H μ M.length p x →
  Sat X.K X.w X.mg (Tr X.K) W σ H μ M.length Q (g p M) → r x H Q
def PrimN (f : Value) (g : OpN) : Prop := ∃ r : List V → Hp → VK → Prop, CallR X f r ∧ ∀ {σ : St} {H : Hp} {M : Mem} {μ : Nat → Addr} {ps : List P} {xs : List V} {Q : VK}, MemRep X.K X.w H M μ → Trs X.K H μ M.length ps xs →
  Sat X.K X.w X.mg (Tr X.K) W σ H μ M.length Q (g ps M) → r xs H Q
end

/-! ### the rules of expressions -/
section
variable {X : Cx} {W : WX} {a b c : Expr} {fa fb fc : FE} {pos : Pos}
theorem q_var {i : Nat} {x : Str} (hN : X.N[i]? = some x := by rfl) (hv : Vis X.env.scope x := by first | exact Or.inl rfl | exact Or.inr (Or.inl rfl) | exact Or.inr (Or.inr rfl)) (hd : (x == ("__debug__" : Str)) = false := by decide) (hcd : (x == ("__classdict__" : Str)) = false := by decide) :
    QE X W (.Name x pos) (eVar i) := by
  refine PE_weak (pe_var hN hv hd hcd) fun σ H Q h => ?_
  obtain ⟨ρ, M, μ, rep, s⟩ := h
  unfold eVar at s
  cases e : ρ[i]? with
  | none => rw [e] at s; exact s.elim
  | some o =>
    cases o with
    | none => rw [e] at s; exact s.elim
    | some p =>
      rw [e] at s
      obtain ⟨v, hv, t⟩ := rep.slots.at_ i p e
      exact ⟨v, hv, s.here rep.mem t⟩
theorem q_const {e : Expr} {p : P} {v : V} (h : PE X e (tC v)) (t : ∀ H μ n, Tr X.K H μ n p v) : QE X W e (eC p) :=
  PE_weak h fun σ H Q ⟨ρ, M, μ, rep, s⟩ => s.here rep.mem (t _ _ _)
theorem q_int {i : Int} {j : Nat} : QE X W (.Constant (.int i) j pos) (eC (.int i)) := q_const pe_int fun _ _ _ => .int i
theorem q_str {x : Str} {j : Nat} : QE X W (.Constant (.str x) j pos) (eC (.str x)) := q_const pe_str fun _ _ _ => .str x
theorem q_bl {x : Bool} {j : Nat} : QE X W (.Constant (.bool x) j pos) (eC (.bl x)) := q_const pe_bl fun _ _ _ => .bl x
theorem q_non {j : Nat} : QE X W (.Constant .none j pos) (eC .non) := q_const pe_non fun _ _ _ => .non
theorem q_gint {x : Str} {i : Int} {t : Tok} (hg : Gl X x) (hm : X.mg x = some (.int i t)) (hd : (x == ("__debug__" : Str)) = false := by decide) : QE X W (.Name x pos) (eC (.int i)) := q_const (pe_glob (v := .int i) hg hm ⟨t, rfl⟩ hd) fun _ _ _ => .int i
theorem q_gstr {x z : Str} {t : Tok} (hg : Gl X x) (hm : X.mg x = some (.str z t)) (hd : (x == ("__debug__" : Str)) = false := by decide) : QE X W (.Name x pos) (eC (.str z)) := q_const (pe_glob (v := .str z) hg hm ⟨t, rfl⟩ hd) fun _ _ _ => .str z
theorem q_ty {x : Str} {n : String} (hg : Gl X x) (hm : X.mg x = none) (hv : bootBuiltins x = some (.type n)) (hn : x ≠ "__name__" := by decide) (hd : (x == ("__debug__" : Str)) = false := by decide) : QE X W (.Name x pos) (eC (.ty n)) :=
  q_const (pe_bltn (v := .ty n) hg hm hv rfl hn hd) fun _ _ _ => .ty n
theorem q_bin {op : Operator} {g : Op2} (ho : Prim2 X W (binaryOp op) g) (ha : QE X W a fa) (hb : QE X W b fb) : QE X W (.BinOp a op b pos) (eOp g fa fb) := by
  obtain ⟨r, ho, hr⟩ := ho
  refine PE_weak (pe_op ho ha hb) fun σ H Q ⟨ρ, M, μ, rep, s⟩ => ⟨ρ, M, μ, rep, (Sat.bind s).imp fun x H1 ⟨p, M1, μ1, _, e1, m1, t1, s1⟩ => ?_⟩
  refine ⟨ρ, M1, μ1, rep.mono e1 m1, (Sat.bind s1).imp fun y H2 ⟨q, M2, μ2, _, e2, m2, t2, s2⟩ => hr m2 (t1.mono e2) t2 s2⟩
theorem q_un {op : UnaryOp} {g : P → Mem → Res P} (ho : Prim1 X W (unaryOp op) g) (ha : QE X W a fa) : QE X W (.UnaryOp op a pos) (eUn g fa) := by
  obtain ⟨r, ho, hr⟩ := ho
  exact PE_weak (pe_un ho ha) fun σ H Q ⟨ρ, M, μ, rep, s⟩ => ⟨ρ, M, μ, rep, (Sat.bind s).imp fun x H1 ⟨p, M1, μ1, _, e1, m1, t1, s1⟩ => hr m1 t1 s1⟩
theorem q_cmp {op : CmpOp} {g : Op2} (ho : Prim2 X W (compareOp op) g) (ha : QE X W a fa) (hb : QE X W b fb) (hm : behindInMarks op b = false := by first | exact nomark _ | rfl) : QE X W (.Compare a [op] [b] pos) (eOp g fa fb) := by
  obtain ⟨r, ho, hr⟩ := ho
  refine PE_weak (pe_cmpR ho ha hb hm) fun σ H Q ⟨ρ, M, μ, rep, s⟩ => ⟨ρ, M, μ, rep, (Sat.bind s).imp fun x H1 ⟨p, M1, μ1, _, e1, m1, t1, s1⟩ => ?_⟩
  refine ⟨ρ, M1, μ1, rep.mono e1 m1, (Sat.bind s1).imp fun y H2 ⟨q, M2, μ2, _, e2, m2, t2, s2⟩ => hr m2 (t1.mono e2) t2 s2⟩
theorem Sat.bl {K : PySem.W.Frag} {w : World} {mg : Str → Option Value} {W : WX} {σ : St} {H : Hp} {M : Mem} {μ : Nat → Addr} {n : Nat} {Q : Bool → Hp → Prop} {p : P} {x : V} (s : Sat K w mg RB W σ H μ M.length Q (match p with | .bl b => Res.ok b M | _ => .bad)) (m : MemRep K w H M μ) (t : Tr K H μ M.length p x) : ∃ k, x = .bl k ∧ Q k H := by
  cases t with
  | bl b => exact ⟨b, rfl, s.here m rfl⟩
  | non => exact s.elim
  | int _ => exact s.elim
  | str _ => exact s.elim
  | ty _ => exact s.elim
  | tup _ _ => exact s.elim
  | loc _ => exact s.elim
theorem Sat.test {K : PySem.W.Frag} {w : World} {mg : Str → Option Value} {W : WX} {σ : St} {ρ : Rho} {H : Hp} {M : Mem} {μ : Nat → Addr} {n : Nat} {Q : Bool → Hp → Prop} {f : FE} (s : Sat K w mg RB W σ H μ n Q (tVal f ρ M)) :
    Sat K w mg (Tr K) W σ H μ n (fun x H' => ∃ k, x = V.bl k ∧ Q k H') (f ρ M) :=
  (Sat.bind (R := Tr K) s).imp fun x H1 ⟨p, M1, μ1, _, e1, m1, t1, s1⟩ => Sat.bl (n := 0) s1 m1 t1
/-- a comparison as a test -/
theorem q_tcmp {op : CmpOp} {g : Op2} (ho : Prim2 X W (compareOp op) g) (ha : QE X W a fa) (hb : QE X W b fb) (hm : behindInMarks op b = false := by first | exact nomark _ | rfl) : QT X W (.Compare a [op] [b] pos) (tVal (eOp g fa fb)) := by
  obtain ⟨r, ho, hr⟩ := ho
  refine PT_weak (pt_cmpR ho ha hb hm) fun σ H Q ⟨ρ, M, μ, rep, s⟩ => ⟨ρ, M, μ, rep, (Sat.bind s.test).imp fun x H1 ⟨p, M1, μ1, _, e1, m1, t1, s1⟩ => ?_⟩
  exact ⟨ρ, M1, μ1, rep.mono e1 m1, (Sat.bind s1).imp fun y H2 ⟨q, M2, μ2, _, e2, m2, t2, s2⟩ => hr m2 (t1.mono e2) t2 s2⟩
/-- any other expression as a test -/
theorem q_tval (h : QE X W a fa) (he : ∀ whole, isTrue a X.env whole = (do let v ← whole; standAt a.pos; holding [v] (truthy v)) := by intro _; rfl) : QT X W a (tVal fa) :=
  PT_weak (pt_val h he) fun σ H Q ⟨ρ, M, μ, rep, s⟩ => ⟨ρ, M, μ, rep, s.test⟩
theorem q_chain {op op' : CmpOp} {g g' : Op2} (ho : Prim2 X W (compareOp op) g) (ho' : Prim2 X W (compareOp op') g') (ha : QE X W a fa) (hb : QE X W b fb) (hc : QE X W c fc) (hm : lastMarks [op, op'] [b, c] = false := by with_unfolding_all rfl) :
    QE X W (.Compare a [op, op'] [b, c] pos) (eChain g g' fa fb fc) := by
  obtain ⟨r, ho, hr⟩ := ho
  obtain ⟨r', ho', hr'⟩ := ho'
  refine PE_weak (pe_chain ho ho' ha hb hc hm) fun σ H Q ⟨ρ, M, μ, rep, s⟩ => ⟨ρ, M, μ, rep, (Sat.bind s).imp fun x H1 ⟨p, M1, μ1, _, e1, m1, t1, s1⟩ => ?_⟩
  refine ⟨ρ, M1, μ1, rep.mono e1 m1, (Sat.bind s1).imp fun y H2 ⟨q, M2, μ2, _, e2, m2, t2, s2⟩ => hr (σ := σ) m2 (t1.mono e2) t2 ?_⟩
  refine (Sat.bind s2).imp fun z H3 ⟨zp, M3, μ3, _, e3, m3, t3, s3⟩ => ?_
  cases t3 with
  | bl k =>
    refine ⟨k, rfl, ?_⟩
    cases k with
    | true => exact iteT ⟨ρ, M3, μ3, rep.mono ((e1.trans e2).trans e3) m3, (Sat.bind s3).imp fun u H4 ⟨up, M4, μ4, _, e4, m4, t4, s4⟩ => hr' m4 ((t2.mono e3).mono e4) t4 s4⟩
    | false => exact iteF (s3.here m3 (.bl false))
  | non => exact s3.elim
  | int _ => exact s3.elim
  | str _ => exact s3.elim
  | ty _ => exact s3.elim
  | tup _ _ => exact s3.elim
  | loc _ => exact s3.elim
theorem q_tchain {op op' : CmpOp} {g g' : Op2} (ho : Prim2 X W (compareOp op) g) (ho' : Prim2 X W (compareOp op') g') (ha : QE X W a fa) (hb : QE X W b fb) (hc : QE X W c fc) (hm : lastMarks [op, op'] [b, c] = false := by with_unfolding_all rfl) :
    QT X W (.Compare a [op, op'] [b, c] pos) (tVal (eChain g g' fa fb fc)) := by
  obtain ⟨r, ho, hr⟩ := ho
  obtain ⟨r', ho', hr'⟩ := ho'
  refine PT_weak (pt_chain ho ho' ha hb hc hm) fun σ H Q ⟨ρ, M, μ, rep, s⟩ => ⟨ρ, M, μ, rep, (Sat.bind s.test).imp fun x H1 ⟨p, M1, μ1, _, e1, m1, t1, s1⟩ => ?_⟩
  refine ⟨ρ, M1, μ1, rep.mono e1 m1, (Sat.bind s1).imp fun y H2 ⟨q, M2, μ2, _, e2, m2, t2, s2⟩ => hr (σ := σ) m2 (t1.mono e2) t2 ?_⟩
  refine (Sat.bind s2).imp fun z H3 ⟨zp, M3, μ3, _, e3, m3, t3, s3⟩ => ?_
  cases t3 with
  | bl k =>
    refine ⟨k, rfl, ?_⟩
    cases k with
    | true => exact iteT ⟨ρ, M3, μ3, rep.mono ((e1.trans e2).trans e3) m3, (Sat.bind s3).imp fun u H4 ⟨up, M4, μ4, _, e4, m4, t4, s4⟩ => hr' m4 ((t2.mono e3).mono e4) t4 s4⟩
    | false => exact iteF (s3.here m3 (.bl false))
  | non => exact s3.elim
  | int _ => exact s3.elim
  | str _ => exact s3.elim
  | ty _ => exact s3.elim
  | tup _ _ => exact s3.elim
  | loc _ => exact s3.elim
/-! and, or, not, if -/
variable {ga gb : Rho → Mem → Res Bool} {rest : List Expr}
theorem q_wand1 (ha : QT X W a ga) : QW X W (.BoolOp .And [a] pos) ga := pw_and1 ha
theorem q_wor1 (ha : QT X W a ga) : QW X W (.BoolOp .Or [a] pos) ga := pw_or1 ha
theorem q_wand (ha : QT X W a ga) (hb : QW X W (.BoolOp .And (b :: rest) pos) gb) : QW X W (.BoolOp .And (a :: b :: rest) pos) (tAnd ga gb) := by
  refine PW_weak (pw_and ha hb) fun σ H Q ⟨ρ, M, μ, rep, s⟩ => ⟨ρ, M, μ, rep, (Sat.bind s).imp fun x H1 ⟨p, M1, μ1, _, e1, m1, t1, s1⟩ => ?_⟩
  have t1 : p = x := t1
  subst t1
  cases p with
  | true => exact iteT ⟨ρ, M1, μ1, rep.mono e1 m1, s1⟩
  | false => exact iteF (Sat.here (R := RB) s1 m1 rfl)
theorem q_wor (ha : QT X W a ga) (hb : QW X W (.BoolOp .Or (b :: rest) pos) gb) : QW X W (.BoolOp .Or (a :: b :: rest) pos) (tOr ga gb) := by
  refine PW_weak (pw_or ha hb) fun σ H Q ⟨ρ, M, μ, rep, s⟩ => ⟨ρ, M, μ, rep, (Sat.bind s).imp fun x H1 ⟨p, M1, μ1, _, e1, m1, t1, s1⟩ => ?_⟩
  have t1 : p = x := t1
  subst t1
  cases p with
  | true => exact iteT (Sat.here (R := RB) s1 m1 rfl)
  | false => exact iteF ⟨ρ, M1, μ1, rep.mono e1 m1, s1⟩
theorem q_tnot (ha : QT X W a ga) : QT X W (.UnaryOp .Not a pos) (tNot ga) := by
  refine PT_weak (pt_not ha) fun σ H Q ⟨ρ, M, μ, rep, s⟩ => ⟨ρ, M, μ, rep, (Sat.bind s).imp fun x H1 ⟨p, M1, μ1, _, e1, m1, t1, s1⟩ => ?_⟩
  have t1 : p = x := t1
  subst t1
  exact Sat.here (R := RB) s1 m1 rfl
theorem q_one {op : BoolOp} (h : QE X W a fa) : QE X W (.BoolOp op [a] pos) fa := pe_one h
theorem q_and (ha : QE X W a fa) (hb : QE X W (.BoolOp .And (b :: rest) pos) fb) : QE X W (.BoolOp .And (a :: b :: rest) pos) (eAnd fa fb) := by
  refine PE_weak (pe_and ha hb) fun σ H Q ⟨ρ, M, μ, rep, s⟩ => ⟨ρ, M, μ, rep, (Sat.bind s).imp fun x H1 ⟨p, M1, μ1, _, e1, m1, t1, s1⟩ => ?_⟩
  cases t1 with
  | bl k =>
    refine ⟨k, rfl, ?_⟩
    cases k with
    | true => exact iteT ⟨ρ, M1, μ1, rep.mono e1 m1, s1⟩
    | false => exact iteF (s1.here m1 (.bl false))
  | non => exact s1.elim
  | int _ => exact s1.elim
  | str _ => exact s1.elim
  | ty _ => exact s1.elim
  | tup _ _ => exact s1.elim
  | loc _ => exact s1.elim
theorem q_or (ha : QE X W a fa) (hb : QE X W (.BoolOp .Or (b :: rest) pos) fb) : QE X W (.BoolOp .Or (a :: b :: rest) pos) (eOr fa fb) := by
  refine PE_weak (pe_or ha hb) fun σ H Q ⟨ρ, M, μ, rep, s⟩ => ⟨ρ, M, μ, rep, (Sat.bind s).imp fun x H1 ⟨p, M1, μ1, _, e1, m1, t1, s1⟩ => ?_⟩
  cases t1 with
  | bl k =>
    refine ⟨k, rfl, ?_⟩
    cases k with
    | true => exact iteT (s1.here m1 (.bl true))
    | false => exact iteF ⟨ρ, M1, μ1, rep.mono e1 m1, s1⟩
  | non => exact s1.elim
  | int _ => exact s1.elim
  | str _ => exact s1.elim
  | ty _ => exact s1.elim
  | tup _ _ => exact s1.elim
  | loc _ => exact s1.elim
theorem q_not (ha : QE X W a fa) : QE X W (.UnaryOp .Not a pos) (eNot fa) := by
  refine PE_weak (pe_not ha) fun σ H Q ⟨ρ, M, μ, rep, s⟩ => ⟨ρ, M, μ, rep, (Sat.bind s).imp fun x H1 ⟨p, M1, μ1, _, e1, m1, t1, s1⟩ => ?_⟩
  cases t1 with
  | bl k => exact ⟨k, rfl, s1.here m1 (.bl (!k))⟩
  | non => exact s1.elim
  | int _ => exact s1.elim
  | str _ => exact s1.elim
  | ty _ => exact s1.elim
  | tup _ _ => exact s1.elim
  | loc _ => exact s1.elim
theorem q_if (ht : QT X W c ga) (ha : QE X W a fa) (hb : QE X W b fb) : QE X W (.IfExp c a b pos) (eIf ga fa fb) := by
  refine PE_weak (pe_ifExp ht ha hb) fun σ H Q ⟨ρ, M, μ, rep, s⟩ => ⟨ρ, M, μ, rep, (Sat.bind s).imp fun x H1 ⟨p, M1, μ1, _, e1, m1, t1, s1⟩ => ?_⟩
  have t1 : p = x := t1
  subst t1
  cases p with
  | true => exact iteT ⟨ρ, M1, μ1, rep.mono e1 m1, s1⟩
  | false => exact iteF ⟨ρ, M1, μ1, rep.mono e1 m1, s1⟩
/-! argument lists, displays -/
theorem q_nil : QA X W [] aNil := PA_weak pa_nil fun σ H Q ⟨ρ, M, μ, rep, s⟩ => s.here rep.mem .nil
theorem q_cons {es : List Expr} {fr : Rho → Mem → Res (List P)} (ha : QE X W a fa) (hr : QA X W es fr) (hs : starEach (a :: es) X.env = (false, eval a X.env) :: starEach es X.env := by rfl) : QA X W (a :: es) (aCons fa fr) := by
  refine PA_weak (pa_cons ha hr hs) fun σ H Q ⟨ρ, M, μ, rep, s⟩ => ⟨ρ, M, μ, rep, (Sat.bind s).imp fun x H1 ⟨p, M1, μ1, _, e1, m1, t1, s1⟩ => ?_⟩
  exact ⟨ρ, M1, μ1, rep.mono e1 m1, (Sat.bind s1).imp fun xs H2 ⟨ps, M2, μ2, _, e2, m2, t2, s2⟩ => s2.here m2 (.cons (t1.mono e2) t2)⟩
def gTuple : OpN := fun ps M => if ps.length ≤ sizeLine then .ok (.tup ps) M else .bad
def gList : OpN := fun ps M => if ps.length ≤ sizeLine then .ok (.loc M.length) (M ++ [.lst ps]) else .bad
theorem q_tuple {es : List Expr} {fr : Rho → Mem → Res (List P)} {k : Nat} (h : QA X W es fr) : QE X W (.Tuple es k pos) (eArgs gTuple fr) := by
  refine PE_weak (pe_tup h) fun σ H Q ⟨ρ, M, μ, rep, s⟩ => ⟨ρ, M, μ, rep, (Sat.bind s).imp fun xs H1 ⟨ps, M1, μ1, _, e1, m1, t1, s1⟩ => ?_⟩
  unfold gTuple at s1
  by_cases hz : ps.length ≤ sizeLine
  · rw [if_pos hz] at s1
    refine ⟨by rw [← t1.length]; exact hz, fun p hp => s1 _ _ _ (ext_upd (.inr hp)) (m1.beside hp) (.tup (SqT.of upd_same) (t1.mono (ext_upd (.inr hp))))⟩
  · rw [if_neg hz] at s1; exact s1.elim
theorem q_list {es : List Expr} {fr : Rho → Mem → Res (List P)} (h : QA X W es fr) : QE X W (.List es pos) (eArgs gList fr) := by
  refine PE_weak (pe_lst h) fun σ H Q ⟨ρ, M, μ, rep, s⟩ => ⟨ρ, M, μ, rep, (Sat.bind s).imp fun xs H1 ⟨ps, M1, μ1, _, e1, m1, t1, s1⟩ => ?_⟩
  unfold gList at s1
  by_cases hz : ps.length ≤ sizeLine
  · rw [if_pos hz] at s1
    refine ⟨by rw [← t1.length]; exact hz, fun p hp => ?_⟩
    have m2 : MemRep X.K X.w (upd H1 p (.lst xs)) (M1 ++ [.lst ps]) (put μ1 M1.length p) := m1.alloc hp (.lst upd_same (t1.mono (ext_new hp)))
    have hl : (M1 ++ [MO.lst ps]).length = M1.length + 1 := by simp
    refine s1 _ _ _ (by rw [hl]; exact ext_new hp) m2 ?_
    rw [hl]
    have z := Tr.loc (K := X.K) (H := upd H1 p (.lst xs)) (μ := put μ1 M1.length p) (Nat.lt_succ_self M1.length)
    rwa [put_at] at z
  · rw [if_neg hz] at s1; exact s1.elim
end
end TV
end
section
set_option linter.all false
set_option maxRecDepth 100000
set_option maxHeartbeats 2000000
set_option autoImplicit false
namespace TV
open PySem PySem.Spec PyProof.Rows L2

/-! ### mirrors of statements -/
abbrev FS := Rho → Mem → ResS
abbrev FT := Rho → Mem → Res Bool
def bindS {α : Type} (r : Res α) (ρ : Rho) (k : α → Mem → ResS) : ResS := match r with
  | .ok a M => k a M
  | .exc c fs M => .exc c fs ρ M
  | .bad => .bad
def sNext : FS := fun ρ M => .next ρ M
def sBreak : FS := fun ρ M => .brk ρ M
def sCont : FS := fun ρ M => .cont ρ M
def sNever : FS := fun _ _ => .bad
def sThen (r : ResS) (g : FS) : ResS := match r with
  | .next ρ M => g ρ M
  | r => r
def sSeq (g1 g2 : FS) : FS := fun ρ M => sThen (g1 ρ M) g2
def sExpr (fa : FE) : FS := fun ρ M => bindS (fa ρ M) ρ fun _ M1 => .next ρ M1
def sRet (fa : FE) : FS := fun ρ M => bindS (fa ρ M) ρ fun p M1 => .ret p M1
def sRetN : FS := fun _ M => .ret .non M
def sIf (t : FT) (g1 g2 : FS) : FS := fun ρ M => bindS (t ρ M) ρ fun b M1 => if b = true then g1 ρ M1 else g2 ρ M1
/-- a target: names alone, or tuples of targets -/
abbrev FG := P → Rho → Option Rho
def gName (i : Nat) : FG := fun p ρ => some (ρ.set i (some p))
def gAll : List FG → List P → Rho → Option Rho
  | [], [], ρ => some ρ
  | g :: gs, p :: ps, ρ => match g p ρ with
    | some ρ' => gAll gs ps ρ'
    | none => none
  | _, _, _ => none
def gTup (gs : List FG) : FG := fun p ρ => match p with
  | .tup ps => gAll gs ps ρ
  | _ => none
def sAsg (fa : FE) (g : FG) : FS := fun ρ M => bindS (fa ρ M) ρ fun p M1 => match g p ρ with
  | some ρ' => .next ρ' M1
  | none => .bad
/-- a, b = x, y (stored at once) -/
def sPar (i j : Nat) (fa fb : FE) : FS := fun ρ M => bindS (fa ρ M) ρ fun p M1 => bindS (fb ρ M1) ρ fun q M2 => .next ((ρ.set i (some p)).set j (some q)) M2
def loopBody (r : ResS) (go : Rho → Mem → ResS) : ResS := match r with
  | .next ρ M => go ρ M
  | .cont ρ M => go ρ M
  | .brk ρ M => .next ρ M
  | r => r
def sWhile (t : FT) (g : FS) : Nat → FS
  | 0, _, _ => .bad
  | k + 1, ρ, M => bindS (t ρ M) ρ fun b M1 => if b = true then loopBody (g ρ M1) (sWhile t g k) else .next ρ M1
structure Iter where
  items : List P
  guard : Mem → Bool
def loopF (guard : Mem → Bool) (tg : FG) (g : FS) : List P → FS
  | [], ρ, M => if guard M = true then .next ρ M else .bad
  | p :: ps, ρ, M => if guard M = true then (match tg p ρ with
    | some ρ1 => loopBody (g ρ1 M) (loopF guard tg g ps)
    | none => .bad) else .bad
def sFor (it : Rho → Mem → Res Iter) (tg : FG) (g : FS) : FS := fun ρ M => bindS (it ρ M) ρ fun I M1 => loopF I.guard tg g I.items ρ M1

section
variable {K : PySem.W.Frag} {w : World} {mg : Str → Option Value} {α β : Type} {R : Rel α β} {W : WX} {σ : St} {ρ : Rho} {H H1 : Hp} {M : Mem} {μ μ1 : Nat → Addr} {n n1 : Nat} {D D' : Ends}
theorem SatS.ext {r : ResS} (s : SatS K w mg W D H μ n r) (x : Ext K H μ n H1 μ1 n1) : SatS K w mg W D H1 μ1 n1 r := by
  cases r with
  | next ρ' M' => exact fun σ' H' μ' e m => s σ' H' μ' (x.trans e) m
  | ret p M' => exact fun v H' μ' e m t => s v H' μ' (x.trans e) m t
  | brk ρ' M' => exact fun σ' H' μ' e m => s σ' H' μ' (x.trans e) m
  | cont ρ' M' => exact fun σ' H' μ' e m => s σ' H' μ' (x.trans e) m
  | exc c fs ρ' M' => exact fun C d σ' H' μ' e m hc f => s C d σ' H' μ' (x.trans e) m hc f
  | bad => exact s
/-- behind an expression of a statement -/
def MidS (K : PySem.W.Frag) (w : World) (mg : Str → Option Value) {α β : Type} (R : Rel α β) (W : WX) (D : Ends) (H : Hp) (μ : Nat → Addr) (n : Nat) (k : α → Mem → ResS) : β → Hp → Prop := fun v H1 =>
  ∃ a M1 μ1, Ext K H μ n H1 μ1 M1.length ∧ MemRep K w H1 M1 μ1 ∧ R H1 μ1 M1.length a v ∧ SatS K w mg W D H1 μ1 M1.length (k a M1)
theorem SatS.bind {r : Res α} {k : α → Mem → ResS} (rep : Rep K w σ H ρ M μ) (s : SatS K w mg W D H μ M.length (bindS r ρ k)) : Sat K w mg R W σ H μ M.length (MidS K w mg R W D H μ M.length k) r := by
  cases r with
  | ok a M' => exact fun v H' μ' e m t => ⟨a, M', μ', e, m, t, SatS.ext (show SatS K w mg W D H μ M.length (k a M') from s) e⟩
  | exc c fs M' => exact fun C d H' μ' e m hc f => s C d σ H' μ' e (rep.mono e m) hc f
  | bad => exact s
end

section
variable {X : Cx} {W : WX} {a b c : Expr} {fa fb fc : FE} {st : Stmt} {rest : List Stmt} {g1 g2 : FS} {ft : FT} {pos : Pos}
theorem q_snil : QSs X W [] sNext := PSs_weak pss_nil fun D σ H ⟨ρ, M, μ, rep, s⟩ => s σ H μ Ext.refl rep
theorem semS_seq {K : PySem.W.Frag} {w : World} {mg : Str → Option Value} {D : Ends} {σ : St} {H : Hp} (h : semS K w mg W (sSeq g1 g2) D σ H) : semS K w mg W g1 { D with nx := semS K w mg W g2 D } σ H := by
  obtain ⟨ρ, M, μ, rep, s⟩ := h
  refine ⟨ρ, M, μ, rep, ?_⟩
  unfold sSeq at s
  cases e : g1 ρ M with
  | next ρ' M' => rw [e] at s; exact fun σ' H' μ' x r => ⟨ρ', M', μ', r, SatS.ext (show SatS K w mg W D H μ M.length (g2 ρ' M') from s) x⟩
  | ret p M' => rw [e] at s; exact s
  | brk ρ' M' => rw [e] at s; exact s
  | cont ρ' M' => rw [e] at s; exact s
  | exc c fs ρ' M' => rw [e] at s; exact s
  | bad => rw [e] at s; exact s
theorem q_scons (h1 : QS X W st g1) (h2 : QSs X W rest g2) : QSs X W (st :: rest) (sSeq g1 g2) := PSs_weak (pss_cons h1 h2) fun D σ H h => semS_seq h
theorem q_sone (h1 : QS X W st g1) : QSs X W [st] g1 := pss_one h1
theorem q_pass : QS X W (.Pass pos) sNext := PS_weak ps_pass fun D σ H ⟨ρ, M, μ, rep, s⟩ => s σ H μ Ext.refl rep
theorem q_break : QS X W (.Break pos) sBreak := PS_weak ps_break fun D σ H ⟨ρ, M, μ, rep, s⟩ => s σ H μ Ext.refl rep
theorem q_continue : QS X W (.Continue pos) sCont := PS_weak ps_continue fun D σ H ⟨ρ, M, μ, rep, s⟩ => s σ H μ Ext.refl rep
theorem q_never : QS X W st sNever := PS_weak ps_never fun D σ H ⟨ρ, M, μ, rep, s⟩ => s.elim
theorem q_expr (ha : QE X W a fa) (hs : swapsWith a none pos.line X.env = pure false := by rfl) : QS X W (.Expr a pos) (sExpr fa) :=
  PS_weak (ps_expr ha hs) fun D σ H ⟨ρ, M, μ, rep, s⟩ => ⟨ρ, M, μ, rep, (SatS.bind rep s).imp fun v H1 ⟨p, M1, μ1, e, m, t, s1⟩ => s1 σ H1 μ1 Ext.refl (rep.mono e m)⟩
theorem q_ret (ha : QE X W a fa) : QS X W (.Return (some a) pos) (sRet fa) :=
  PS_weak (ps_ret ha) fun D σ H ⟨ρ, M, μ, rep, s⟩ => ⟨ρ, M, μ, rep, (SatS.bind rep s).imp fun v H1 ⟨p, M1, μ1, e, m, t, s1⟩ => s1 v H1 μ1 Ext.refl m t⟩
theorem q_retN : QS X W (.Return none pos) sRetN := PS_weak ps_retN fun D σ H ⟨ρ, M, μ, rep, s⟩ => s .non H μ Ext.refl rep.mem .non
theorem q_sif {u v : List Stmt} (ht : QT X W c ft) (hu : QSs X W u g1) (hv : QSs X W v g2) : QS X W (.If c u v pos) (sIf ft g1 g2) := by
  refine PS_weak (ps_if ht hu hv) fun D σ H ⟨ρ, M, μ, rep, s⟩ => ⟨ρ, M, μ, rep, (SatS.bind rep s).imp fun k H1 ⟨p, M1, μ1, e, m, t, s1⟩ => ?_⟩
  have t : p = k := t
  subst t
  cases p with
  | true => exact iteT ⟨ρ, M1, μ1, rep.mono e m, s1⟩
  | false => exact iteF ⟨ρ, M1, μ1, rep.mono e m, s1⟩
/-! targets -/
/-- a target g of values does what gt does on trees; it stores at places of is alone -/
def TgOk (K : PySem.W.Frag) (g : TG) (gt : FG) (is : List Nat) : Prop := ∀ {σ : St} {ρ ρ' : Rho} {H : Hp} {μ : Nat → Addr} {n : Nat} {p : P} {v : V} {Q : St → Hp → Prop}, Slots K σ H ρ μ n → Tr K H μ n p v → gt p ρ = some ρ' →
  (∀ σ', Slots K σ' H ρ' μ n → (∀ vs : List Nat, (∀ i ∈ is, i ∈ vs) → wipe σ' vs = wipe σ vs) → Q σ' H) → g v σ H Q
theorem wipe_set {σ : St} {i : Nat} {o : Option V} : ∀ {vs : List Nat}, i ∈ vs → wipe (σ.set i o) vs = wipe σ vs
  | [], h => nomatch h
  | v :: vs, h => by
    unfold wipe
    by_cases hi : i ∈ vs
    · rw [wipe_set hi]
    · have e : i = v := by
        rcases List.mem_cons.mp h with h | h
        · exact h
        · exact absurd h hi
      subst e
      have key : ∀ us : List Nat, i ∉ us → wipe (σ.set i o) us = (wipe σ us).set i o := by
        intro us
        induction us with
        | nil => intro _; rfl
        | cons u us ih =>
          intro hu
          unfold wipe
          rw [ih (fun z => hu (List.mem_cons_of_mem _ z)), List.set_comm _ _ (fun z => hu (by rw [z]; exact List.mem_cons_self))]
      rw [key vs hi, List.set_set]
theorem tg_name {K : PySem.W.Frag} {i : Nat} : TgOk K (L2.gName i) (gName i) [i] := fun {σ ρ ρ' H μ n p v Q} sl t e h => by
  cases e
  exact h _ (sl.set t) fun vs hv => wipe_set (hv i (by simp))
inductive TgAll (K : PySem.W.Frag) : TGs → List FG → List Nat → Prop
  | nil : TgAll K gNil [] []
  | cons {g : TG} {gt : FG} {is js : List Nat} {u : TGs} {gs : List FG} : TgOk K g gt is → TgAll K u gs js → TgAll K (gCons g u) (gt :: gs) (is ++ js)
theorem TgAll.run {K : PySem.W.Frag} {u : TGs} {gs : List FG} {is : List Nat} (h : TgAll K u gs is) : ∀ {σ : St} {ρ ρ' : Rho} {H : Hp} {μ : Nat → Addr} {n : Nat} {ps : List P} {vs : List V} {Q : St → Hp → Prop}, Slots K σ H ρ μ n → Trs K H μ n ps vs → gAll gs ps ρ = some ρ' →
    (∀ σ', Slots K σ' H ρ' μ n → (∀ us : List Nat, (∀ i ∈ is, i ∈ us) → wipe σ' us = wipe σ us) → Q σ' H) → u vs σ H Q := by
  induction h with
  | nil =>
    intro σ ρ ρ' H μ n ps vs Q sl t e hq
    cases t with
    | nil => cases e; exact ⟨rfl, hq σ sl fun _ _ => rfl⟩
    | cons _ _ => cases e
  | @cons g gt is js u gs h1 h2 ih =>
    intro σ ρ ρ' H μ n ps vs Q sl t e hq
    cases t with
    | nil => cases e
    | @cons p v ps vs tp ts =>
      unfold gAll at e
      cases e1 : gt p ρ with
      | none => rw [e1] at e; cases e
      | some ρ1 =>
        rw [e1] at e
        refine ⟨v, vs, rfl, h1 sl tp e1 fun σ1 sl1 w1 => ih sl1 ts e fun σ2 sl2 w2 => hq σ2 sl2 fun us hu => ?_⟩
        rw [w2 us fun i hi => hu i (List.mem_append_right _ hi), w1 us fun i hi => hu i (List.mem_append_left _ hi)]
theorem gAll_length : ∀ {gs : List FG} {ps : List P} {ρ ρ' : Rho}, gAll gs ps ρ = some ρ' → ps.length = gs.length
  | [], [], _, _, _ => rfl
  | [], _ :: _, _, _, h => by cases h
  | _ :: _, [], _, _, h => by cases h
  | g :: gs, p :: ps, ρ, ρ', h => by
    unfold gAll at h
    cases e : g p ρ with
    | none => rw [e] at h; cases h
    | some ρ1 => rw [e] at h; simp [gAll_length h]
theorem tg_tup {K : PySem.W.Frag} {u : TGs} {gs : List FG} {is : List Nat} {m : Nat} (h : TgAll K u gs is) (hm : gs.length = m) : TgOk K (L2.gTup K m u) (gTup gs) is := fun {σ ρ ρ' H μ n p v Q} sl t e hq => by
  cases t with
  | tup sq ts =>
    have e : gAll gs _ ρ = some ρ' := e
    exact ⟨_, _, rfl, sq, by rw [← ts.length, gAll_length e, hm], h.run sl ts e hq⟩
  | non => cases e
  | bl _ => cases e
  | int _ => cases e
  | str _ => cases e
  | ty _ => cases e
  | loc _ => cases e
/-- target = value -/
theorem q_asg {tg : Expr} {g : TG} {gt : FG} {is : List Nat} (ha : QE X W a fa) (hg : PG X tg g) (ht : TgOk X.K g gt is) (hs : swapsWithSole [tg] a pos.line X.env = pure false := by rfl) (hw : swappedStores [tg] a X.env = pure none := by rfl)
    (h1 : (assignEach [tg] X.env).map (·.2) = [assign tg X.env] := by rfl) : QS X W (.Assign [tg] a pos) (sAsg fa gt) := by
  refine PS_weak (ps_asg ha hg hs hw h1) fun D σ H ⟨ρ, M, μ, rep, s⟩ => ⟨ρ, M, μ, rep, (SatS.bind rep s).imp fun v H1 ⟨p, M1, μ1, e, m, t, s1⟩ => ?_⟩
  have s1 : SatS X.K X.w X.mg W D H1 μ1 M1.length (match gt p ρ with | some ρ' => .next ρ' M1 | none => .bad) := s1
  cases q : gt p ρ with
  | none => rw [q] at s1; exact s1.elim
  | some ρ' => rw [q] at s1; exact ht (rep.mono e m).slots t q fun σ' sl' _ => s1 σ' H1 μ1 Ext.refl ⟨sl', m⟩
theorem q_set {i : Nat} {x : Str} {pos' : Pos} (ha : QE X W a fa) (hN : X.N.Nodup) (hi : X.N[i]? = some x := by rfl) (hx : Loc X.env.scope x := by first | exact Or.inl rfl | exact Or.inr rfl) (hs : swapsWith a (some (.Name x pos')) pos.line X.env = pure false := by rfl)
    (hf : X.fn x = true ∨ X.env.scope.names.lookup x = some .local := by first | exact .inl rfl | exact .inr rfl | assumption) : QS X W (.Assign [.Name x pos'] a pos) (sAsg fa (gName i)) := by
  refine PS_weak (ps_set hN hi hx ha hs hf) fun D σ H ⟨ρ, M, μ, rep, s⟩ => ⟨ρ, M, μ, rep, (SatS.bind rep s).imp fun v H1 ⟨p, M1, μ1, e, m, t, s1⟩ => ?_⟩
  exact s1 _ H1 μ1 Ext.refl ⟨(rep.mono e m).slots.set t, m⟩
theorem q_par {i j : Nat} {x y : Str} {px py pt pt2 : Pos} {kt k2 : Nat} (ha : QE X W a fa) (hb : QE X W b fb) (hc : X.calm = true) (hN : X.N.Nodup) (hi : X.N[i]? = some x) (hj : X.N[j]? = some y) (hij : i ≠ j)
    (hx : X.env.scope.names.lookup x = some .local) (hy : X.env.scope.names.lookup y = some .local)
    (hw : swappedStores [.Tuple [.Name x px, .Name y py] kt pt] (.Tuple [a, b] k2 pt2) X.env = pure (some [x, y]))
    (hsa : starEach (a :: [b]) X.env = (false, eval a X.env) :: starEach [b] X.env := by rfl) (hsb : starEach (b :: []) X.env = (false, eval b X.env) :: starEach [] X.env := by rfl)
    (hs : swapsWithSole [.Tuple [.Name x px, .Name y py] kt pt] (.Tuple [a, b] k2 pt2) pos.line X.env = pure false := by rfl) :
    QS X W (.Assign [.Tuple [.Name x px, .Name y py] kt pt] (.Tuple [a, b] k2 pt2) pos) (sPar i j fa fb) := by
  refine PS_weak (ps_par hc hN hi hj hij hx hy (pa_cons ha (pa_cons hb pa_nil hsb) hsa) hw hs) fun D σ H ⟨ρ, M, μ, rep, s⟩ => ⟨ρ, M, μ, rep, (SatS.bind rep s).imp fun v H1 ⟨p, M1, μ1, e, m, t, s1⟩ => ?_⟩
  have rep1 := rep.mono e m
  refine ⟨ρ, M1, μ1, rep1, (SatS.bind rep1 s1).imp fun u H2 ⟨q, M2, μ2, e2, m2, t2, s2⟩ => ?_⟩
  exact ⟨v, u, rfl, s2 _ H2 μ2 Ext.refl ⟨((rep1.mono e2 m2).slots.set (t.mono e2)).set t2, m2⟩⟩
/-! while -/
theorem q_while {body : List Stmt} {k : Nat} (hp : PassesOwn (model X.prog X.w) X.A X.env X.xe) (ht : QT X W c ft) (hb : QSs X W body g1) : QS X W (.While c body [] pos) (sWhile ft g1 k) := by
  refine PS_weak (ps_while hp ht hb) fun D σ H h => ?_
  refine ⟨fun m σ H => semS X.K X.w X.mg W (sWhile ft g1 m) D σ H, ⟨k, h⟩, ?_⟩
  rintro m σ H ⟨ρ, M, μ, rep, s⟩
  cases m with
  | zero => exact s.elim
  | succ m =>
    refine ⟨ρ, M, μ, rep, (SatS.bind rep s).imp fun v H1 ⟨p, M1, μ1, e, mm, t, s1⟩ => ?_⟩
    have t : p = v := t
    subst t
    cases p with
    | false => exact iteF (s1 σ H1 μ1 Ext.refl (rep.mono e mm))
    | true =>
      refine iteT ⟨semS X.K X.w X.mg W (sWhile ft g1 m) D, fun σ' H' h' => ⟨m, Nat.lt_succ_self m, h'⟩, ρ, M1, μ1, rep.mono e mm, ?_⟩
      have s1 : SatS X.K X.w X.mg W D H1 μ1 M1.length (loopBody (g1 ρ M1) (sWhile ft g1 m)) := s1
      cases q : g1 ρ M1 with
      | next ρ' M' => rw [q] at s1; exact fun σ' H' μ' x r => ⟨ρ', M', μ', r, SatS.ext (show SatS X.K X.w X.mg W D H1 μ1 M1.length (sWhile ft g1 m ρ' M') from s1) x⟩
      | cont ρ' M' => rw [q] at s1; exact fun σ' H' μ' x r => ⟨ρ', M', μ', r, SatS.ext (show SatS X.K X.w X.mg W D H1 μ1 M1.length (sWhile ft g1 m ρ' M') from s1) x⟩
      | brk ρ' M' => rw [q] at s1; exact s1
      | ret p M' => rw [q] at s1; exact s1
      | exc c fs ρ' M' => rw [q] at s1; exact s1
      | bad => rw [q] at s1; exact s1
/-! for -/
/-- at each turn the iterator yields the item -/
def ItRep (K : PySem.W.Frag) (w : World) (H0 : Hp) (μ0 : Nat → Addr) (n0 : Nat) (J : It) (I : Iter) : Prop := ∀ (i : Nat) (H : Hp) (M : Mem) (μ : Nat → Addr), Ext K H0 μ0 n0 H μ M.length → MemRep K w H M μ → I.guard M = true →
  (∀ p, I.items[i]? = some p → J.go i H ∧ ∀ x H', J.yld i H x H' → Ext K H μ M.length H' μ M.length ∧ MemRep K w H' M μ ∧ Tr K H' μ M.length p x) ∧ (I.items.length = i → J.stop i H)
def RI (K : PySem.W.Frag) (w : World) : Rel Iter It := fun H μ n I J => ItRep K w H μ n J I
abbrev QI (X : Cx) (W : WX) (tg iter : Expr) (f : Rho → Mem → Res Iter) : Prop := PI X tg iter (sem X.K X.w X.mg (RI X.K X.w) W f)
theorem q_for {tg iter : Expr} {body : List Stmt} {fi : Rho → Mem → Res Iter} {g : TG} {gt : FG} {is : List Nat} (hp : PassesOwn (model X.prog X.w) X.A X.env X.xe) (hc : X.calm = true) (hi : QI X W tg iter fi) (hg : PG X tg g) (ht : TgOk X.K g gt is) (hb : QSs X W body g1)
    (hs : ∀ x, foldedSetIterable iter X.env x = pure x := by intro _; rfl) : QS X W (.For tg iter body [] pos) (sFor fi gt g1) := by
  refine PS_weak (ps_for hp hc hi hg hb hs) fun D σ H ⟨ρ, M, μ, rep, s⟩ => ⟨ρ, M, μ, rep, (SatS.bind rep s).imp fun J H1 ⟨I, M1, μ1, e, m, t, s1⟩ => ?_⟩
  have t : ItRep X.K X.w H1 μ1 M1.length J I := fun i H' M' μ' a b c => t i H' M' μ' a b c
  have rep1 := rep.mono e m
  refine ⟨fun i k σ H => k = I.items.length - i ∧ i ≤ I.items.length ∧ ∃ ρ M μ, Rep X.K X.w σ H ρ M μ ∧ Ext X.K H1 μ1 M1.length H μ M.length ∧ SatS X.K X.w X.mg W D H μ M.length (loopF I.guard gt g1 (I.items.drop i) ρ M), ⟨_, rfl, Nat.zero_le _, ρ, M1, μ1, rep1, Ext.refl, s1⟩, ?_⟩
  rintro i k σ H ⟨rfl, hi, ρ, M, μ, rep, e, s⟩
  cases q : I.items.drop i with
  | nil =>
    rw [q] at s
    have hlen : I.items.length ≤ i := by simpa using q
    have s : SatS X.K X.w X.mg W D H μ M.length (if I.guard M = true then .next ρ M else .bad) := s
    by_cases gd : I.guard M = true
    · rw [if_pos gd] at s
      exact .inl ⟨(t i H M μ e rep.mem gd).2 (Nat.le_antisymm hlen hi), s σ H μ Ext.refl rep⟩
    · rw [if_neg gd] at s; exact s.elim
  | cons p ps =>
    rw [q] at s
    have hlt : i < I.items.length := by
      rcases Nat.lt_or_ge i I.items.length with h | h
      · exact h
      · rw [List.drop_eq_nil_of_le h] at q; cases q
    have hat : I.items[i]? = some p := by
      have z : (I.items.drop i)[0]? = some p := by rw [q]; rfl
      rwa [List.getElem?_drop, Nat.add_zero] at z
    have hdr : I.items.drop (i + 1) = ps := by
      have z : (I.items.drop i).tail = ps := by rw [q]; rfl
      rwa [List.tail_drop] at z
    have s : SatS X.K X.w X.mg W D H μ M.length (if I.guard M = true then (match gt p ρ with | some ρ1 => loopBody (g1 ρ1 M) (loopF I.guard gt g1 ps) | none => .bad) else .bad) := s
    by_cases gd : I.guard M = true
    · rw [if_pos gd] at s
      cases qg : gt p ρ with
      | none => rw [qg] at s; exact s.elim
      | some ρ1 =>
        rw [qg] at s
        obtain ⟨go, yl⟩ := (t i H M μ e rep.mem gd).1 p hat
        refine .inr ⟨go, fun σ' H' => ∃ ρ M μ, Rep X.K X.w σ' H' ρ M μ ∧ Ext X.K H1 μ1 M1.length H' μ M.length ∧ SatS X.K X.w X.mg W D H' μ M.length (loopF I.guard gt g1 ps ρ M), fun σ' H' ⟨ρ', M', μ', r', e', s'⟩ => ⟨_, by omega, rfl, by omega, ρ', M', μ', r', e', by rw [hdr]; exact s'⟩, fun x H' y => ?_⟩
        obtain ⟨e2, m2, t2⟩ := yl x H' y
        refine ht (rep.slots.mono e2) t2 qg fun σ2 sl2 _ => ⟨ρ1, M, μ, ⟨sl2, m2⟩, ?_⟩
        have s := SatS.ext s e2
        have s : SatS X.K X.w X.mg W D H' μ M.length (loopBody (g1 ρ1 M) (loopF I.guard gt g1 ps)) := s
        have e3 := e.trans e2
        cases qb : g1 ρ1 M with
        | next ρ' M' => rw [qb] at s; exact fun σ' H'' μ' x r => ⟨ρ', M', μ', r, e3.trans x, SatS.ext (show SatS X.K X.w X.mg W D H' μ M.length (loopF I.guard gt g1 ps ρ' M') from s) x⟩
        | cont ρ' M' => rw [qb] at s; exact fun σ' H'' μ' x r => ⟨ρ', M', μ', r, e3.trans x, SatS.ext (show SatS X.K X.w X.mg W D H' μ M.length (loopF I.guard gt g1 ps ρ' M') from s) x⟩
        | brk ρ' M' => rw [qb] at s; exact s
        | ret p M' => rw [qb] at s; exact s
        | exc c fs ρ' M' => rw [qb] at s; exact s
        | bad => rw [qb] at s; exact s
    · rw [if_neg gd] at s; exact s.elim
end
end TV
end
section
set_option linter.all false
set_option maxRecDepth 100000
set_option maxHeartbeats 2000000
set_option autoImplicit false
namespace TV
open PySem PySem.Spec PyProof.Rows L2
/-! Cells that nobody reaches any more are dropped at a def's end. -/
/-- a question about the cells, as a Bool -/
noncomputable def ask (p : Prop) : Bool := @decide p (Classical.propDecidable p)
theorem ask_iff {p : Prop} : ask p = true ↔ p := by unfold ask; exact @decide_eq_true_iff p (Classical.propDecidable p)
theorem ask_true {p : Prop} (h : p) : ask p = true := ask_iff.mpr h
theorem ask_false {p : Prop} (h : ¬ p) : ask p = false := by
  cases e : ask p with
  | false => rfl
  | true => exact absurd (ask_iff.mp e) h
mutual
def P.locs : P → List Nat
  | .tup ps => locsL ps
  | .loc l => [l]
  | .non => []
  | .bl _ => []
  | .int _ => []
  | .str _ => []
  | .ty _ => []
def locsL : List P → List Nat
  | [] => []
  | p :: ps => p.locs ++ locsL ps
end
mutual
def P.rn (l n : Nat) : P → P
  | .tup ps => .tup (rnL l n ps)
  | .loc k => .loc (if k = l then n else k)
  | .non => .non
  | .bl b => .bl b
  | .int i => .int i
  | .str x => .str x
  | .ty t => .ty t
def rnL (l n : Nat) : List P → List P
  | [] => []
  | p :: ps => p.rn l n :: rnL l n ps
end
def MO.locs : MO → List Nat
  | .lst xs => locsL xs
  | .dct kvs => locsL (kvs.map (·.1)) ++ locsL (kvs.map (·.2))
  | .dctL kvs => locsL (kvs.map (·.1)) ++ locsL (kvs.map (·.2))
  | .scr _ => []
section
variable {K : PySem.W.Frag} {w : World} {H H' : Hp} {μ μ' : Nat → Addr} {n n' l : Nat}
mutual
theorem Tr.lt : ∀ {p : P} {v : V}, Tr K H μ n p v → ∀ k ∈ p.locs, k < n
  | _, _, .non, _, h => by simp [P.locs] at h
  | _, _, .bl _, _, h => by simp [P.locs] at h
  | _, _, .int _, _, h => by simp [P.locs] at h
  | _, _, .str _, _, h => by simp [P.locs] at h
  | _, _, .ty _, _, h => by simp [P.locs] at h
  | _, _, .tup _ ts, k, h => Trs.lt ts k (by simpa [P.locs] using h)
  | _, _, .loc hl, k, h => by simp [P.locs] at h; subst h; exact hl
theorem Trs.lt : ∀ {ps : List P} {vs : List V}, Trs K H μ n ps vs → ∀ k ∈ locsL ps, k < n
  | _, _, .nil, _, h => by simp [locsL] at h
  | _, _, .cons t ts, k, h => by
    simp only [locsL, List.mem_append] at h
    rcases h with h | h
    · exact Tr.lt t k h
    · exact Trs.lt ts k h
end
mutual
theorem Tr.rn (hs : ∀ k, k < n → μ' k = μ k) (hl : μ' n = μ l) : ∀ {p : P} {v : V}, Tr K H μ n' p v → (∀ k ∈ p.locs, k < n ∨ k = l) → (l < n → False) → Tr K H μ' (n + 1) (p.rn l n) v
  | _, _, .non, _, _ => .non
  | _, _, .bl b, _, _ => .bl b
  | _, _, .int i, _, _ => .int i
  | _, _, .str x, _, _ => .str x
  | _, _, .ty t, _, _ => .ty t
  | _, _, .tup sq ts, h, z => .tup sq (Trs.rn hs hl ts (fun k hk => h k (by simpa [P.locs] using hk)) z)
  | _, _, .loc (l := k) _, h, z => by
    rcases h k (by simp [P.locs]) with hk | hk
    · have hne : k ≠ l := fun q => z (q ▸ hk)
      simp only [P.rn, if_neg hne]
      rw [← hs k hk]
      exact .loc (Nat.lt_succ_of_lt hk)
    · subst hk
      simp only [P.rn, if_pos]
      rw [← hl]
      exact .loc (Nat.lt_succ_self n)
theorem Trs.rn (hs : ∀ k, k < n → μ' k = μ k) (hl : μ' n = μ l) : ∀ {ps : List P} {vs : List V}, Trs K H μ n' ps vs → (∀ k ∈ locsL ps, k < n ∨ k = l) → (l < n → False) → Trs K H μ' (n + 1) (rnL l n ps) vs
  | _, _, .nil, _, _ => .nil
  | _, _, .cons t ts, h, z => .cons (Tr.rn hs hl t (fun k hk => h k (by simp [locsL, hk])) z) (Trs.rn hs hl ts (fun k hk => h k (by simp [locsL, hk])) z)
end
mutual
theorem Tr.shrink : ∀ {p : P} {v : V}, Tr K H μ n' p v → (∀ k ∈ p.locs, k < n) → Tr K H μ n p v
  | _, _, .non, _ => .non
  | _, _, .bl b, _ => .bl b
  | _, _, .int i, _ => .int i
  | _, _, .str x, _ => .str x
  | _, _, .ty t, _ => .ty t
  | _, _, .tup sq ts, h => .tup sq (Trs.shrink ts fun k hk => h k (by simpa [P.locs] using hk))
  | _, _, .loc _, h => .loc (h _ (by simp [P.locs]))
theorem Trs.shrink : ∀ {ps : List P} {vs : List V}, Trs K H μ n' ps vs → (∀ k ∈ locsL ps, k < n) → Trs K H μ n ps vs
  | _, _, .nil, _ => .nil
  | _, _, .cons t ts, h => .cons (Tr.shrink t fun k hk => h k (by simp [locsL, hk])) (Trs.shrink ts fun k hk => h k (by simp [locsL, hk]))
end
theorem MRep.lt {a : Addr} {o : MO} (m : MRep K w H μ n a o) : ∀ k ∈ o.locs, k < n := by
  cases m with
  | lst _ t => exact t.lt
  | dct _ t1 t2 => intro k hk; rcases List.mem_append.mp hk with h | h; exact t1.lt k h; exact t2.lt k h
  | dctL _ t1 t2 => intro k hk; rcases List.mem_append.mp hk with h | h; exact t1.lt k h; exact t2.lt k h
  | scr _ => intro k hk; cases hk
theorem MRep.shrink {a : Addr} {o : MO} (m : MRep K w H μ n' a o) (h : ∀ k ∈ o.locs, k < n) : MRep K w H μ n a o := by
  cases m with
  | lst e t => exact .lst e (t.shrink h)
  | dct e t1 t2 a b c d f => exact .dct e (t1.shrink fun k hk => h k (List.mem_append_left _ hk)) (t2.shrink fun k hk => h k (List.mem_append_right _ hk)) a b c d f
  | dctL e t1 t2 a b c d f => exact .dctL e (t1.shrink fun k hk => h k (List.mem_append_left _ hk)) (t2.shrink fun k hk => h k (List.mem_append_right _ hk)) a b c d f
  | scr e => exact .scr e
/-- the old cells stand still, or hold nothing new -/
def Kept (M M' : Mem) : Prop := M.length ≤ M'.length ∧ ∀ l, l < M.length → M'[l]? = M[l]? ∨ ∀ o, M'[l]? = some o → ∀ k ∈ o.locs, k < M.length
noncomputable def gcL (M : Mem) (r : P) (M' : Mem) (l : Nat) : Res P := match M'[l]? with
  | some o => if ask (Kept M M' ∧ (∀ k ∈ r.locs, k < M.length ∨ k = l) ∧ (∀ k ∈ o.locs, k < M.length) ∧ M.length ≤ l) then .ok (r.rn l M.length) (M'.take M.length ++ [o]) else .ok r M'
  | none => .ok r M'
noncomputable def gcOk (M : Mem) (r : P) (M' : Mem) : Res P := if ask (Kept M M' ∧ ∀ k ∈ r.locs, k < M.length) then .ok r (M'.take M.length) else match r.locs.find? fun k => decide (M.length ≤ k) with
  | some l => gcL M r M' l
  | none => .ok r M'
noncomputable def gc (M : Mem) : Res P → Res P
  | .ok r M' => gcOk M r M'
  | .exc c fs M' => .exc c fs M'
  | .bad => .bad
theorem MemRep.cut {M M' : Mem} (m : MemRep K w H M μ) (e : Ext K H μ M.length H' μ' M'.length) (m' : MemRep K w H' M' μ') (k : Kept M M') : MemRep K w H' (M'.take M.length) μ' := by
  have hl : (M'.take M.length).length = M.length := by rw [List.length_take]; exact Nat.min_eq_left k.1
  refine ⟨fun l o h => ?_, fun l1 l2 o1 o2 h1 h2 => ?_⟩
  · have hlt : l < M.length := by rw [← hl]; exact (List.getElem?_eq_some_iff.mp h).1
    rw [List.getElem?_take_of_lt hlt] at h
    rw [hl]
    refine (m'.at_ l o h).shrink ?_
    rcases k.2 l hlt with q | q
    · exact (m.at_ l o (by rw [← q]; exact h)).lt
    · exact q o h
  · have t1 : l1 < M.length := by rw [← hl]; exact (List.getElem?_eq_some_iff.mp h1).1
    have t2 : l2 < M.length := by rw [← hl]; exact (List.getElem?_eq_some_iff.mp h2).1
    rw [List.getElem?_take_of_lt t1] at h1
    rw [List.getElem?_take_of_lt t2] at h2
    exact m'.inj l1 l2 o1 o2 h1 h2
theorem MemRep.cut1 {M M' : Mem} {o : MO} (m : MemRep K w H M μ) (e : Ext K H μ M.length H' μ' M'.length) (m' : MemRep K w H' M' μ') (k : Kept M M') (hl : M'[l]? = some o) (ho : ∀ k ∈ o.locs, k < M.length) (ge : M.length ≤ l) :
    MemRep K w H' (M'.take M.length ++ [o]) (put μ' M.length (μ' l)) := by
  have c := m.cut e m' k
  have hz : (M'.take M.length).length = M.length := by rw [List.length_take]; exact Nat.min_eq_left k.1
  have ex : Ext K H' μ' M.length H' (put μ' M.length (μ' l)) (M.length + 1) := ⟨fun _ _ h => h, fun j hj => put_lt hj, fun _ _ _ h => h, Nat.le_succ _⟩
  have cas : ∀ (j : Nat) (q : MO), (M'.take M.length ++ [o])[j]? = some q → (j < M.length ∧ (M'.take M.length)[j]? = some q) ∨ (j = M.length ∧ q = o) := fun j q h => by
    by_cases hj : j < M.length
    · rw [List.getElem?_append_left (by rw [hz]; exact hj)] at h; exact .inl ⟨hj, h⟩
    · rw [List.getElem?_append_right (by rw [hz]; omega), hz] at h
      have : j - M.length = 0 := by
        have z := (List.getElem?_eq_some_iff.mp h).1
        simp at z; omega
      rw [this] at h
      simp at h
      exact .inr ⟨by omega, h.symm⟩
  have up : ∀ (j : Nat) (q : MO), (M'.take M.length)[j]? = some q → j < M.length → M'[j]? = some q := fun j q h hj => by rwa [List.getElem?_take_of_lt hj] at h
  refine ⟨fun j q h => ?_, fun j1 j2 q1 q2 h1 h2 a b en => ?_⟩
  · rw [List.length_append, hz]
    rcases cas j q h with ⟨hj, hq⟩ | ⟨rfl, rfl⟩
    · rw [put_lt hj]
      have z := c.at_ j q hq
      rw [hz] at z
      exact z.move ex fun _ _ h => h
    · rw [put_at]
      exact ((m'.at_ l _ hl).shrink ho).move ex fun _ _ h => h
  · rcases cas j1 q1 h1 with ⟨a1, b1⟩ | ⟨rfl, rfl⟩ <;> rcases cas j2 q2 h2 with ⟨a2, b2⟩ | ⟨rfl, rfl⟩
    · rw [put_lt a1, put_lt a2] at en; exact c.inj j1 j2 q1 q2 b1 b2 a b en
    · rw [put_lt a1, put_at] at en
      have := m'.inj j1 l q1 _ (up _ _ b1 a1) hl a b en
      omega
    · rw [put_lt a2, put_at] at en
      have := m'.inj j2 l q2 _ (up _ _ b2 a2) hl b a en.symm
      omega
    · rfl
theorem Sat.gc {mg : Str → Option Value} {W : WX} {σ : St} {M : Mem} {Q : VK} {r : Res P} (m : MemRep K w H M μ) (s : Sat K w mg (Tr K) W σ H μ M.length Q (gc M r)) : Sat K w mg (Tr K) W σ H μ M.length Q r := by
  cases r with
  | exc c fs M' => exact s
  | bad => exact s
  | ok r M' =>
    have s : Sat K w mg (Tr K) W σ H μ M.length Q (gcOk M r M') := s
    unfold gcOk at s
    intro v H' μ' e m' t
    by_cases h : ask (Kept M M' ∧ ∀ k ∈ r.locs, k < M.length) = true
    · rw [if_pos h] at s
      obtain ⟨k, hr⟩ := ask_iff.mp h
      have hz : (M'.take M.length).length = M.length := by rw [List.length_take]; exact Nat.min_eq_left k.1
      exact s v H' μ' ⟨e.tups, e.same, e.frz, by rw [hz]; exact Nat.le_refl _⟩ (m.cut e m' k) (by rw [hz]; exact t.shrink hr)
    · rw [if_neg h] at s
      cases f : r.locs.find? fun k => decide (M.length ≤ k) with
      | none => rw [f] at s; exact s v H' μ' e m' t
      | some l =>
        rw [f] at s
        have s : Sat K w mg (Tr K) W σ H μ M.length Q (gcL M r M' l) := s
        unfold gcL at s
        cases hl : M'[l]? with
        | none => rw [hl] at s; exact s v H' μ' e m' t
        | some o =>
          rw [hl] at s
          dsimp only at s
          by_cases h2 : ask (Kept M M' ∧ (∀ k ∈ r.locs, k < M.length ∨ k = l) ∧ (∀ k ∈ o.locs, k < M.length) ∧ M.length ≤ l) = true
          · rw [if_pos h2] at s
            obtain ⟨k, hr, ho, ge⟩ := ask_iff.mp h2
            have hz : (M'.take M.length ++ [o]).length = M.length + 1 := by rw [List.length_append, List.length_take, Nat.min_eq_left k.1]; rfl
            refine s v H' (put μ' M.length (μ' l)) ⟨e.tups, fun j hj => (put_lt hj).trans (e.same j hj), e.frz, by rw [hz]; exact Nat.le_succ _⟩ (m.cut1 e m' k hl ho ge) ?_
            rw [hz]
            exact Tr.rn (l := l) (n := M.length) (μ := μ') (μ' := put μ' M.length (μ' l)) (fun j hj => put_lt hj) put_at t hr (fun z => by omega)
          · rw [if_neg h2] at s; exact s v H' μ' e m' t
end
/-! what the dropping gives -/
theorem kept_app (M G : Mem) : Kept M (M ++ G) := ⟨by simp, fun l hl => .inl (List.getElem?_append_left hl)⟩
theorem gc_app {M G : Mem} {r : P} (h : ∀ k ∈ r.locs, k < M.length) : gc M (.ok r (M ++ G)) = .ok r M := by
  show gcOk _ _ _ = _
  unfold gcOk
  rw [if_pos (ask_true ⟨kept_app M G, h⟩)]
  simp
theorem gc_kept {M M' : Mem} {r : P} (k : Kept M M') (h : ∀ k ∈ r.locs, k < M.length) : gc M (.ok r M') = .ok r (M'.take M.length) := by
  show gcOk _ _ _ = _
  unfold gcOk
  rw [if_pos (ask_true ⟨k, h⟩)]
theorem gc_loc {M M' : Mem} {l : Nat} {o : MO} (k : Kept M M') (ge : M.length ≤ l) (hl : M'[l]? = some o) (ho : ∀ k ∈ o.locs, k < M.length) : gc M (.ok (.loc l) M') = .ok (.loc M.length) (M'.take M.length ++ [o]) := by
  show gcOk _ _ _ = _
  unfold gcOk
  rw [if_neg]
  · have : (P.loc l).locs.find? (fun k => decide (M.length ≤ k)) = some l := by simp [P.locs, ge]
    rw [this]
    show gcL M (.loc l) M' l = _
    unfold gcL
    rw [hl]
    dsimp only
    rw [if_pos (ask_true ⟨k, fun j hj => .inr (by simpa [P.locs] using hj), ho, ge⟩)]
    simp [P.rn]
  · rw [ask_iff]
    rintro ⟨_, z⟩
    have := z l (by simp [P.locs])
    omega
end TV
end
section
set_option linter.all false
set_option maxRecDepth 100000
set_option maxHeartbeats 2000000
set_option autoImplicit false
namespace TV
open PySem PySem.Spec PyProof.Rows L2

/-! ### defs -/
def startR (N : Nat) (qs : List P) : Rho := qs.map some ++ List.replicate (N - qs.length) none
def fin : ResS → Res P
  | .next _ M => .ok .non M
  | .ret p M => .ok p M
  | .exc c fs _ M => .exc c fs M
  | .brk _ _ => .bad
  | .cont _ _ => .bad
  | .bad => .bad
/-- a def of n parameters and N names, by its body -/
noncomputable def mkF (n N : Nat) (g : FS) : OpN := fun qs M => if qs.length = n then gc M (fin (g (startR N qs) M)) else .bad
/-- the def at f does what F does, at the levels below k, where no repr runs -/
structure FnT (P₀ : Program) (w : World) (K : PySem.W.Frag) (mg : Str → Option Value) (base : Heap) (k : Nat) (f : Addr) (fd : FuncData) (ps : List Str) (F : OpN) : Prop where
  len : ∀ qs M, qs.length ≠ ps.length → F qs M = .bad
  run : ∀ (A : Around) (outer : List Env) (s : Shared) (H : Hp) (args : Args) (us : List Value) (vs : List V) (qs : List P) (M : Mem) (μ : Nat → Addr) (Q : VK) (E : XK),
    Room k A → A.guards = some [] → Env0 P₀ w K mg base A outer s H → BindsTo s fd args (ps.zip us) → Vals vs us → Trs K H μ M.length qs vs → MemRep K w H M μ →
    Sat K w mg (Tr K) (fun c d _ H' => E c d H') [] H μ M.length Q (F qs M) → codeAny (model P₀ w) A (.call (.ref f) args) (CR (L2.CX P₀ w) outer P₀ w H s Q E) s
theorem FnT.mono {P₀ : Program} {w : World} {K : PySem.W.Frag} {mg : Str → Option Value} {base : Heap} {j k : Nat} {f : Addr} {fd : FuncData} {ps : List Str} {F : OpN} (h : FnT P₀ w K mg base j f fd ps F) (hjk : j ≤ k) : FnT P₀ w K mg base k f fd ps F :=
  ⟨h.len, fun A outer s H args us vs qs M μ Q E hr => h.run A outer s H args us vs qs M μ Q E (hr.mono hjk)⟩
theorem slots_start {K : PySem.W.Frag} {H : Hp} {μ : Nat → Addr} {n : Nat} {N : List Str} {qs : List P} {vs : List V} (t : Trs K H μ n qs vs) : Slots K (L2.start N vs) H (startR N.length qs) μ n := by
  have hl := t.length
  refine ⟨by simp [L2.start, startR, hl], fun i p h => ?_⟩
  unfold startR at h
  by_cases hi : i < qs.length
  · rw [List.getElem?_append_left (by simpa using hi), List.getElem?_map] at h
    cases e : qs[i]? with
    | none => rw [e] at h; cases h
    | some q =>
      rw [e] at h
      cases h
      obtain ⟨v, hv, tv⟩ := t.get e
      refine ⟨v, ?_, tv⟩
      unfold L2.start
      rw [List.getElem?_append_left (by rw [List.length_map, ← hl]; exact hi), List.getElem?_map, hv]
      rfl
  · rw [List.getElem?_append_right (by simpa using hi), List.getElem?_replicate] at h
    split at h <;> cases h
section
variable {P₀ : Program} {w : World} {K : PySem.W.Frag} {mg : Str → Option Value} {base : Heap}
/-- a def, by its body's mirror -/
theorem fn_t {x qual : Str} {params : Arguments} {body : List Stmt} {scope : Scope} {dvs : List V} {kws : List (Str × V)} {f : Addr} {fd : FuncData} {N ps : List Str} {k : Nat} {g : FS} (F : FunD K x qual params body scope dvs kws f fd) (S : FnScope N ps scope)
    (hbody : ∀ (cdv : Value) (A : Around) (outer : List Env) (s : Shared) (H : Hp) (E : XK), Room k (A.deeper (envOfC qual scope s.heap.objs.size f cdv)) → (A.deeper (envOfC qual scope s.heap.objs.size f cdv)).guards = some [] →
      QSs (cxOf (L2.CX P₀ w) P₀ w K mg base N qual scope f cdv A outer s H E) (fun c d _ H' => E c d H') body g) : FnT P₀ w K mg base (k + 1) f fd ps (mkF ps.length N.length g) := by
  obtain ⟨oc, od, dV, kV, doc, pm, an, cdv, ct, osl, rfl, lk, hcd, _, _⟩ := F.ex
  refine ⟨fun qs M hl => if_neg hl, ?_⟩
  intro A outer s H args us vs qs M μ Q E room hgu env0 bd rel tr mem sat
  have hl : qs.length = ps.length := by
    by_cases h : qs.length = ps.length
    · exact h
    · unfold mkF at sat; rw [if_neg h] at sat; exact sat.elim
  have hvl : vs.length = ps.length := tr.length.symm.trans hl
  have inK : K.In s.heap := env0.mod.kin.keeps fun b o q => (env0.bs b o q).1
  have nolim : s.heap.NoLimit := env0.mod.nolimit.keeps fun b o q => (env0.bs b o q).1
  have kinds : ∀ y ∈ ps.zip us, scope.names.lookup y.1 = some .local ∨ (scope.names.lookup y.1 = some .cell ∧ ((cellsFrom (s.heap.objs.size + 1) scope.names []).lookup y.1).isSome = true) := by
    rintro ⟨nm, val⟩ hy
    have hpar := S.par nm (List.of_mem_zip hy).1
    exact hpar.imp id fun q => ⟨q, PySem.W.cellsFrom_some _ _ _ (.inl q)⟩
  apply codeAny_call_function room.depth (inK _ _ lk) rfl S.co S.gen rfl (PySem.W.codeRec_of inK hcd)
  apply bd
  apply wpAny_newFunctionEnv_cells S.kind kinds
  intro env he s1 made
  subst he
  refine ⟨nolim.keeps made.toInCall.keep, codeAny_func ?_⟩
  have inv : Inv (cxOf (L2.CX P₀ w) P₀ w K mg base N qual scope f cdv A outer s H E) [] (L2.start N vs) H s1 := inv_start S room.hd env0 hvl rel made
  have hb := hbody cdv A outer s H E (room.deeper _) hgu
  have sat' : Sat K w mg (Tr K) (fun c d _ H' => E c d H') [] H μ M.length Q (fin (g (startR N.length qs) M)) := by
    unfold mkF at sat; rw [if_pos hl] at sat; exact sat.gc mem
  have rd : semS K w mg (fun c d _ H' => E c d H') g { nx := fun _ H' => Q .non H', rt := Q } (L2.start N vs) H := by
    refine ⟨_, M, μ, ⟨slots_start tr, mem⟩, ?_⟩
    cases q : g (startR N.length qs) M with
    | next ρ' M' => rw [q] at sat'; exact fun σ' H' μ' e r => sat' .non H' μ' e r.mem .non
    | ret p M' => rw [q] at sat'; exact sat'
    | brk ρ' M' => rw [q] at sat'; exact sat'.elim
    | cont ρ' M' => rw [q] at sat'; exact sat'.elim
    | exc c fs ρ' M' => rw [q] at sat'; exact fun C d σ' H' μ' e r hc fr => sat' C d H' μ' e r.mem hc fr
    | bad => rw [q] at sat'; exact sat'.elim
  have done : ∀ {σ' : St} {H' : Hp} {v : V} {u : Value} {s' : Shared}, Inv (cxOf (L2.CX P₀ w) P₀ w K mg base N qual scope f cdv A outer s H E) [] σ' H' s' → RelV v u → Q v H' → CE outer P₀ w H s Q u s' :=
    fun J rv q => ⟨_, _, J.os, J.bare, J.base, J.hok, rv, q⟩
  refine wpAny_mono (hb.run [] s1 (L2.start N vs) H _ inv rd) (fun fl s' hs => ?_) fun e s' hs => hs
  cases fl with
  | next => obtain ⟨σ', H', J, q⟩ := hs; exact done (v := V.non) (u := Value.none) J rfl q
  | ret u => obtain ⟨v, σ', H', J, rv, q⟩ := hs; exact done J rv q
  | brk => obtain ⟨_, _, _, q⟩ := hs; exact q.elim
  | cont => obtain ⟨_, _, _, q⟩ := hs; exact q.elim
end

/-! ### calls -/
section
variable {X : Cx} {W : WX} {k : Nat} {f : Addr} {fd : FuncData} {ps : List Str} {F : OpN} {x : Str} {p pos : Pos} {e : Expr} {es : List Expr} {fr : Rho → Mem → Res (List P)}
theorem run_t {pins : List (Addr × Obj)} {σ : St} {H : Hp} {s : Shared} {M : Mem} {μ : Nat → Addr} {Q : VK} {us : List Value} {vs : List V} {qs : List P} (G : FnT X.prog X.w X.K X.mg X.base k f fd ps F) (hr : Room k X.A) (hg : X.A.guards = some []) (hb : Binds X.K fd ps []) (tk : Takes X W)
    (I : Inv X pins σ H s) (r : Vals vs us) (t : Trs X.K H μ M.length qs vs) (m : MemRep X.K X.w H M μ) (sat : Sat X.K X.w X.mg (Tr X.K) W σ H μ M.length Q (F qs M)) : wpAny (model X.prog X.w) X.A (call (.ref f) us) (EP X pins σ Q) X.xe s := by
  have hq : qs.length = ps.length := by
    by_cases h : qs.length = ps.length
    · exact h
    · rw [G.len qs M h] at sat; exact sat.elim
  have hl : (us ++ []).length = ps.length := by rw [List.append_nil, ← r.length, ← t.length, hq]
  have bd := hb s us I.kIn hl
  rw [List.append_nil] at bd
  have sat2 : Sat X.K X.w X.mg (Tr X.K) (fun c d _ H' => W c d σ H') [] H μ M.length Q (F qs M) := by
    cases q : F qs M with
    | ok a M' => rw [q] at sat; exact sat
    | exc c fs M' => rw [q] at sat; exact sat
    | bad => rw [q] at sat; exact sat
  refine wpAny_call (codeAny_mono (G.run X.A X.stack s H ⟨us, []⟩ us vs qs M μ Q (fun c d H' => W c d σ H') hr hg I.env0 bd r t m sat2) fun res s' hq => ?_)
  cases res with
  | error ex => exact tk ex s' (XE.of_call I (fun _ _ _ z => z) hq)
  | ok fl =>
    cases fl with
    | ret u => exact I.after hq
    | next => exact hq.elim
    | brk => exact hq.elim
    | cont => exact hq.elim
theorem q_call (G : FnT X.prog X.w X.K X.mg X.base k f fd ps F) (hr : Room k X.A) (hgu : X.A.guards = some []) (hg : Gl X x) (hm : X.mg x = some (.ref f)) (hk : PySem.W.keepIn X.K (.ref f) = true) (hb : Binds X.K fd ps []) (tk : Takes X W)
    (ha : QA X W (e :: es) fr) (hdb : (x == ("__debug__" : Str)) = false := by decide) (he : starEach (e :: es) X.env = (false, eval e X.env) :: starEach es X.env := by rfl) (hpl : (backTo pos (starEach es X.env)).any (·.1) = false := by rfl) :
    QE X W (.Call (.Name x p) (e :: es) [] pos) (eArgs F fr) := by
  refine ⟨fun pins s σ H Q I h => ?_⟩
  obtain ⟨ρ, M, μ, rep, sat⟩ := h
  refine wpAny_Call_Name_kw (ld_glob I hg hm ?_ hdb)
  have hargs := ha.run pos pins s σ H _ I ⟨ρ, M, μ, rep, Sat.bind sat⟩
  refine PySem.W.callWith_K (h₀ := X.base) I.ok.mod.kin hk (thn hargs fun us s1 ⟨vs, H1, I1, r, qs, M1, μ1, _, e1, m1, t1, sat1⟩ => ⟨I1.kIn, ?_⟩) he hpl
  exact run_t G hr hgu hb tk I1 r t1 m1 sat1
theorem q_call0 (G : FnT X.prog X.w X.K X.mg X.base k f fd ps F) (hr : Room k X.A) (hgu : X.A.guards = some []) (hg : Gl X x) (hm : X.mg x = some (.ref f)) (hk : PySem.W.keepIn X.K (.ref f) = true) (hb : Binds X.K fd ps []) (tk : Takes X W)
    (hdb : (x == ("__debug__" : Str)) = false := by decide) : QE X W (.Call (.Name x p) [] [] pos) (eArgs F aNil) := by
  refine ⟨fun pins s σ H Q I h => ?_⟩
  obtain ⟨ρ, M, μ, rep, sat⟩ := h
  refine wpAny_Call_Name_kw (ld_glob I hg hm ?_ hdb)
  exact PySem.W.callWith_K0 I.kIn hk (run_t (us := []) (qs := []) G hr hgu hb tk I .nil .nil rep.mem sat)
/-- a built-in function, a built-in class, called by its name -/
theorem q_blt {id : String} {g : OpN} (h : PrimN X W (.builtin id) g) (hg : Gl X x) (hm : X.mg x = none) (hv : bootBuiltins x = some (.builtin id)) (ha : QA X W (e :: es) fr) (hn : x ≠ "__name__" := by decide) (hdb : (x == ("__debug__" : Str)) = false := by decide)
    (he : starEach (e :: es) X.env = (false, eval e X.env) :: starEach es X.env := by rfl) (hpl : (backTo pos (starEach es X.env)).any (·.1) = false := by rfl) : QE X W (.Call (.Name x p) (e :: es) [] pos) (eArgs g fr) := by
  obtain ⟨r, hc, hr⟩ := h
  exact PE_weak (pe_callB hc hg hm hv ha hn hdb he hpl) fun σ H Q ⟨ρ, M, μ, rep, s⟩ => ⟨ρ, M, μ, rep, (Sat.bind s).imp fun xs H1 ⟨qs, M1, μ1, _, e1, m1, t1, s1⟩ => hr m1 t1 s1⟩
theorem q_btyp {T : String} {g : OpN} (h : PrimN X W (.type T) g) (hg : Gl X x) (hm : X.mg x = none) (hv : bootBuiltins x = some (.type T)) (ha : QA X W (e :: es) fr) (hn : x ≠ "__name__" := by decide) (hdb : (x == ("__debug__" : Str)) = false := by decide)
    (he : starEach (e :: es) X.env = (false, eval e X.env) :: starEach es X.env := by rfl) (hpl : (backTo pos (starEach es X.env)).any (·.1) = false := by rfl) : QE X W (.Call (.Name x p) (e :: es) [] pos) (eArgs g fr) := by
  obtain ⟨r, hc, hr⟩ := h
  exact PE_weak (pe_callTy hc hg hm hv ha hn hdb he hpl) fun σ H Q ⟨ρ, M, μ, rep, s⟩ => ⟨ρ, M, μ, rep, (Sat.bind s).imp fun xs H1 ⟨qs, M1, μ1, _, e1, m1, t1, s1⟩ => hr m1 t1 s1⟩
end
end TV
end
section
set_option linter.all false
set_option maxRecDepth 100000
set_option maxHeartbeats 2000000
set_option autoImplicit false
namespace TV
open PySem PySem.Spec PyProof.Rows L2

/-- the script's own cell -/
def scriptH (a : Addr) (vs : List Value) (ns : List Int) : Hp := fun b => if b = a then some (.frz { cls := .type "list", data := .seq vs.toArray } (.lst (ns.map V.int))) else none
/-- THE END: the law's mirror at the script alone gives True -/
theorem end_t {P₀ : Program} {w : World} {K : PySem.W.Frag} {mg mb : Str → Option Value} {k : Nat} {fa a : Addr} {fd : FuncData} {x : Str} {F : OpN} {s₁ : Shared} {vs : List Value} {ns : List Int}
    (inK : K.In s₁.heap) (gns : s₁.heap.Ns mainGlobals mg) (bns : s₁.heap.Ns builtinsNs mb) (bbt : ∀ y : Str, y ≠ "__name__" → mb y = bootBuiltins y) (nolim : s₁.heap.NoLimit) (nogen : s₁.gens = #[])
    (obj : s₁.heap.get? a = some { cls := .type "list", data := .seq vs.toArray }) (its : IntsAre vs ns) (hlen : ns.length ≤ sizeLine) (room : Room k callerA)
    (G : ∀ base : Heap, K.In base → base.Ns mainGlobals mg → FnT P₀ w K mg base k fa fd [x] F) (bind : ∀ (s : Shared) (u : Value), BindsTo s fd ⟨[u], []⟩ [(x, u)])
    (law : ∃ M', F [.loc 0] [.scr ns] = .ok (.bl true) M') :
    codeAny (model P₀ w) callerA (.call (.ref fa) ⟨[.ref a], []⟩) (fun r s' => r = .ok (.ret (.bool true)) ∧ OldK s₁.heap s'.heap ∧ s'.os = s₁.os ∧ AllBare s'.gens) s₁ := by
  obtain ⟨M', law⟩ := law
  have rv := vals_ints its
  have lv := its.length
  -- the abstract heap: the script frozen, unless it is the module's own
  obtain ⟨H, hH, hS, hok, hKn⟩ : ∃ H : Hp, (∀ b u, H b = some u → b = a ∧ u = .frz { cls := .type "list", data := .seq vs.toArray } (.lst (ns.map V.int))) ∧
      ((∃ o, H a = some (.frz o (.lst (ns.map V.int)))) ∨ Stat K a (ns.map V.int)) ∧ HOk P₀ w H s₁.heap ∧ (∀ u, H a = some u → K.lookup a = none) := by
    cases hk : K.lookup a with
    | some o =>
      have e := inK a o hk
      rw [obj] at e
      cases e
      exact ⟨fun _ => none, (fun b u z => by cases z), .inr ⟨_, vs.toArray, _, hk, rfl, rfl, rfl, by rw [List.size_toArray, lv]; exact hlen, by simpa using rv⟩, (fun b u z => by cases z), (fun u z => by cases z)⟩
    | none =>
      have at_ : scriptH a vs ns a = some (.frz { cls := .type "list", data := .seq vs.toArray } (.lst (ns.map V.int))) := if_pos rfl
      have of : ∀ b u, scriptH a vs ns b = some u → b = a ∧ u = .frz { cls := .type "list", data := .seq vs.toArray } (.lst (ns.map V.int)) := fun b u z => by
        unfold scriptH at z
        by_cases hb : b = a
        · rw [if_pos hb] at z; exact ⟨hb, (Option.some.inj z).symm⟩
        · rw [if_neg hb] at z; cases z
      refine ⟨scriptH a vs ns, of, .inl ⟨_, at_⟩, fun b u z => ?_, fun _ _ => rfl⟩
      obtain ⟨rfl, rfl⟩ := of b u z
      exact ⟨obj, by rw [List.length_map]; exact hlen, vs, _, rv, obj⟩
  have noDict : ∀ {b : Addr} {o : Obj} {es : Array DictEntry} {ep : Nat}, s₁.heap.get? b = some o → o.data = .dict es ep → H b = none := by
    intro b o es ep e d
    cases q : H b with
    | none => rfl
    | some u =>
      obtain ⟨rfl, _⟩ := hH b u q
      rw [obj] at e
      cases e
      cases (show Data.seq vs.toArray _ = Data.dict es ep from d)
  have keepNs : ∀ {b : Addr} {m : Str → Option Value}, s₁.heap.Ns b m → (hidT s₁.heap H).Ns b m := by
    rintro b m ⟨o, es, ep, e, d, r⟩
    exact ⟨o, es, ep, hidT_get e (noDict e d), d, r⟩
  have inB : K.In (hidT s₁.heap H) := by
    intro b o e
    refine hidT_get (inK b o e) ?_
    cases q : H b with
    | none => rfl
    | some u =>
      obtain ⟨rfl, _⟩ := hH b u q
      rw [hKn u q] at e
      cases e
  have md : Mod K mg (hidT s₁.heap H) := ⟨inB, keepNs gns, ⟨mb, keepNs bns, bbt⟩, by obtain ⟨mc, h1, h2⟩ := nolim; exact ⟨mc, keepNs h1, h2⟩⟩
  have env0 : Env0 P₀ w K mg (hidT s₁.heap H) callerA [] s₁ H := ⟨rfl, md, fun b o e => of_hidT e, Nat.le_of_eq (hidT_size _ _), trivial, (fun b hb => absurd (show b ∈ ([] : List Addr) from hb) (by simp)), hok, .of_eq nogen⟩
  have mem : MemRep K w H [.scr ns] (fun _ => a) := by
    refine ⟨fun l o h => ?_, fun l l' o o' h h' m _ _ => ?_⟩
    · cases l with
      | zero => cases h; exact .scr hS
      | succ l => simp at h
    · cases l with
      | zero => cases h; cases m
      | succ l => simp at h
  have sat : Sat K w mg (Tr K) (fun c d _ H' => False) [] H (fun _ => a) [MO.scr ns].length (fun v _ => v = .bl true) (F [.loc 0] [.scr ns]) := by
    rw [law]
    intro v H' μ' _ _ t
    cases t
    rfl
  have go := (G _ inB (keepNs gns)).run callerA [] s₁ H ⟨[.ref a], []⟩ [.ref a] [.ref a] [.loc 0] [.scr ns] (fun _ => a) (fun v _ => v = .bl true) (fun _ _ _ => False) room rfl env0 (bind s₁ (.ref a)) (.cons rfl .nil) (.cons (.loc (Nat.lt_succ_self 0)) .nil) mem sat
  refine codeAny_mono go fun r s' h => ?_
  cases r with
  | error e => obtain ⟨_, _, _, _, _, _, _, _, _, _, _, _, z⟩ := h; exact z.elim
  | ok fl =>
    cases fl with
    | next => exact h.elim
    | brk => exact h.elim
    | cont => exact h.elim
    | ret u =>
      obtain ⟨v, H', os, bare, un, hok', rr, q⟩ := h
      have q : v = .bl true := q
      subst q
      cases (show u = Value.bool true from rr)
      refine ⟨rfl, OldK.of_keep fun b o e => ?_, os, bare⟩
      cases q : H b with
      | none => exact un.keep b o e q (fun z => absurd (show b ∈ ([] : List Addr) from z) (by simp)) (by simp)
      | some u =>
        obtain ⟨rfl, rfl⟩ := hH b u q
        have z := (hok' b _ (un.frzs b _ _ q)).1
        rw [obj] at e
        cases e
        exact z
/-- the walk's end, over a head by facts; the script's numbers have at most 2^20 bits -/
theorem walk_t {l : PySem.W.OpenLaw} {n k : Nat} {q : Program} {loose : List Str} {XP : (Str → Option Value) → Heap → Prop} {YP : World → Heap → Prop} {d : DefRec} {x : Str}
    (hn : l.most = some n) (hn2 : n ≤ sizeLine) (hdf : d.params.defaults = []) (hr : Room k callerA)
    (F : ∀ (w : World) (mg : Str → Option Value) (fa : Addr) (h : Heap), YP w h → h.Ns mainGlobals mg → mg d.name = some (.ref fa) →
      ∃ (K : PySem.W.Frag) (fd : FuncData) (F : OpN), K.In h ∧ (∀ (s : Shared) (u : Value), BindsTo s fd ⟨[u], []⟩ [(x, u)]) ∧
        (∀ ns : List Int, ns.length ≤ n → (∀ i ∈ ns, Builtin.Int.intBits i ≤ 1048576) → ∃ M', F [.loc 0] [.scr ns] = .ok (.bl true) M') ∧
        ∀ base : Heap, K.In base → base.Ns mainGlobals mg → FnT l.prog w K mg base k fa fd [x] F) :
    PySem.W.WalkO q loose XP YP l.row.toRowW d [] (fun f vs => PySem.call f vs) := by
  apply Att.attach_callB hn hdf
  intro w s₀ s₁ mg mb fa o pm cd doc a vs ns G Y ho hd hcd hmg hobj hints hlen hbits hg
  obtain ⟨K, fd, Fn, inK, hb, law, hF⟩ := F w mg fa _ Y G.T.g hmg
  exact end_t inK G.T.g G.T.b G.T.builtins G.T.nolimit hg hobj hints (Nat.le_trans hlen hn2) hr hF hb (law ns hlen hbits)
end TV
end
section
set_option linter.all false
set_option maxRecDepth 100000
set_option maxHeartbeats 2000000
set_option autoImplicit false
namespace TV
open PySem PySem.Spec PyProof.Rows L2

section
variable {K : PySem.W.Frag} {w : World} {mg : Str → Option Value} {W : WX} {σ : St} {H : Hp} {M : Mem} {μ : Nat → Addr} {Q : VK}
theorem sat_list {xs : List P} {vs : List V} (m : MemRep K w H M μ) (t : Trs K H μ M.length xs vs) (s : Sat K w mg (Tr K) W σ H μ M.length Q (.ok (.loc M.length) (M ++ [.lst xs]))) (p : Addr) (hp : H p = none) : Q (.ref p) (upd H p (.lst vs)) := by
  have m2 : MemRep K w (upd H p (.lst vs)) (M ++ [.lst xs]) (put μ M.length p) := m.alloc hp (.lst upd_same (t.mono (ext_new hp)))
  have hl : (M ++ [MO.lst xs]).length = M.length + 1 := by simp
  refine s _ _ _ (by rw [hl]; exact ext_new hp) m2 ?_
  rw [hl]
  have z := Tr.loc (K := K) (H := upd H p (.lst vs)) (μ := put μ M.length p) (Nat.lt_succ_self M.length)
  rwa [put_at] at z
theorem sat_tup {ps : List P} {vs : List V} (m : MemRep K w H M μ) (t : Trs K H μ M.length ps vs) (s : Sat K w mg (Tr K) W σ H μ M.length Q (.ok (.tup ps) M)) (p : Addr) (hp : H p = none) : Q (.ref p) (upd H p (.tup vs)) :=
  s _ _ _ (ext_upd (.inr hp)) (m.beside hp) (.tup (SqT.of upd_same) (t.mono (ext_upd (.inr hp))))
/-- a list that is written -/
theorem sat_write {l : Nat} {xs ys : List P} {us vs : List V} {r : P} {x : V} (m : MemRep K w H M μ) (hl : M[l]? = some (.lst xs)) (hH : H (μ l) = some (.lst us)) (t : Trs K H μ M.length ys vs) (hr : ∀ H' μ' n, Tr K H' μ' n r x) (s : Sat K w mg (Tr K) W σ H μ M.length Q (.ok r (M.set l (.lst ys)))) : Q x (upd H (μ l) (.lst vs)) := by
  have mu : Mut (H (μ l)) := by rw [hH]; trivial
  obtain ⟨m2, e2⟩ := m.write (O := .lst vs) (o' := .lst ys) hl rfl rfl (.lst upd_same (t.mono (ext_upd (.inl mu))))
  exact s _ _ _ e2 m2 (hr _ _ _)
end
section
variable {X : Cx}
theorem OpR.or {f : Value → Value → Sem Value} {r r' : R2} (h : OpR X f r) (h' : OpR X f r') : OpR X f (fun x y H Q => r x y H Q ∨ r' x y H Q) := by
  intro pins s σ H x y v u Q I rx ry q
  rcases q with q | q
  · exact h pins s σ H x y v u Q I rx ry q
  · exact h' pins s σ H x y v u Q I rx ry q
end

/-! ### + - * // % ** -/
def pAdd : Op2
  | .int i, .int j, M => .ok (.int (i + j)) M
  | .str x, .str y, M => if x.length + y.length ≤ sizeLine then .ok (.str (x ++ y)) M else .bad
  | .tup ps, .tup qs, M => if ps.length + qs.length ≤ sizeLine then .ok (.tup (ps ++ qs)) M else .bad
  | .loc a, .loc b, M => match M[a]?, M[b]? with
    | some (.lst xs), some (.lst ys) => if xs.length + ys.length ≤ sizeLine then .ok (.loc M.length) (M ++ [.lst (xs ++ ys)]) else .bad
    | _, _ => .bad
  | _, _, _ => .bad
def pSub : Op2
  | .int i, .int j, M => .ok (.int (i - j)) M
  | _, _, _ => .bad
def pMul : Op2
  | .int i, .int j, M => if (-(2 ^ 64) < i ∧ i < 2 ^ 64) ∨ (-(2 ^ 64) < j ∧ j < 2 ^ 64) then .ok (.int (i * j)) M else .bad
  | .loc a, .int k, M => match M[a]? with
    | some (.lst xs) => if -(2 ^ 63) ≤ k ∧ k < 2 ^ 63 ∧ xs.length * k.toNat ≤ sizeLine then .ok (.loc M.length) (M ++ [.lst (List.replicate k.toNat xs).flatten]) else .bad
    | _ => .bad
  | _, _, _ => .bad
def pDiv : Op2
  | .int i, .int j, M => if 0 < j ∧ j < 1073741824 then .ok (.int (i / j)) M else .bad
  | _, _, _ => .bad
def pMod : Op2
  | .int i, .int j, M => if 0 < j then .ok (.int (i % j)) M else .bad
  | _, _, _ => .bad
def pPow : Op2
  | .int i, .int j, M => if 0 ≤ j ∧ (Builtin.Int.intBits i : Int) * j ≤ 2 ^ 27 then .ok (.int (i ^ j.toNat)) M else .bad
  | _, _, _ => .bad
def pNeg : P → Mem → Res P
  | .int i, M => .ok (.int (-i)) M
  | _, _ => .bad
section
variable {X : Cx} {W : WX}
theorem Trs.rep {K : PySem.W.Frag} {H : Hp} {μ : Nat → Addr} {n : Nat} {ps : List P} {vs : List V} (t : Trs K H μ n ps vs) : ∀ k : Nat, Trs K H μ n (List.replicate k ps).flatten (List.replicate k vs).flatten
  | 0 => .nil
  | k + 1 => by rw [List.replicate_succ, List.replicate_succ, List.flatten_cons, List.flatten_cons]; exact t.append (t.rep k)
theorem p_add : Prim2 X W (binaryOp .Add) pAdd := by
  refine ⟨_, ((op_add.or op_add_str).or op_catA).or op_cat, fun {σ H M μ p q x y Q} m t1 t2 s => ?_⟩
  cases t1 with
  | int i => cases t2 with
    | int j => exact .inl (.inl (.inl ⟨i, j, rfl, rfl, s.here m (.int _)⟩))
    | _ => exact s.elim
  | str i => cases t2 with
    | str j =>
      unfold pAdd at s
      dsimp only at s
      by_cases h : i.length + j.length ≤ sizeLine
      · rw [if_pos h] at s; exact .inl (.inl (.inr ⟨i, j, rfl, rfl, h, s.here m (.str _)⟩))
      · rw [if_neg h] at s; exact s.elim
    | _ => exact s.elim
  | @tup a xs ps h1 t1 => cases t2 with
    | @tup b ys qs h2 t2 =>
      unfold pAdd at s
      dsimp only at s
      by_cases h : ps.length + qs.length ≤ sizeLine
      · rw [if_pos h] at s
        refine .inl (.inr ⟨a, b, xs, ys, rfl, rfl, h1, h2, by rw [← t1.length, ← t2.length]; exact h, fun e => ?_, fun _ e => ?_, fun _ _ => sat_tup m (t1.append t2) s⟩)
        · subst e; cases t1; exact s.here m (.tup h2 t2)
        · subst e; cases t2; rw [List.append_nil] at s; exact s.here m (.tup h1 t1)
      · rw [if_neg h] at s; exact s.elim
    | _ => exact s.elim
  | @loc a ha => cases t2 with
    | @loc b hb =>
      unfold pAdd at s
      dsimp only at s
      split at s
      · rename_i xs ys e1 e2
        obtain ⟨us, _, ta, ea⟩ := (m.at_ a _ e1).sqL
        obtain ⟨vs, _, tb, eb⟩ := (m.at_ b _ e2).sqL
        by_cases h : xs.length + ys.length ≤ sizeLine
        · rw [if_pos h] at s
          exact .inr ⟨_, _, us, vs, rfl, rfl, ea, eb, by rw [← ta.length, ← tb.length]; exact h, sat_list m (ta.append tb) s⟩
        · rw [if_neg h] at s; exact s.elim
      · exact s.elim
    | _ => exact s.elim
  | _ => exact s.elim
theorem p_sub : Prim2 X W (binaryOp .Sub) pSub := by
  refine ⟨_, op_sub, fun {σ H M μ p q x y Q} m t1 t2 s => ?_⟩
  cases t1 with
  | int i => cases t2 with
    | int j => exact ⟨i, j, rfl, rfl, s.here m (.int _)⟩
    | _ => exact s.elim
  | _ => exact s.elim
theorem p_mul : Prim2 X W (binaryOp .Mult) pMul := by
  refine ⟨_, op_mul.or op_rep, fun {σ H M μ p q x y Q} m t1 t2 s => ?_⟩
  cases t1 with
  | int i => cases t2 with
    | int j =>
      unfold pMul at s
      dsimp only at s
      by_cases h : (-(2 ^ 64) < i ∧ i < 2 ^ 64) ∨ (-(2 ^ 64) < j ∧ j < 2 ^ 64)
      · rw [if_pos h] at s; exact .inl ⟨i, j, rfl, rfl, h, s.here m (.int _)⟩
      · rw [if_neg h] at s; exact s.elim
    | _ => exact s.elim
  | @loc a ha => cases t2 with
    | int k =>
      unfold pMul at s
      dsimp only at s
      split at s
      · rename_i xs e1
        obtain ⟨us, _, ta, ea⟩ := (m.at_ a _ e1).sqL
        by_cases h : -(2 ^ 63) ≤ k ∧ k < 2 ^ 63 ∧ xs.length * k.toNat ≤ sizeLine
        · rw [if_pos h] at s
          exact .inr ⟨_, k, us, rfl, rfl, ea, h.1, h.2.1, by rw [← ta.length]; exact h.2.2, sat_list m (ta.rep _) s⟩
        · rw [if_neg h] at s; exact s.elim
      · exact s.elim
    | _ => exact s.elim
  | _ => exact s.elim
theorem p_div : Prim2 X W (binaryOp .FloorDiv) pDiv := by
  refine ⟨_, op_fdiv, fun {σ H M μ p q x y Q} m t1 t2 s => ?_⟩
  cases t1 with
  | int i => cases t2 with
    | int j =>
      unfold pDiv at s
      dsimp only at s
      by_cases h : 0 < j ∧ j < 1073741824
      · rw [if_pos h] at s; exact ⟨i, j, rfl, rfl, h, s.here m (.int _)⟩
      · rw [if_neg h] at s; exact s.elim
    | _ => exact s.elim
  | _ => exact s.elim
theorem p_mod : Prim2 X W (binaryOp .Mod) pMod := by
  refine ⟨_, op_mod, fun {σ H M μ p q x y Q} m t1 t2 s => ?_⟩
  cases t1 with
  | int i => cases t2 with
    | int j =>
      unfold pMod at s
      dsimp only at s
      by_cases h : 0 < j
      · rw [if_pos h] at s; exact ⟨i, j, rfl, rfl, h, s.here m (.int _)⟩
      · rw [if_neg h] at s; exact s.elim
    | _ => exact s.elim
  | _ => exact s.elim
theorem op_powT : OpR X (binaryOp .Pow) (rI (fun i j => 0 ≤ j ∧ (Builtin.Int.intBits i : Int) * j ≤ 2 ^ 27) fun i j => .int (i ^ j.toNat)) := opI fun _ _ _ _ _ _ _ hc q => pow_int hc.1 hc.2 q
theorem p_pow : Prim2 X W (binaryOp .Pow) pPow := by
  refine ⟨_, op_powT, fun {σ H M μ p q x y Q} m t1 t2 s => ?_⟩
  cases t1 with
  | int i => cases t2 with
    | int j =>
      unfold pPow at s
      dsimp only at s
      by_cases h : 0 ≤ j ∧ (Builtin.Int.intBits i : Int) * j ≤ 2 ^ 27
      · rw [if_pos h] at s; exact ⟨i, j, rfl, rfl, h, s.here m (.int _)⟩
      · rw [if_neg h] at s; exact s.elim
    | _ => exact s.elim
  | _ => exact s.elim
theorem p_neg : Prim1 X W (unaryOp .USub) pNeg := by
  refine ⟨_, un_neg, fun {σ H M μ p x Q} m t1 s => ?_⟩
  cases t1 with
  | int i => exact ⟨i, rfl, s.here m (.int _)⟩
  | _ => exact s.elim
end
end TV
end
section
set_option linter.all false
set_option maxRecDepth 100000
set_option maxHeartbeats 2000000
set_option autoImplicit false
/-! Dicts whose keys are values of any kind that can be a key: None, bools, numbers, texts, and tuples of these, all beside one another. -/
namespace TD
open PySem

/-- the entries' keys are the keys ks, each of depth at most 8 -/
inductive KeysAre (w : World) (h : Heap) : List NestedKey → List DictEntry → Prop
  | nil : KeysAre w h [] []
  | cons {k : NestedKey} {ks : List NestedKey} {e : DictEntry} {es : List DictEntry} : NestedIs h k e.key → e.hash = k.hash w → k.depth ≤ 8 → KeysAre w h ks es → KeysAre w h (k :: ks) (e :: es)
theorem KeysAre.length {w : World} {h : Heap} : ∀ {ks : List NestedKey} {es : List DictEntry}, KeysAre w h ks es → ks.length = es.length
  | _, _, .nil => rfl
  | _, _, .cons _ _ _ t => by simp [t.length]
theorem KeysAre.at {w : World} {h : Heap} : ∀ {ks : List NestedKey} {es : List DictEntry} {i : Nat} {e : DictEntry}, KeysAre w h ks es → es[i]? = some e → ∃ k, ks[i]? = some k ∧ NestedIs h k e.key ∧ e.hash = k.hash w ∧ k.depth ≤ 8
  | _, _, _, _, .nil, q => by simp at q
  | _, _, 0, _, .cons a b c _, q => by simp at q; subst q; exact ⟨_, rfl, a, b, c⟩
  | _, _, i + 1, e, .cons _ _ _ t, q => by
    obtain ⟨k, q1, r⟩ := KeysAre.at (i := i) (e := e) t (by simpa using q)
    exact ⟨k, by simpa using q1, r⟩
theorem KeysAre.at' {w : World} {h : Heap} : ∀ {ks : List NestedKey} {es : List DictEntry} {i : Nat} {k : NestedKey}, KeysAre w h ks es → ks[i]? = some k → ∃ e, es[i]? = some e ∧ NestedIs h k e.key ∧ e.hash = k.hash w ∧ k.depth ≤ 8
  | _, _, _, _, .nil, q => by simp at q
  | _, _, 0, _, .cons a b c _, q => by simp at q; subst q; exact ⟨_, rfl, a, b, c⟩
  | _, _, i + 1, k, .cons _ _ _ t, q => by
    obtain ⟨e, q1, r⟩ := KeysAre.at' (i := i) (k := k) t (by simpa using q)
    exact ⟨e, by simpa using q1, r⟩
/-- where a key stands -/
def placeOf (ks : List NestedKey) (k : NestedKey) : Option Nat := ks.findIdx? fun y => decide (y = k)
theorem placeOf_some {ks : List NestedKey} {k : NestedKey} {i : Nat} (nd : ks.Nodup) (h : ks[i]? = some k) : placeOf ks k = some i := by
  unfold placeOf
  obtain ⟨hi, e⟩ := List.getElem?_eq_some_iff.mp h
  rw [List.findIdx?_eq_some_iff_getElem]
  refine ⟨hi, by simp [e], fun j hj => ?_⟩
  intro z
  have z := of_decide_eq_true z
  exact absurd ((List.getElem_inj nd).mp (z.trans e.symm)) (by omega)
theorem placeOf_none {ks : List NestedKey} {k : NestedKey} (h : ∀ j : Nat, ks[j]? ≠ some k) : placeOf ks k = none := by
  unfold placeOf
  rw [List.findIdx?_eq_none_iff]
  intro x hx
  refine decide_eq_false fun e => ?_
  obtain ⟨j, hj⟩ := List.mem_iff_getElem?.mp hx
  exact h j (by rw [hj, e])

section
variable {prog : Program} {w : World} {A : Around} {E : Value → Shared → Prop} {s : Shared}
theorem eq_keys {x y : NestedKey} {a b : Value} {Q : Bool → Shared → Prop} (hx : NestedIs s.heap x a) (hy : NestedIs s.heap y b) (dx : x.depth ≤ 8) (hu : A.units + 8 < cLine) (h : Q (decide (x = y)) s) : wpAny (model prog w) A (eqBool a b) Q E s :=
  eqAt_key x y A s a b hx hy (by have := Nat.min_le_left x.depth y.depth; omega) _ _ _ _ (by rw [← NestedKey.decide_eq]; exact h)
theorem mayTell {key : Value} {k : NestedKey} {stored : List Value} {Q : Bool → Shared → Prop} (hk : NestedIs s.heap k key) (dk : k.depth ≤ 8) (hst : ∀ v ∈ stored, ∃ k', NestedIs s.heap k' v ∧ k'.depth ≤ 8) (h : Q false s) :
    wpAny (model prog w) A (tableMayTell key stored) Q E s := by
  unfold tableMayTell
  by_cases he : stored.isEmpty = true
  · rw [if_pos he]; exact wpAny_pure h
  rw [if_neg he]
  refine wpAny_bind (quiet_key k key 8 s hk dk A E _ ?_)
  rw [if_neg (by simp)]
  refine wpAny_bind (wpAny_forIn_list _ (fun left st s' => s' = s ∧ st = (none, ()) ∧ ∀ v ∈ left, ∃ k', NestedIs s.heap k' v ∧ k'.depth ≤ 8) _ ?_ ?_ _ _ ⟨rfl, rfl, hst⟩)
  · rintro v left st s' ⟨rfl, rfl, hl⟩
    obtain ⟨k', i', d'⟩ := hl v List.mem_cons_self
    refine wpAny_bind (quiet_key k' v 8 s' i' d' A E _ ?_)
    rw [if_neg (by simp)]
    exact wpAny_pure ⟨rfl, rfl, fun u hu => hl u (List.mem_cons_of_mem _ hu)⟩
  · rintro st s' ⟨rfl, rfl, _⟩
    exact wpAny_pure h
end
end TD
end
section
set_option linter.all false
set_option maxRecDepth 100000
set_option maxHeartbeats 4000000
set_option autoImplicit false
namespace TD
open PySem
section
variable {prog : Program} {w : World} {A : Around} {E : Value → Shared → Prop} {s : Shared} {d : Addr} {o : Obj} {es : Array DictEntry} {ep : Nat} {ks : List NestedKey} {k : NestedKey} {key : Value} {Q : Option Nat → Shared → Prop}

theorem entryAt (ka : KeysAre w s.heap ks es.toList) {j : Nat} (hj : j < es.size) : ∃ k', ks[j]? = some k' ∧ NestedIs s.heap k' es[j].key ∧ es[j].hash = k'.hash w ∧ k'.depth ≤ 8 :=
  ka.at (i := j) (e := es[j]) (by rw [Array.getElem?_toList, Array.getElem?_eq_getElem hj])
/-- no key at a place of another hash -/
theorem skipped (ka : KeysAre w s.heap ks es.toList) {j : Nat} (hj : j < es.size) (h : ((es[j]?.map (·.hash)) == some (k.hash w)) = false) : ks[j]? ≠ some k := fun z => by
  obtain ⟨k', e1, _, e2, _⟩ := entryAt ka hj
  rw [z] at e1; cases e1
  rw [Array.getElem?_eq_getElem hj, Option.map_some, e2] at h
  simp at h
theorem beyond (ka : KeysAre w s.heap ks es.toList) {j : Nat} (hj : es.size ≤ j) : ks[j]? ≠ some k := fun z => by
  have := (List.getElem?_eq_some_iff.mp z).1
  rw [ka.length, Array.length_toList] at this
  omega

theorem walkPlain (hu : A.units + 8 < cLine) (ho : s.heap.get? d = some o) (hd : o.data = .dict es ep) (ka : KeysAre w s.heap ks es.toList) (nd : ks.Nodup) (hk : NestedIs s.heap k key) (h : Q (placeOf ks k) s) :
    wpAny (model prog w) A (dictWalkPlain d key (k.hash w) es (placesWithHash es.size (fun i => es[i]?.map (·.hash)) (k.hash w))) Q E s := by
  unfold dictWalkPlain
  refine wpAny_bind (wpAny_forIn_list _
    (fun left st s' => s' = s ∧ st = (none, ()) ∧ ∃ i, left = (List.range' i (es.size - i)).filter (fun i => (es[i]?.map (·.hash)) == some (k.hash w)) ∧ i ≤ es.size ∧ ∀ j, j < i → ks[j]? ≠ some k) _ ?_ ?_ _ _
    ⟨rfl, rfl, 0, by rw [placesWithHash, List.range_eq_range', Nat.sub_zero], Nat.zero_le _, fun _ z => absurd z (Nat.not_lt_zero _)⟩)
  · rintro x left st s' ⟨rfl, rfl, i, hr, hi, no⟩
    obtain ⟨hix, hxn, hpx, hsk, hleft⟩ := filter_range'_cons _ _ _ _ _ hr.symm
    have hlt : x < es.size := by omega
    obtain ⟨k', e1, n1, e2, dp⟩ := entryAt ka hlt
    have upto : ∀ j, j < x → ks[j]? ≠ some k := fun j hj => by
      rcases Nat.lt_or_ge j i with q | q
      · exact no j q
      · exact skipped ka (by omega) (hsk j q hj)
    have go : k' ≠ k → ∃ i, left = (List.range' i (es.size - i)).filter (fun i => (es[i]?.map (·.hash)) == some (k.hash w)) ∧ i ≤ es.size ∧ ∀ j, j < i → ks[j]? ≠ some k := fun ne =>
      ⟨x + 1, by rw [hleft]; congr 2; omega, hlt, fun j hj => by
        rcases Nat.lt_or_ge j x with q | q
        · exact upto j q
        · have : j = x := by omega
          subst this
          rw [e1]
          exact fun z => ne (Option.some.inj z)⟩
    simp only [Array.getElem?_eq_getElem hlt]
    by_cases hh : (es[x].hash == k.hash w) = true
    · rw [if_pos hh]
      refine wpAny_bind (wpAny_dictEpoch ho hd (wpAny_bind (eq_keys n1 hk dp hu (wpAny_bind (wpAny_dictEpoch ho hd ?_)))))
      rw [show (ep != ep) = false by simp]
      by_cases hkk : k' = k
      · subst hkk
        rw [placeOf_some nd e1] at h
        simp only [decide_true]
        exact wpAny_bind (wpAny_rule (wpAny_pure (wpAny_pure h)))
      · simp only [hkk, decide_false]
        exact wpAny_bind (wpAny_rule (wpAny_pure ⟨rfl, rfl, go hkk⟩))
    · rw [if_neg hh]
      refine wpAny_pure ⟨rfl, rfl, go fun z => ?_⟩
      subst z
      rw [e2] at hh
      simp at hh
  · rintro st s' ⟨rfl, rfl, i, hr, hi, no⟩
    have none_ : ∀ j : Nat, ks[j]? ≠ some k := fun j => by
      rcases Nat.lt_or_ge j i with q | q
      · exact no j q
      · rcases Nat.lt_or_ge j es.size with q' | q'
        · refine skipped ka q' ?_
          have z := List.filter_eq_nil_iff.mp hr.symm j (List.mem_range'_1.mpr ⟨q, by omega⟩)
          simpa using z
        · exact beyond ka q'
    rw [placeOf_none none_] at h
    exact wpAny_pure h
end
end TD
end
section
set_option linter.all false
set_option maxRecDepth 100000
set_option maxHeartbeats 4000000
set_option autoImplicit false
namespace TD
open PySem
section
variable {prog : Program} {w : World} {A : Around} {E : Value → Shared → Prop} {s : Shared} {d : Addr} {o : Obj} {es : Array DictEntry} {ep : Nat} {ks : List NestedKey} {k : NestedKey} {key : Value} {Q : Option Nat → Shared → Prop}
/-- texts among texts -/
theorem byValue {x : Str} {t : Tok} (hu : A.units + 8 < cLine) (ho : s.heap.get? d = some o) (hd : o.data = .dict es ep) (ka : KeysAre w s.heap ks es.toList) (nd : ks.Nodup) (h : Q (placeOf ks (.text x)) s) :
    wpAny (model prog w) A (foundByValue d (.str x t) es x) Q E s := by
  have is : ∀ (j : Nat) (hj : j < es.size), es[j].key.isStr x = true ↔ ks[j]? = some (.text x) := fun j hj => by
    obtain ⟨k', e1, n1, _, _⟩ := entryAt ka hj
    constructor
    · intro z
      rw [e1]
      cases q : es[j].key with
      | str y u =>
        rw [q] at z n1
        have z : (y == x) = true := z
        rw [eq_of_beq z] at n1
        exact congrArg some (NestedIs.inj _ _ _ n1 (.text x u))
      | _ => rw [q] at z; cases z
    · intro z
      rw [e1] at z
      cases z
      cases q : es[j].key with
      | str y u =>
        rw [q] at n1
        cases n1
        show (x == x) = true
        simp
      | _ => rw [q] at n1; cases n1
  unfold foundByValue
  cases hf : es.findIdx? (fun e => e.key.isStr x) with
  | none =>
    have no : ∀ j : Nat, ks[j]? ≠ some (.text x) := fun j => by
      rcases Nat.lt_or_ge j es.size with q | q
      · intro z
        have z1 := (is j q).mpr z
        have z2 := Array.findIdx?_eq_none_iff.mp hf es[j] (Array.getElem_mem q)
        rw [z1] at z2; cases z2
      · exact beyond ka q
    rw [placeOf_none no] at h
    exact wpAny_pure h
  | some i =>
    obtain ⟨hlt, hi, _⟩ := Array.findIdx?_eq_some_iff_getElem.mp hf
    have e1 := (is i hlt).mp hi
    obtain ⟨k', e2, n1, _, dp⟩ := entryAt ka hlt
    rw [e1] at e2; cases e2
    rw [placeOf_some nd e1] at h
    simp only [Array.getElem?_eq_getElem hlt]
    refine wpAny_bind (wpAny_dictEpoch ho hd (wpAny_bind (eq_keys n1 (.text x t) dp hu (wpAny_bind (wpAny_dictEpoch ho hd ?_)))))
    simp only [bne_self_eq_false, decide_true]
    exact wpAny_bind (wpAny_rule (wpAny_pure h))
theorem find (hu : A.units + 8 < cLine) (ho : s.heap.get? d = some o) (hd : o.data = .dict es ep) (ka : KeysAre w s.heap ks es.toList) (nd : ks.Nodup) (hk : NestedIs s.heap k key) (dk : k.depth ≤ 8) (h : Q (placeOf ks k) s) :
    wpAny (model prog w) A (dictFind d key (k.hash w)) Q E s := by
  have hst : ∀ v ∈ (placesWithHash es.size (fun i => es[i]?.map (·.hash)) (k.hash w)).filterMap (fun i => es[i]?.map (·.key)), ∃ k', NestedIs s.heap k' v ∧ k'.depth ≤ 8 := by
    intro v hv
    obtain ⟨i, _, hi⟩ := List.mem_filterMap.mp hv
    rcases Nat.lt_or_ge i es.size with q | q
    · rw [Array.getElem?_eq_getElem q] at hi
      cases hi
      obtain ⟨k', _, n1, _, dp⟩ := entryAt ka q
      exact ⟨k', n1, dp⟩
    · rw [Array.getElem?_eq_none q] at hi; cases hi
  have noAny : ¬ (es.any fun e => e.key == key && e.hash != k.hash w) = true := by
    intro z
    obtain ⟨j, hj, z⟩ := Array.any_eq_true.mp z
    obtain ⟨k', _, n1, e2, _⟩ := entryAt ka hj
    rw [Bool.and_eq_true] at z
    have e3 : es[j].key = key := eq_of_beq z.1
    rw [e3] at n1
    rw [NestedIs.inj _ _ _ n1 hk] at e2
    have z2 := z.2
    rw [e2] at z2
    simp at z2
  have plain := fun (A : Around) (E : Value → Shared → Prop) (hu : A.units + 8 < cLine) => walkPlain (prog := prog) (A := A) (E := E) (Q := Q) hu ho hd ka nd hk h
  generalize hst' : (placesWithHash es.size (fun i => es[i]?.map (·.hash)) (k.hash w)).filterMap (fun i => es[i]?.map (·.key)) = stored at hst
  -- the loop of the last part
  have last : ∀ {f : Nat → Option (Option Nat) × Option Nat → Sem (ForInStep (Option (Option Nat) × Option Nat))},
      (∀ (x : Nat) (hlt : x < es.size) (hit : Option Nat) (R : ForInStep (Option (Option Nat) × Option Nat) → Shared → Prop) (k' : NestedKey), NestedIs s.heap k' es[x].key → es[x].hash = k'.hash w → k'.depth ≤ 8 → (k' = k → hit = none) →
        (k' ≠ k → R (.yield (none, hit)) s) → (k' = k → R (.yield (none, some x)) s ∧ R (.done (some (some x), hit)) s) → wpAny (model prog w) A (f x (none, hit)) R E s) →
      wpAny (model prog w) A (forIn (placesWithHash es.size (fun i => es[i]?.map (·.hash)) (k.hash w)) (none, none) f) (fun st s' => s' = s ∧ (st.1 = some (placeOf ks k) ∨ (st.1 = none ∧ st.2 = placeOf ks k))) E s := by
    intro f hf
    refine wpAny_forIn_list _
      (fun left st s' => s' = s ∧ ∃ i hit, st = (none, hit) ∧ left = (List.range' i (es.size - i)).filter (fun i => (es[i]?.map (·.hash)) == some (k.hash w)) ∧ i ≤ es.size ∧
        ((hit = none ∧ ∀ j, j < i → ks[j]? ≠ some k) ∨ ∃ j, hit = some j ∧ j < i ∧ ks[j]? = some k)) _ ?_ ?_ _ _
      ⟨rfl, 0, none, rfl, by rw [placesWithHash, List.range_eq_range', Nat.sub_zero], Nat.zero_le _, .inl ⟨rfl, fun _ z => absurd z (Nat.not_lt_zero _)⟩⟩
    · rintro x left st s' ⟨rfl, i, hit, rfl, hr, hi, hH⟩
      obtain ⟨hix, hxn, hpx, hsk, hleft⟩ := filter_range'_cons _ _ _ _ _ hr.symm
      have hlt : x < es.size := by omega
      have hl2 : left = (List.range' (x + 1) (es.size - (x + 1))).filter (fun i => (es[i]?.map (·.hash)) == some (k.hash w)) := by rw [hleft]; congr 2; omega
      obtain ⟨k', e1, n1, e2, dp⟩ := entryAt ka hlt
      have hHx : (hit = none ∧ ∀ j, j < x → ks[j]? ≠ some k) ∨ ∃ j, hit = some j ∧ j < x ∧ ks[j]? = some k := by
        rcases hH with ⟨h0, no⟩ | ⟨j, h1, hj, hk1⟩
        · refine .inl ⟨h0, fun j hj => ?_⟩
          rcases Nat.lt_or_ge j i with q | q
          · exact no j q
          · exact skipped ka (by omega) (hsk j q hj)
        · exact .inr ⟨j, h1, by omega, hk1⟩
      refine hf x hlt hit _ k' n1 e2 dp (fun ekk => ?_) (fun ne => ?_) (fun ekk => ?_)
      · rcases hHx with ⟨h0, _⟩ | ⟨j, _, hj, hk1⟩
        · exact h0
        · rw [ekk] at e1
          exact absurd ((List.getElem?_inj (List.getElem?_eq_some_iff.mp hk1).1 nd).mp (hk1.trans e1.symm)) (by omega)
      · refine ⟨rfl, x + 1, hit, rfl, hl2, hlt, ?_⟩
        rcases hHx with ⟨h0, no⟩ | ⟨j, h1, hj, hk1⟩
        · refine .inl ⟨h0, fun j hj => ?_⟩
          rcases Nat.lt_or_ge j x with q | q
          · exact no j q
          · have : j = x := by omega
            subst this
            rw [e1]
            exact fun z => ne (Option.some.inj z)
        · exact .inr ⟨j, h1, by omega, hk1⟩
      · subst ekk
        refine ⟨⟨rfl, x + 1, some x, rfl, hl2, hlt, .inr ⟨x, rfl, Nat.lt_succ_self x, e1⟩⟩, ?_⟩
        exact ⟨rfl, .inl (by rw [placeOf_some nd e1])⟩
    · rintro st s' ⟨rfl, i, hit, rfl, hr, hi, hH⟩
      rcases hH with ⟨rfl, no⟩ | ⟨j, rfl, _, hk1⟩
      · have none_ : ∀ j : Nat, ks[j]? ≠ some k := fun j => by
          rcases Nat.lt_or_ge j i with q | q
          · exact no j q
          · rcases Nat.lt_or_ge j es.size with q' | q'
            · refine skipped ka q' ?_
              have z := List.filter_eq_nil_iff.mp hr.symm j (List.mem_range'_1.mpr ⟨q, by omega⟩)
              simpa using z
            · exact beyond ka q'
        exact ⟨rfl, .inr ⟨rfl, (placeOf_none none_).symm⟩⟩
      · exact ⟨rfl, .inr ⟨rfl, (placeOf_some nd hk1).symm⟩⟩
  have rest : ∀ {tells : Sem Bool} {R : Bool → Sem (Option Nat)}, (∀ Q' : Bool → Shared → Prop, Q' false s → wpAny (model prog w) A tells Q' E s) → wpAny (model prog w) A (R false) Q E s → wpAny (model prog w) A (tells >>= R) Q E s := fun h1 h2 => wpAny_bind (h1 _ h2)
  have tellsNo : ∀ Q' : Bool → Shared → Prop, Q' false s → wpAny (model prog w) A (if (stored == [key]) = true then pure false else tableMayTell key stored) Q' E s := fun Q' q => by
    by_cases e : (stored == [key]) = true
    · rw [if_pos e]; exact wpAny_pure q
    · rw [if_neg e]; exact mayTell hk dk hst q
  unfold dictFind
  try with_reducible refine wpAny_holding ?_
  refine wpAny_bind (wpAny_dictEntries ho hd ?_)
  have hk' := hk
  cases hk with
  | text x t =>
    dsimp only
    by_cases hs : (es.all fun e => isExactStrKey e.key) = true
    · rw [if_pos hs]; exact byValue hu ho hd ka nd h
    rw [if_neg hs, hst']
    by_cases hc : ((Value.str x t :: stored).all carriedByValue) = true
    · rw [if_pos hc]; exact plain A E hu
    rw [if_neg hc]
    by_cases e : (stored == [Value.str x t]) = true
    all_goals (first | rw [if_pos e] | rw [if_neg e])
    all_goals (first | refine wpAny_bind (wpAny_pure ?_) | refine wpAny_bind (mayTell hk' dk hst ?_))
    all_goals rw [if_neg (by simp)]
    all_goals
      refine wpAny_bind (wpAny_mono (last ?_) (fun st s' hz => ?_) (fun _ _ z => z))
      · intro x hlt hit R k' n1 e2 dp hnone hyes hno
        simp only [Array.getElem?_eq_getElem hlt]
        split
        · rename_i hh
          refine wpAny_bind (wpAny_dictEpoch ho hd (wpAny_bind (eq_keys n1 hk' dp hu (wpAny_bind (wpAny_dictEpoch ho hd ?_)))))
          simp only [bne_self_eq_false, Bool.false_and, Bool.false_eq_true, if_false]
          split
          · rename_i hkk
            have hkk := of_decide_eq_true hkk
            have hit0 := hnone hkk
            subst hit0
            simp only [Option.isSome_none, Bool.false_eq_true, if_false]
            refine wpAny_bind (wpAny_rule ?_)
            split
            · exact wpAny_pure (hno hkk).2
            · exact wpAny_pure (hno hkk).1
          · rename_i hkk
            exact wpAny_bind (wpAny_rule (wpAny_pure (hyes fun z => hkk (decide_eq_true z))))
        · rename_i hh
          exact wpAny_pure (hyes fun z => hh (by rw [e2, z]; simp))
      · obtain ⟨rfl, hz⟩ := hz
        rcases hz with hz | ⟨hz, hz2⟩
        · rw [hz]; exact wpAny_pure h
        · rw [hz, hz2]; exact wpAny_pure h
  | @tup a ob vs nn kk h1 h2 h3 h4 =>
    dsimp only
    rw [hst']
    rw [if_neg (by simp [carriedByValue]), if_neg noAny]
    by_cases e : (stored == [Value.ref a]) = true
    all_goals (first | rw [if_pos e] | rw [if_neg e])
    all_goals (first | refine wpAny_bind (wpAny_pure ?_) | refine wpAny_bind (mayTell hk' dk hst ?_))
    all_goals rw [if_neg (by simp)]
    all_goals
      refine wpAny_bind (wpAny_mono (last ?_) (fun st s' hz => ?_) (fun _ _ z => z))
      · intro x hlt hit R k' n1 e2 dp hnone hyes hno
        simp only [Array.getElem?_eq_getElem hlt]
        split
        · rename_i hh
          refine wpAny_bind (wpAny_dictEpoch ho hd (wpAny_bind (eq_keys n1 hk' dp hu (wpAny_bind (wpAny_dictEpoch ho hd ?_)))))
          simp only [bne_self_eq_false, Bool.false_and, Bool.false_eq_true, if_false]
          split
          · rename_i hkk
            have hkk := of_decide_eq_true hkk
            have hit0 := hnone hkk
            subst hit0
            simp only [Option.isSome_none, Bool.false_eq_true, if_false]
            refine wpAny_bind (wpAny_rule ?_)
            split
            · exact wpAny_pure (hno hkk).2
            · exact wpAny_pure (hno hkk).1
          · rename_i hkk
            exact wpAny_bind (wpAny_rule (wpAny_pure (hyes fun z => hkk (decide_eq_true z))))
        · rename_i hh
          exact wpAny_pure (hyes fun z => hh (by rw [e2, z]; simp))
      · obtain ⟨rfl, hz⟩ := hz
        rcases hz with hz | ⟨hz, hz2⟩
        · rw [hz]; exact wpAny_pure h
        · rw [hz, hz2]; exact wpAny_pure h
  | none =>
    dsimp only
    rw [hst']
    by_cases hc : ((Value.none :: stored).all carriedByValue) = true
    · rw [if_pos hc]; exact plain A E hu
    rw [if_neg hc]
    by_cases e : (stored == [Value.none]) = true
    all_goals (first | rw [if_pos e] | rw [if_neg e])
    all_goals (first | refine wpAny_bind (wpAny_pure ?_) | refine wpAny_bind (mayTell hk' dk hst ?_))
    all_goals rw [if_neg (by simp)]
    all_goals
      refine wpAny_bind (wpAny_mono (last ?_) (fun st s' hz => ?_) (fun _ _ z => z))
      · intro x hlt hit R k' n1 e2 dp hnone hyes hno
        simp only [Array.getElem?_eq_getElem hlt]
        split
        · rename_i hh
          refine wpAny_bind (wpAny_dictEpoch ho hd (wpAny_bind (eq_keys n1 hk' dp hu (wpAny_bind (wpAny_dictEpoch ho hd ?_)))))
          simp only [bne_self_eq_false, Bool.false_and, Bool.false_eq_true, if_false]
          split
          · rename_i hkk
            have hkk := of_decide_eq_true hkk
            have hit0 := hnone hkk
            subst hit0
            simp only [Option.isSome_none, Bool.false_eq_true, if_false]
            refine wpAny_bind (wpAny_rule ?_)
            split
            · exact wpAny_pure (hno hkk).2
            · exact wpAny_pure (hno hkk).1
          · rename_i hkk
            exact wpAny_bind (wpAny_rule (wpAny_pure (hyes fun z => hkk (decide_eq_true z))))
        · rename_i hh
          exact wpAny_pure (hyes fun z => hh (by rw [e2, z]; simp))
      · obtain ⟨rfl, hz⟩ := hz
        rcases hz with hz | ⟨hz, hz2⟩
        · rw [hz]; exact wpAny_pure h
        · rw [hz, hz2]; exact wpAny_pure h
  | @bool b i hb =>
    dsimp only
    rw [hst']
    by_cases hc : ((Value.bool b :: stored).all carriedByValue) = true
    · rw [if_pos hc]; exact plain A E hu
    rw [if_neg hc]
    by_cases e : (stored == [Value.bool b]) = true
    all_goals (first | rw [if_pos e] | rw [if_neg e])
    all_goals (first | refine wpAny_bind (wpAny_pure ?_) | refine wpAny_bind (mayTell hk' dk hst ?_))
    all_goals rw [if_neg (by simp)]
    all_goals
      refine wpAny_bind (wpAny_mono (last ?_) (fun st s' hz => ?_) (fun _ _ z => z))
      · intro x hlt hit R k' n1 e2 dp hnone hyes hno
        simp only [Array.getElem?_eq_getElem hlt]
        split
        · rename_i hh
          refine wpAny_bind (wpAny_dictEpoch ho hd (wpAny_bind (eq_keys n1 hk' dp hu (wpAny_bind (wpAny_dictEpoch ho hd ?_)))))
          simp only [bne_self_eq_false, Bool.false_and, Bool.false_eq_true, if_false]
          split
          · rename_i hkk
            have hkk := of_decide_eq_true hkk
            have hit0 := hnone hkk
            subst hit0
            simp only [Option.isSome_none, Bool.false_eq_true, if_false]
            refine wpAny_bind (wpAny_rule ?_)
            split
            · exact wpAny_pure (hno hkk).2
            · exact wpAny_pure (hno hkk).1
          · rename_i hkk
            exact wpAny_bind (wpAny_rule (wpAny_pure (hyes fun z => hkk (decide_eq_true z))))
        · rename_i hh
          exact wpAny_pure (hyes fun z => hh (by rw [e2, z]; simp))
      · obtain ⟨rfl, hz⟩ := hz
        rcases hz with hz | ⟨hz, hz2⟩
        · rw [hz]; exact wpAny_pure h
        · rw [hz, hz2]; exact wpAny_pure h
  | int i t =>
    dsimp only
    rw [hst']
    by_cases hc : ((Value.int i t :: stored).all carriedByValue) = true
    · rw [if_pos hc]; exact plain A E hu
    rw [if_neg hc]
    by_cases e : (stored == [Value.int i t]) = true
    all_goals (first | rw [if_pos e] | rw [if_neg e])
    all_goals (first | refine wpAny_bind (wpAny_pure ?_) | refine wpAny_bind (mayTell hk' dk hst ?_))
    all_goals rw [if_neg (by simp)]
    all_goals
      refine wpAny_bind (wpAny_mono (last ?_) (fun st s' hz => ?_) (fun _ _ z => z))
      · intro x hlt hit R k' n1 e2 dp hnone hyes hno
        simp only [Array.getElem?_eq_getElem hlt]
        split
        · rename_i hh
          refine wpAny_bind (wpAny_dictEpoch ho hd (wpAny_bind (eq_keys n1 hk' dp hu (wpAny_bind (wpAny_dictEpoch ho hd ?_)))))
          simp only [bne_self_eq_false, Bool.false_and, Bool.false_eq_true, if_false]
          split
          · rename_i hkk
            have hkk := of_decide_eq_true hkk
            have hit0 := hnone hkk
            subst hit0
            simp only [Option.isSome_none, Bool.false_eq_true, if_false]
            refine wpAny_bind (wpAny_rule ?_)
            split
            · exact wpAny_pure (hno hkk).2
            · exact wpAny_pure (hno hkk).1
          · rename_i hkk
            exact wpAny_bind (wpAny_rule (wpAny_pure (hyes fun z => hkk (decide_eq_true z))))
        · rename_i hh
          exact wpAny_pure (hyes fun z => hh (by rw [e2, z]; simp))
      · obtain ⟨rfl, hz⟩ := hz
        rcases hz with hz | ⟨hz, hz2⟩
        · rw [hz]; exact wpAny_pure h
        · rw [hz, hz2]; exact wpAny_pure h
end
end TD
end
section
set_option linter.all false
set_option maxRecDepth 100000
set_option maxHeartbeats 4000000
set_option autoImplicit false
namespace TD
open PySem
/-- at d stands a dict with the entries es, whose keys are ks -/
structure IsX (w : World) (h : Heap) (d : Addr) (ks : List NestedKey) (es : Array DictEntry) : Prop where
  ex : ∃ o, h.get? d = some o ∧ o.ExactDict ∧ o.data = .dict es es.size
  keys : KeysAre w h ks es.toList
  nd : ks.Nodup
theorem IsX.ty {w : World} {s : Shared} {d : Addr} {ks : List NestedKey} {es : Array DictEntry} (x : IsX w s.heap d ks es) : s.TypeIs (.ref d) "dict" := by
  obtain ⟨o, ho, hc, _⟩ := x.ex
  exact ⟨o, ho, hc.1⟩
theorem KeysAre.keep {w : World} {h h' : Heap} (hk : ∀ a o vs n, h.get? a = some o → o.data = .seq vs n → h'.get? a = some o) : ∀ {ks : List NestedKey} {es : List DictEntry}, KeysAre w h ks es → KeysAre w h' ks es
  | _, _, .nil => .nil
  | _, _, .cons a b c t => .cons (NestedIs.at hk _ _ a) b c (t.keep hk)
theorem KeysAre.push {w : World} {h : Heap} {k : NestedKey} {e : DictEntry} (a : NestedIs h k e.key) (b : e.hash = k.hash w) (c : k.depth ≤ 8) : ∀ {ks : List NestedKey} {es : List DictEntry}, KeysAre w h ks es → KeysAre w h (ks ++ [k]) (es ++ [e])
  | _, _, .nil => .cons a b c .nil
  | _, _, .cons x y z t => .cons x y z (t.push a b c)
theorem KeysAre.modify {w : World} {h : Heap} {v : Value} : ∀ {ks : List NestedKey} {es : List DictEntry} (j : Nat), KeysAre w h ks es → KeysAre w h ks (es.modify j fun e => { e with val := v })
  | _, _, _, .nil => by simpa using KeysAre.nil
  | _, _, 0, .cons x y z t => by simpa using KeysAre.cons (e := { (_ : DictEntry) with val := v }) x y z t
  | _, _, j + 1, .cons x y z t => by simpa using KeysAre.cons x y z (t.modify j)
section
variable {prog : Program} {w : World} {A : Around} {E : Value → Shared → Prop} {s : Shared} {d : Addr} {es : Array DictEntry} {ks : List NestedKey} {k : NestedKey} {key v : Value}
/-- the heap, but for a dict's object, keeps the tuples -/
theorem seqs_keep {h h' : Heap} {o : Obj} {es : Array DictEntry} {ep : Nat} (ho : h.get? d = some o) (hd : o.data = .dict es ep) (sb : Heap.SameBut d h h') : ∀ a ob vs n, h.get? a = some ob → ob.data = .seq vs n → h'.get? a = some ob := by
  intro a ob vs n e q
  refine (sb.2 a fun z => ?_).trans e
  subst z
  rw [ho] at e
  cases e
  rw [hd] at q
  cases q
theorem dget {Q : Option Value → Shared → Prop} (hu : A.units + 8 < cLine) (x : IsX w s.heap d ks es) (hk : NestedIs s.heap k key) (dk : k.depth ≤ 8) (h : Q ((placeOf ks k).bind fun j => es[j]?.map (·.val)) { s with toks := s.toks + k.draws }) :
    wpAny (model prog w) A (dictGet d key) Q E s := by
  obtain ⟨o, ho, hc, hd⟩ := x.ex
  unfold dictGet
  try with_reducible refine wpAny_holding ?_
  refine wpAny_bind (pyHash_key k key A s _ hk (by omega) (wpAny_bind (find (s := { s with toks := s.toks + k.draws }) hu ho hd x.keys x.nd hk dk ?_)))
  cases q : placeOf ks k with
  | none => rw [q] at h; exact wpAny_pure h
  | some j => rw [q] at h; exact wpAny_bind (wpAny_dictEntries (s := { s with toks := s.toks + k.draws }) ho hd (wpAny_pure h))
theorem dset {Q : Unit → Shared → Prop} (hu : A.units + 8 < cLine) (x : IsX w s.heap d ks es) (hk : NestedIs s.heap k key) (dk : k.depth ≤ 8) (hz : es.size ≤ sizeLine)
    (h : ∀ (h' : Heap) (ks' : List NestedKey) (es' : Array DictEntry), IsX w h' d ks' es' → Heap.SameBut d s.heap h' → ((∃ j, placeOf ks k = some j ∧ ks' = ks ∧ es' = es.modify j fun e => { e with val := v }) ∨ (placeOf ks k = none ∧ ks' = ks ++ [k] ∧ es' = es.push ⟨k.hash w, key, v⟩)) → Q () { s with heap := h', toks := s.toks + k.draws }) :
    wpAny (model prog w) A (dictSet d key v) Q E s := by
  obtain ⟨o, ho, hc, hd⟩ := x.ex
  unfold dictSet
  try with_reducible refine wpAny_holding ?_
  refine wpAny_bind (pyHash_key k key A s _ hk (by omega) ?_)
  unfold dictSetHashed
  try with_reducible refine wpAny_holding ?_
  refine wpAny_bind (find (s := { s with toks := s.toks + k.draws }) hu ho hd x.keys x.nd hk dk ?_)
  cases q : placeOf ks k with
  | none =>
    have sb : Heap.SameBut d s.heap (s.heap.update d fun o => o.mapDictKeys fun es => es.push ⟨k.hash w, key, v⟩) := Heap.SameBut.update ..
    have kp := seqs_keep ho hd sb
    refine wpAny_bind (wpAny_rule (wpAny_updateDictKeys (hz := by omega) (s := { s with toks := s.toks + k.draws }) ho hd (h _ (ks ++ [k]) (es.push ⟨k.hash w, key, v⟩) ⟨⟨_, Heap.get?_update_self _ ho (Obj.isFreed_of_dict (Obj.data_mapDictKeys hd _)), hc.mapDictKeys _, by rw [Array.size_push]; exact Obj.data_mapDictKeys hd _⟩, ?_, ?_⟩ sb (.inr ⟨q, rfl, rfl⟩))))
    · rw [Array.toList_push]
      exact (x.keys.keep kp).push (NestedIs.at kp _ _ hk) rfl dk
    · rw [List.nodup_append]
      refine ⟨x.nd, by simp, fun a ha b hb z => ?_⟩
      simp only [List.mem_singleton] at hb
      subst hb
      subst z
      obtain ⟨j, hj⟩ := List.mem_iff_getElem?.mp ha
      rw [placeOf_some x.nd hj] at q
      cases q
  | some j =>
    have sb : Heap.SameBut d s.heap (s.heap.update d fun o => o.mapDict fun es => es.modify j fun e => { e with val := v }) := Heap.SameBut.update ..
    have kp := seqs_keep ho hd sb
    refine wpAny_bind (wpAny_rule (wpAny_bind (wpAny_updateDict (s := { s with toks := s.toks + k.draws }) ho hd (wpAny_point (h _ ks (es.modify j fun e => { e with val := v }) ⟨⟨_, Heap.get?_update_self _ ho (Obj.isFreed_of_dict (Obj.data_mapDict hd _)), hc.mapDict _, by rw [Array.size_modify]; exact Obj.data_mapDict hd _⟩, ?_, x.nd⟩ sb (.inl ⟨j, q, rfl, rfl⟩))))))
    have z := (x.keys.keep kp).modify (v := v) j
    simpa using z
theorem inside {Q : Bool → Shared → Prop} (hu : A.units + 9 < cLine) (x : IsX w s.heap d ks es) (hs : (d == sysModules) = false) (hk : NestedIs s.heap k key) (dk : k.depth ≤ 8) (h : Q (placeOf ks k).isSome { s with toks := s.toks + k.draws }) : wpAny (model prog w) A (contains (.ref d) key) Q E s := by
  unfold contains
  try with_reducible refine wpAny_holding ?_
  refine wpAny_bind (wpAny_specialOf x.ty slot_dict_contains.lookup ?_)
  rw [show (some (Value.builtin "dict.__contains__") == some Value.none) = false by rw [beq_builtin_none]]
  refine wpAny_bind (wpAny_callSpecialUnlessNone?_slot (name := Str.ofString "__contains__") x.ty slot_dict_contains (wpAny_call_entry slot_dict_contains x.ty entry_dict_contains ?_ (args_dict_contains _ _)))
  have go : wpAny (model prog w) A.in1 (dictGet d key) (fun r s' => s' = { s with toks := s.toks + k.draws } ∧ r.isSome = (placeOf ks k).isSome) (fun _ _ => False) s := by
    refine dget (by show A.units + 1 + 8 < cLine; omega) x hk dk ⟨rfl, ?_⟩
    cases e : placeOf ks k with
    | none => rfl
    | some j =>
      have hj : j < es.size := by
        have z := (List.findIdx?_eq_some_iff_getElem.mp e).1
        rw [x.keys.length, Array.length_toList] at z
        exact z
      simp [Array.getElem?_eq_getElem hj]
  show wpAny _ _ (dictGet d key >>= _) _ _ s
  refine wpAny_bind (wpAny_mono go (fun r s' ⟨e1, e2⟩ => ?_) fun _ _ z => z.elim)
  subst e1
  rw [← e2] at h
  cases r with
  | some p => exact wpAny_pure ⟨_, rfl, wpAny_truthy_bool h⟩
  | none => exact wpAny_bind (wpAny_pendingKey_other hs (wpAny_pure ⟨_, rfl, wpAny_truthy_bool h⟩))
theorem isIn {Q : Value → Shared → Prop} (hu : A.units + 9 < cLine) (x : IsX w s.heap d ks es) (hs : (d == sysModules) = false) (hk : NestedIs s.heap k key) (dk : k.depth ≤ 8) (h : Q (.bool (placeOf ks k).isSome) { s with toks := s.toks + k.draws }) : wpAny (model prog w) A (compareOp .In key (.ref d)) Q E s := by
  show wpAny _ _ (do return .bool (← contains (.ref d) key)) Q E s
  exact wpAny_bind (inside hu x hs hk dk (wpAny_pure h))
theorem notIn {Q : Value → Shared → Prop} (hu : A.units + 9 < cLine) (x : IsX w s.heap d ks es) (hs : (d == sysModules) = false) (hk : NestedIs s.heap k key) (dk : k.depth ≤ 8) (h : Q (.bool (!(placeOf ks k).isSome)) { s with toks := s.toks + k.draws }) : wpAny (model prog w) A (compareOp .NotIn key (.ref d)) Q E s := by
  show wpAny _ _ (do return .bool !(← contains (.ref d) key)) Q E s
  exact wpAny_bind (inside hu x hs hk dk (wpAny_pure h))
theorem item {Q : Value → Shared → Prop} {j : Nat} {e : DictEntry} (hu : A.units + 9 < cLine) (x : IsX w s.heap d ks es) (hk : NestedIs s.heap k key) (dk : k.depth ≤ 8) (hj : placeOf ks k = some j) (he : es[j]? = some e) (h : Q e.val { s with toks := s.toks + k.draws }) :
    wpAny (model prog w) A (getItem (.ref d) key) Q E s := by
  unfold getItem
  try with_reducible refine wpAny_holding ?_
  refine wpAny_bind (wpAny_sequenceKey x.ty (by decide) (wpAny_bind (wpAny_callSpecial?_slot (name := Str.ofString "__getitem__") x.ty slot_dict_getitem (wpAny_call_entry slot_dict_getitem x.ty entry_dict_getitem ?_ (args_dict_getitem _ _)))))
  show wpAny _ _ (dictGet d key >>= _) _ _ s
  refine wpAny_bind (dget (by show A.units + 1 + 8 < cLine; omega) x hk dk ?_)
  rw [hj]
  simp only [Option.bind_some, he, Option.map_some]
  exact wpAny_pure ⟨e.val, rfl, wpAny_pure h⟩
theorem setIt {Q : Unit → Shared → Prop} (hu : A.units + 9 < cLine) (x : IsX w s.heap d ks es) (hk : NestedIs s.heap k key) (dk : k.depth ≤ 8) (hz : es.size ≤ sizeLine)
    (h : ∀ (h' : Heap) (ks' : List NestedKey) (es' : Array DictEntry), IsX w h' d ks' es' → Heap.SameBut d s.heap h' → ((∃ j, placeOf ks k = some j ∧ ks' = ks ∧ es' = es.modify j fun e => { e with val := v }) ∨ (placeOf ks k = none ∧ ks' = ks ++ [k] ∧ es' = es.push ⟨k.hash w, key, v⟩)) → Q () { s with heap := h', toks := s.toks + k.draws }) :
    wpAny (model prog w) A (setItem (.ref d) key v) Q E s := by
  unfold setItem
  try with_reducible refine wpAny_holding ?_
  refine wpAny_bind (wpAny_sequenceKey x.ty (by decide) (wpAny_bind (wpAny_callSpecial?_slot (name := Str.ofString "__setitem__") x.ty slot_dict_setitem (wpAny_call_entry slot_dict_setitem x.ty entry_dict_setitem ?_ (args_dict_setitem _ _ _)))))
  show wpAny _ _ (Builtin.Dict.notOrdered "__setitem__" ⟨[.ref d, key, v], []⟩ >>= _) _ _ s
  refine wpAny_bind (wpAny_notOrdered_dict x.ty ?_)
  show wpAny _ _ (dictSet d key v >>= _) _ _ s
  exact wpAny_bind (dset (by show A.units + 1 + 8 < cLine; omega) x hk dk hz fun h' ks' es' x' sb c => wpAny_pure ⟨.none, rfl, wpAny_pure (h h' ks' es' x' sb c)⟩)
end
end TD
end
section
set_option linter.all false
set_option maxRecDepth 100000
set_option maxHeartbeats 2000000
set_option autoImplicit false
namespace TV
open PySem PySem.Spec PyProof.Rows L2

section
variable {X : Cx} {W : WX}
theorem Prim2.of {f : Value → Value → Sem Value} {g : Op2}
    (h : ∀ (pins : List (Addr × Obj)) (s : Shared) (σ σ' : St) (H : Hp) (x y : V) (v u : Value) (Q : VK) (M : Mem) (μ : Nat → Addr) (p q : P), Inv X pins σ H s → RelV x v → RelV y u → MemRep X.K X.w H M μ → Tr X.K H μ M.length p x → Tr X.K H μ M.length q y →
      Sat X.K X.w X.mg (Tr X.K) W σ' H μ M.length Q (g p q M) → wpAny (model X.prog X.w) X.A (f v u) (EP X pins σ Q) X.xe s) : Prim2 X W f g := by
  refine ⟨fun x y H Q => ∃ σ' M μ p q, MemRep X.K X.w H M μ ∧ Tr X.K H μ M.length p x ∧ Tr X.K H μ M.length q y ∧ Sat X.K X.w X.mg (Tr X.K) W σ' H μ M.length Q (g p q M), ?_, fun {σ H M μ p q x y Q} m t1 t2 s => ⟨σ, M, μ, p, q, m, t1, t2, s⟩⟩
  rintro pins s σ H x y v u Q I rx ry ⟨σ', M, μ, p, q, m, t1, t2, sat⟩
  exact h pins s σ σ' H x y v u Q M μ p q I rx ry m t1 t2 sat
theorem PrimN.of {f : Value} {g : OpN}
    (h : ∀ (pins : List (Addr × Obj)) (s : Shared) (σ σ' : St) (H : Hp) (xs : List V) (us : List Value) (Q : VK) (M : Mem) (μ : Nat → Addr) (ps : List P), Inv X pins σ H s → Vals xs us → MemRep X.K X.w H M μ → Trs X.K H μ M.length ps xs →
      Sat X.K X.w X.mg (Tr X.K) W σ' H μ M.length Q (g ps M) → wpAny (model X.prog X.w) X.A (call f us) (EP X pins σ Q) X.xe s) : PrimN X W f g := by
  refine ⟨fun xs H Q => ∃ σ' M μ ps, MemRep X.K X.w H M μ ∧ Trs X.K H μ M.length ps xs ∧ Sat X.K X.w X.mg (Tr X.K) W σ' H μ M.length Q (g ps M), ?_, fun {σ H M μ ps xs Q} m t s => ⟨σ, M, μ, ps, m, t, s⟩⟩
  rintro pins s σ H xs us Q I r ⟨σ', M, μ, ps, m, t, sat⟩
  exact h pins s σ σ' H xs us Q M μ ps I r m t sat
end

/-! ### < <= > >= -/
def pCmp (f : Int → Int → Bool) : Op2
  | .int i, .int j, M => .ok (.bl (f i j)) M
  | _, _, _ => .bad
section
variable {X : Cx} {W : WX}
theorem p_cmp {op : CmpOp} {f : Int → Int → Bool} (h : OpR X (compareOp op) (rI0 fun i j => .bl (f i j))) : Prim2 X W (compareOp op) (pCmp f) := by
  refine ⟨_, h, fun {σ H M μ p q x y Q} m t1 t2 s => ?_⟩
  cases t1 with
  | int i => cases t2 with
    | int j => exact ⟨i, j, rfl, rfl, s.here m (.bl _)⟩
    | _ => exact s.elim
  | _ => exact s.elim
end
def pLt : Op2 := pCmp fun i j => decide (i < j)
def pLe : Op2 := pCmp fun i j => decide (i ≤ j)
def pGt : Op2 := pCmp fun i j => decide (j < i)
def pGe : Op2 := pCmp fun i j => decide (j ≤ i)
theorem p_lt {X : Cx} {W : WX} : Prim2 X W (compareOp .Lt) pLt := p_cmp op_lt
theorem p_le {X : Cx} {W : WX} : Prim2 X W (compareOp .LtE) pLe := p_cmp op_le
theorem p_gt {X : Cx} {W : WX} : Prim2 X W (compareOp .Gt) pGt := p_cmp op_gt
theorem p_ge {X : Cx} {W : WX} : Prim2 X W (compareOp .GtE) pGe := p_cmp op_ge

/-! ### == != : trees as data -/
def allD (f : P → Option PyData) : List P → Option (List PyData)
  | [] => some []
  | p :: ps => match f p, allD f ps with
    | some d, some ds => some (d :: ds)
    | _, _ => none
def toD (M : Mem) : Nat → P → Option PyData
  | 0, _ => none
  | k + 1, p => match p with
    | .non => some .none
    | .bl b => some (.bool b)
    | .int i => some (.int i)
    | .str x => some (.str x)
    | .ty _ => none
    | .tup ps => (allD (toD M k) ps).map PyData.tuple
    | .loc l => match M[l]? with
      | some (.lst xs) => (allD (toD M k) xs).map PyData.list
      | some (.scr ns) => some (.list (ns.map PyData.int))
      | _ => none
section
variable {K : PySem.W.Frag} {w : World} {H : Hp} {M : Mem} {μ : Nat → Addr}
theorem allD_dp {f : P → Option PyData} {n : Nat} (hf : ∀ p d v, f p = some d → Tr K H μ n p v → Dp K H v d) : ∀ {ps : List P} {ds : List PyData} {vs : List V}, allD f ps = some ds → Trs K H μ n ps vs → DpAll K H vs ds
  | [], _, _, e, t => by cases e; cases t; exact .nil
  | p :: ps, ds, _, e, t => by
    cases t with
    | cons t1 t2 =>
      unfold allD at e
      cases e1 : f p with
      | none => rw [e1] at e; cases e
      | some d =>
        cases e2 : allD f ps with
        | none => rw [e1, e2] at e; cases e
        | some ds' =>
          rw [e1, e2] at e
          cases e
          exact .cons (hf p d _ e1 t1) (allD_dp hf e2 t2)
theorem ints_dp (ns : List Int) : DpAll K H (ns.map V.int) (ns.map PyData.int) := by
  induction ns with
  | nil => exact .nil
  | cons n ns ih => exact .cons (.int n) ih
theorem toD_dp (m : MemRep K w H M μ) : ∀ (k : Nat) (p : P) (d : PyData) (v : V), toD M k p = some d → Tr K H μ M.length p v → Dp K H v d
  | 0, _, _, _, e, _ => by cases e
  | k + 1, p, d, v, e, t => by
    cases t with
    | non => cases e; exact .non
    | bl b => cases e; exact .bl b
    | int i => cases e; exact .int i
    | str x => cases e; exact .str x
    | ty n => cases e
    | @tup a xs ps sq ts =>
      have e : (allD (toD M k) ps).map PyData.tuple = some d := e
      cases q : allD (toD M k) ps with
      | none => rw [q] at e; cases e
      | some ds => rw [q] at e; cases e; exact .tup sq (allD_dp (fun p d v => toD_dp m k p d v) q ts)
    | @loc l hl =>
      unfold toD at e
      dsimp only at e
      cases q : M[l]? with
      | none => rw [q] at e; cases e
      | some o =>
        rw [q] at e
        cases o with
        | lst xs =>
          obtain ⟨us, sq, ts, _⟩ := (m.at_ l _ q).sqL
          have e : (allD (toD M k) xs).map PyData.list = some d := e
          cases q2 : allD (toD M k) xs with
          | none => rw [q2] at e; cases e
          | some ds => rw [q2] at e; cases e; exact .lst sq (allD_dp (fun p d v => toD_dp m k p d v) q2 ts)
        | scr ns => cases e; exact .lst (m.at_ l _ q).scrL (ints_dp ns)
        | dct _ => cases e
        | dctL _ => cases e
end
def pEqD (neg : Bool) : Op2 := fun p q M => match toD M 9 p, toD M 9 q with
  | some d, some e => if SeqAt.shaped d = true ∧ SeqAt.shaped e = true then .ok (.bl (if neg then !PyData.eqv d e else PyData.eqv d e)) M else .bad
  | _, _ => .bad
/-- texts are compared whatever stands in them -/
def pEqv (neg : Bool) : Op2 := fun p q M => match p, q with
  | .str x, .str y => .ok (.bl (if neg then !decide (x = y) else decide (x = y))) M
  | p, q => pEqD neg p q M
theorem eqv_go {neg : Bool} {p q : P} {M : Mem} {d e : PyData} (h1 : toD M 9 p = some d) (h2 : toD M 9 q = some e) (h3 : SeqAt.shaped d = true) (h4 : SeqAt.shaped e = true) : pEqv neg p q M = .ok (.bl (if neg then !PyData.eqv d e else PyData.eqv d e)) M := by
  have go : pEqD neg p q M = .ok (.bl (if neg then !PyData.eqv d e else PyData.eqv d e)) M := by
    unfold pEqD
    rw [h1, h2]
    dsimp only
    rw [if_pos ⟨h3, h4⟩]
  unfold pEqv
  split
  · rename_i x y
    have e1 : toD M 9 (.str x) = some (.str x) := rfl
    have e2 : toD M 9 (.str y) = some (.str y) := rfl
    rw [e1] at h1
    rw [e2] at h2
    cases h1
    cases h2
    have : PyData.eqv (.str x) (.str y) = decide (x = y) := by
      unfold PyData.eqv
      rw [Bool.eq_iff_iff]
      simp
    rw [this]
  · exact go
def pEq : Op2 := pEqv false
def pNe : Op2 := pEqv true
section
variable {X : Cx} {W : WX}
theorem p_eq (hu : X.A.units + 64 < cLine) : Prim2 X W (compareOp .Eq) pEq := by
  refine ⟨_, (op_eq).or (op_eqD hu), fun {σ H M μ p q x y Q} m t1 t2 s => ?_⟩
  have key : Sat X.K X.w X.mg (Tr X.K) W σ H μ M.length Q (pEqD false p q M) → rEq x y H Q ∨ rEqD X.K x y H Q := fun s => by
    unfold pEqD at s
    cases e1 : toD M 9 p with
    | none => rw [e1] at s; exact s.elim
    | some d => cases e2 : toD M 9 q with
      | none => rw [e1, e2] at s; exact s.elim
      | some e =>
        rw [e1, e2] at s
        dsimp only at s
        by_cases h : SeqAt.shaped d = true ∧ SeqAt.shaped e = true
        · rw [if_pos h] at s; exact Or.inr ⟨d, e, toD_dp m 9 p d x e1 t1, toD_dp m 9 q e y e2 t2, h.1, h.2, s.here m (.bl _)⟩
        · rw [if_neg h] at s; exact s.elim
  cases t1 with
  | str i => cases t2 with
    | str j =>
      refine .inl ⟨rfl, ?_⟩
      have e : decide (V.str i = V.str j) = decide (i = j) := by rw [Bool.eq_iff_iff]; simp
      rw [e]
      exact s.here m (.bl _)
    | _ => exact key s
  | _ => exact key s
theorem p_ne (hu : X.A.units + 64 < cLine) : Prim2 X W (compareOp .NotEq) pNe := by
  refine ⟨_, (op_ne).or (op_neD hu), fun {σ H M μ p q x y Q} m t1 t2 s => ?_⟩
  have key : Sat X.K X.w X.mg (Tr X.K) W σ H μ M.length Q (pEqD true p q M) → rNe x y H Q ∨ rNeD X.K x y H Q := fun s => by
    unfold pEqD at s
    cases e1 : toD M 9 p with
    | none => rw [e1] at s; exact s.elim
    | some d => cases e2 : toD M 9 q with
      | none => rw [e1, e2] at s; exact s.elim
      | some e =>
        rw [e1, e2] at s
        dsimp only at s
        by_cases h : SeqAt.shaped d = true ∧ SeqAt.shaped e = true
        · rw [if_pos h] at s; exact Or.inr ⟨d, e, toD_dp m 9 p d x e1 t1, toD_dp m 9 q e y e2 t2, h.1, h.2, s.here m (.bl _)⟩
        · rw [if_neg h] at s; exact s.elim
  cases t1 with
  | str i => cases t2 with
    | str j =>
      refine .inl ⟨rfl, ?_⟩
      have e : decide (V.str i = V.str j) = decide (i = j) := by rw [Bool.eq_iff_iff]; simp
      rw [e]
      exact s.here m (.bl _)
    | _ => exact key s
  | _ => exact key s
/-! ### is None -/
def isNon : P → Bool
  | .non => true
  | _ => false
def pIs (neg : Bool) : Op2 := fun p q M => if isNon q = true then .ok (.bl (if neg then !isNon p else isNon p)) M else .bad
theorem Tr.non_iff {K : PySem.W.Frag} {H : Hp} {μ : Nat → Addr} {n : Nat} {p : P} {x : V} (t : Tr K H μ n p x) : decide (x = .non) = isNon p := by
  cases t <;> rfl
theorem p_is : Prim2 X W (compareOp .Is) (pIs false) := by
  refine ⟨_, op_isN, fun {σ H M μ p q x y Q} m t1 t2 s => ?_⟩
  unfold pIs at s
  cases t2 with
  | non => exact ⟨rfl, by rw [t1.non_iff]; exact s.here m (.bl _)⟩
  | _ => exact s.elim
theorem p_isnot : Prim2 X W (compareOp .IsNot) (pIs true) := by
  refine ⟨_, op_notN, fun {σ H M μ p q x y Q} m t1 t2 s => ?_⟩
  unfold pIs at s
  cases t2 with
  | non => exact ⟨rfl, by rw [t1.non_iff]; exact s.here m (.bl _)⟩
  | _ => exact s.elim
end

/-! ### dicts: keys -/
section
variable {X : Cx} {pins : List (Addr × Obj)} {σ : St} {H : Hp} {s : Shared} {μ : Nat → Addr} {n : Nat}
mutual
theorem nested_of (I : Inv X pins σ H s) : ∀ {p : P} {x : V} {u : Value} {k : NestedKey}, Tr X.K H μ n p x → RelV x u → keyOf p = some k → NestedIs s.heap k u
  | .non, _, _, _, .non, r, e => by
    have r : _ = Value.none := r
    subst r; cases e; exact .none
  | .bl b, _, _, _, .bl _, r, e => by
    have r : _ = Value.bool b := r
    subst r; cases e; exact .bool rfl
  | .int i, _, _, _, .int _, r, e => by
    obtain ⟨t, rfl⟩ := (show ∃ t, _ = Value.int i t from r)
    cases e; exact .int i t
  | .str z, _, _, _, .str _, r, e => by
    obtain ⟨t, rfl⟩ := (show ∃ t, _ = Value.str z t from r)
    cases e; exact .text z t
  | .ty _, _, _, _, .ty _, _, e => by cases e
  | .tup ps, _, _, _, .tup (a := a) sq ts, r, e => by
    have r : _ = Value.ref a := r
    subst r
    have e : (keysOf ps).map NestedKey.tup = some _ := e
    cases q : keysOf ps with
    | none => rw [q] at e; cases e
    | some ks =>
      rw [q] at e
      cases e
      obtain ⟨its, rv, ⟨o, ho, hc, m, hd⟩, _⟩ := I.tuple sq
      exact .tup ho hc hd (nested_all I ts rv q)
  | .loc _, _, _, _, .loc _, _, e => by cases e
theorem nested_all (I : Inv X pins σ H s) : ∀ {ps : List P} {xs : List V} {us : List Value} {ks : List NestedKey}, Trs X.K H μ n ps xs → Vals xs us → keysOf ps = some ks → NestedAll s.heap ks us
  | [], _, _, _, .nil, .nil, e => by cases e; exact .nil
  | p :: ps, _, _, _, .cons t ts, .cons r rs, e => by
    unfold keysOf at e
    cases e1 : keyOf p with
    | none => rw [e1] at e; cases e
    | some k => cases e2 : keysOf ps with
      | none => rw [e1, e2] at e; cases e
      | some ks =>
        rw [e1, e2] at e
        cases e
        exact .cons (nested_of I t r e1) (nested_all I ts rs e2)
end
/-- a dict's cell, as the heap has it -/
theorem keysAre_of (I : Inv X pins σ H s) : ∀ {kps : List P} {ks vs : List V} {es : List DictEntry} {nk : List NestedKey}, Trs X.K H μ n kps ks → ks.length = vs.length → Paired (fun (p : V × V) (e : DictEntry) => RelV p.1 e.key ∧ RelV p.2 e.val) (ks.zip vs) es → es.map (·.hash) = nk.map (·.hash X.w) →
    keysOf kps = some nk → (∀ k ∈ nk, k.depth ≤ 8) → TD.KeysAre X.w s.heap nk es
  | [], _, [], _, _, .nil, _, .nil, _, e, _ => by cases e; exact .nil
  | [], _, _ :: _, _, _, .nil, hl, _, _, _, _ => by simp at hl
  | p :: ps, _, [], _, _, .cons _ _, hl, _, _, _, _ => by simp at hl
  | p :: ps, _, v :: vs, _, nk, .cons t ts, hl, pr, hh, e, hd => by
    cases pr with
    | cons r rs =>
      unfold keysOf at e
      cases e1 : keyOf p with
      | none => rw [e1] at e; cases e
      | some k => cases e2 : keysOf ps with
        | none => rw [e1, e2] at e; cases e
        | some ks =>
          rw [e1, e2] at e
          cases e
          simp only [List.map_cons, List.cons.injEq] at hh
          exact .cons (nested_of I t r.1 e1) hh.1 (hd k List.mem_cons_self) (keysAre_of I ts (by simpa using hl) rs hh.2 e2 fun k hk => hd k (List.mem_cons_of_mem _ hk))
end
/-- where a key stands among trees; the value -/
def lookK (kvs : List (P × P)) (k : NestedKey) : Option P := (kvs.find? fun kv => decide (keyOf kv.1 = some k)).map (·.2)
def hasK (kvs : List (P × P)) (k : NestedKey) : Bool := kvs.any fun kv => decide (keyOf kv.1 = some k)
/-- the value in its place, or a new entry at the end -/
def putK (kvs : List (P × P)) (k : NestedKey) (p q : P) : List (P × P) := if hasK kvs k = true then kvs.map (fun kv => if keyOf kv.1 = some k then (kv.1, q) else kv) else kvs ++ [(p, q)]
end TV
end
section
set_option linter.all false
set_option maxRecDepth 100000
set_option maxHeartbeats 2000000
set_option autoImplicit false
namespace TV
open PySem PySem.Spec PyProof.Rows L2

theorem keysOf_cons {p : P} {ps : List P} {nk : List NestedKey} (h : keysOf (p :: ps) = some nk) : ∃ k ks, keyOf p = some k ∧ keysOf ps = some ks ∧ nk = k :: ks := by
  unfold keysOf at h
  cases e1 : keyOf p with
  | none => rw [e1] at h; cases h
  | some k => cases e2 : keysOf ps with
    | none => rw [e1, e2] at h; cases h
    | some ks => rw [e1, e2] at h; cases h; exact ⟨k, ks, rfl, rfl, rfl⟩
theorem keysOf_append {ps : List P} {nk : List NestedKey} {p : P} {k : NestedKey} (h : keysOf ps = some nk) (hk : keyOf p = some k) : keysOf (ps ++ [p]) = some (nk ++ [k]) := by
  induction ps generalizing nk with
  | nil => cases h; simp [keysOf, hk]
  | cons q qs ih =>
    obtain ⟨k', ks, e1, e2, rfl⟩ := keysOf_cons h
    rw [List.cons_append, keysOf, e1, ih e2]
    rfl
theorem place_cons {k k' : NestedKey} {ks : List NestedKey} : TD.placeOf (k' :: ks) k = if k' = k then some 0 else (TD.placeOf ks k).map (· + 1) := by
  unfold TD.placeOf
  rw [List.findIdx?_cons]
  by_cases h : k' = k <;> simp [h]
theorem has_of {k : NestedKey} : ∀ {kvs : List (P × P)} {nk : List NestedKey}, keysOf (kvs.map (·.1)) = some nk → hasK kvs k = (TD.placeOf nk k).isSome
  | [], _, h => by cases h; rfl
  | (p, q) :: kvs, _, h => by
    obtain ⟨k', ks, e1, e2, rfl⟩ := keysOf_cons h
    rw [place_cons]
    show (decide (keyOf p = some k) || hasK kvs k) = _
    rw [has_of e2, e1]
    by_cases hk : k' = k
    · simp [hk]
    · simp [hk, fun z => hk (Option.some.inj z)]
theorem look_of {k : NestedKey} : ∀ {kvs : List (P × P)} {nk : List NestedKey}, keysOf (kvs.map (·.1)) = some nk → lookK kvs k = (TD.placeOf nk k).bind fun j => kvs[j]?.map (·.2)
  | [], _, h => by cases h; rfl
  | (p, q) :: kvs, _, h => by
    obtain ⟨k', ks, e1, e2, rfl⟩ := keysOf_cons h
    rw [place_cons]
    have ih := look_of (k := k) e2
    unfold lookK at ih ⊢
    rw [List.find?_cons]
    by_cases hk : k' = k
    · simp [e1, hk]
    · have : decide (keyOf p = some k) = false := decide_eq_false (by rw [e1]; exact fun z => hk (Option.some.inj z))
      simp only [this, ih, if_neg hk]
      cases TD.placeOf ks k <;> simp
theorem put_some {k : NestedKey} {q : P} : ∀ {kvs : List (P × P)} {nk : List NestedKey} {j : Nat}, keysOf (kvs.map (·.1)) = some nk → nk.Nodup → TD.placeOf nk k = some j → ∃ kv, kvs[j]? = some kv ∧ kvs.map (fun kv => if keyOf kv.1 = some k then (kv.1, q) else kv) = kvs.set j (kv.1, q)
  | [], _, _, h, _, hp => by cases h; cases hp
  | (p, v) :: kvs, _, j, h, nd, hp => by
    obtain ⟨k', ks, e1, e2, rfl⟩ := keysOf_cons h
    rw [place_cons] at hp
    obtain ⟨nin, nd⟩ := List.nodup_cons.mp nd
    by_cases hk : k' = k
    · rw [if_pos hk] at hp
      cases hp
      subst hk
      refine ⟨(p, v), rfl, ?_⟩
      have rest : kvs.map (fun kv => if keyOf kv.1 = some k' then (kv.1, q) else kv) = kvs := by
        rw [List.map_eq_iff]
        intro i
        cases ei : kvs[i]? with
        | none => rfl
        | some kv =>
          have z : keyOf kv.1 ≠ some k' := fun z => by
            have e3 : ∀ {l : List (P × P)} {ns : List NestedKey} {i : Nat} {x : P × P} {y : NestedKey}, keysOf (l.map (·.1)) = some ns → l[i]? = some x → keyOf x.1 = some y → y ∈ ns := by
              intro l
              induction l with
              | nil => intro ns i x y _ h; simp at h
              | cons a l ih =>
                intro ns i x y h hi hy
                obtain ⟨ka, kl, f1, f2, rfl⟩ := keysOf_cons h
                cases i with
                | zero => simp at hi; subst hi; rw [f1] at hy; cases hy; exact List.mem_cons_self
                | succ i => exact List.mem_cons_of_mem _ (ih f2 (by simpa using hi) hy)
            exact nin (e3 e2 ei z)
          simp [z]
      rw [List.map_cons, rest]
      simp [e1]
    · rw [if_neg hk] at hp
      cases ep : TD.placeOf ks k with
      | none => rw [ep] at hp; cases hp
      | some i =>
        rw [ep] at hp
        cases hp
        obtain ⟨kv, g1, g2⟩ := put_some e2 nd ep
        refine ⟨kv, by simpa using g1, ?_⟩
        rw [List.map_cons, g2]
        have z : keyOf p ≠ some k := by rw [e1]; exact fun z => hk (Option.some.inj z)
        simp [z]
/-! ### the cell of a dict in the heap -/
theorem Paired.zip_get {ks vs : List V} : ∀ {es : List DictEntry}, Paired (fun (p : V × V) (e : DictEntry) => RelV p.1 e.key ∧ RelV p.2 e.val) (ks.zip vs) es → ∀ {j : Nat} {e : DictEntry} {v : V}, es[j]? = some e → ks.length = vs.length → vs[j]? = some v → RelV v e.val := by
  induction ks generalizing vs with
  | nil => intro es pr j e v he hl hv; cases vs with
    | nil => simp at hv
    | cons _ _ => simp at hl
  | cons k ks ih => intro es pr j e v he hl hv; cases vs with
    | nil => simp at hl
    | cons u us =>
      cases pr with
      | cons r rs =>
        cases j with
        | zero => simp at he hv; subst he hv; exact r.2
        | succ j => exact ih rs (j := j) (by simpa using he) (by simpa using hl) (by simpa using hv)
structure DCell (X : Cx) (H : Hp) (s : Shared) (μ : Nat → Addr) (n : Nat) (a : Addr) (kvs : List (P × P)) (nk : List NestedKey) (ks vs : List V) (es : Array DictEntry) : Prop where
  x : TD.IsX X.w s.heap a nk es
  tk : Trs X.K H μ n (kvs.map (·.1)) ks
  tv : Trs X.K H μ n (kvs.map (·.2)) vs
  key : keysOf (kvs.map (·.1)) = some nk
  dep : ∀ k ∈ nk, k.depth ≤ 8
  size : kvs.length ≤ sizeLine
  sys : (a == sysModules) = false
  rel : Paired (fun (p : V × V) (e : DictEntry) => RelV p.1 e.key ∧ RelV p.2 e.val) (ks.zip vs) es.toList
section
variable {X : Cx} {pins : List (Addr × Obj)} {σ : St} {H : Hp} {s : Shared} {μ : Nat → Addr} {n : Nat} {a : Addr} {kvs : List (P × P)}
theorem DCell.mk' {nk : List NestedKey} {ks vs : List V} (I : Inv X pins σ H s) (hat : DctAt a (ks.zip vs) (nk.map (·.hash X.w)) s.heap) (tk : Trs X.K H μ n (kvs.map (·.1)) ks) (tv : Trs X.K H μ n (kvs.map (·.2)) vs) (key : keysOf (kvs.map (·.1)) = some nk) (nd : nk.Nodup) (dep : ∀ k ∈ nk, k.depth ≤ 8)
    (size : kvs.length ≤ sizeLine) (sys : (a == sysModules) = false) : ∃ es, DCell X H s μ n a kvs nk ks vs es := by
  obtain ⟨o, es, ho, hc, hd, pr, hh⟩ := hat
  have hl : ks.length = vs.length := by rw [← tk.length, ← tv.length]; simp
  exact ⟨es, ⟨⟨o, ho, hc, hd⟩, keysAre_of I tk hl pr hh key dep, nd⟩, tk, tv, key, dep, size, sys, pr⟩
theorem dcell (I : Inv X pins σ H s) (m : MRep X.K X.w H μ n a (.dct kvs)) : ∃ nk ks vs es, DCell X H s μ n a kvs nk ks vs es ∧ H a = some (.ext (DctAt a (ks.zip vs) (nk.map (·.hash X.w)))) := by
  cases m with
  | @dct _ ks vs nk e tk tv key nd dep size sys =>
    obtain ⟨es, c⟩ := DCell.mk' I (I.hok a _ e).1 tk tv key nd dep size sys
    exact ⟨nk, ks, vs, es, c, e⟩
theorem dcellL (I : Inv X pins σ H s) (m : MRep X.K X.w H μ n a (.dctL kvs)) : ∃ nk ks vs es o, DCell X H s μ n a kvs nk ks vs es ∧ H a = some (.frz o (.ext (DctAt a (ks.zip vs) (nk.map (·.hash X.w))))) := by
  cases m with
  | @dctL _ ks vs nk o e tk tv key nd dep size sys =>
    obtain ⟨es, c⟩ := DCell.mk' I (I.hok a _ e).2.1 tk tv key nd dep size sys
    exact ⟨nk, ks, vs, es, o, c, e⟩
theorem DCell.val {nk : List NestedKey} {ks vs : List V} {es : Array DictEntry} {k : NestedKey} {q : P} (c : DCell X H s μ n a kvs nk ks vs es) (h : lookK kvs k = some q) : ∃ j e v, TD.placeOf nk k = some j ∧ es[j]? = some e ∧ RelV v e.val ∧ Tr X.K H μ n q v := by
  rw [look_of c.key] at h
  cases hp : TD.placeOf nk k with
  | none => rw [hp] at h; cases h
  | some j =>
    rw [hp] at h
    cases hj : kvs[j]? with
    | none => simp [hj] at h
    | some kv =>
      simp [hj] at h
      subst h
      obtain ⟨v, hv, tv⟩ := c.tv.get (i := j) (p := kv.2) (by rw [List.getElem?_map, hj]; rfl)
      have hl : ks.length = vs.length := by rw [← c.tk.length, ← c.tv.length]; simp
      have hes : j < es.size := by
        have z := (List.findIdx?_eq_some_iff_getElem.mp hp).1
        rw [c.x.keys.length, Array.length_toList] at z
        exact z
      exact ⟨j, es[j], v, rfl, Array.getElem?_eq_getElem hes, Paired.zip_get c.rel (by rw [Array.getElem?_toList, Array.getElem?_eq_getElem hes]) hl hv, tv⟩
end
/-- the entries of a dict that is read -/
def dictOfM (M : Mem) (l : Nat) : Option (List (P × P)) := match M[l]? with
  | some (.dct kvs) => some kvs
  | some (.dctL kvs) => some kvs
  | _ => none
section
variable {X : Cx} {W : WX}
theorem dcellM {pins : List (Addr × Obj)} {σ : St} {H : Hp} {s : Shared} {M : Mem} {μ : Nat → Addr} {l : Nat} {kvs : List (P × P)} (I : Inv X pins σ H s) (m : MemRep X.K X.w H M μ) (h : dictOfM M l = some kvs) : ∃ nk ks vs es, DCell X H s μ M.length (μ l) kvs nk ks vs es := by
  unfold dictOfM at h
  cases e : M[l]? with
  | none => rw [e] at h; cases h
  | some o =>
    rw [e] at h
    cases o with
    | dct k => cases h; obtain ⟨nk, ks, vs, es, c, _⟩ := dcell I (m.at_ l _ e); exact ⟨nk, ks, vs, es, c⟩
    | dctL k => cases h; obtain ⟨nk, ks, vs, es, _, c, _⟩ := dcellL I (m.at_ l _ e); exact ⟨nk, ks, vs, es, c⟩
    | lst _ => cases h
    | scr _ => cases h
/-- x in y -/
def pInB (p q : P) (M : Mem) : Option Bool := match q with
  | .str z => match p with
    | .str c => if c.length = 1 then some (decide (c.cps.getD 0 0 ∈ z.cps.toList)) else none
    | _ => none
  | .loc l => match M[l]? with
    | some (.lst xs) => match toD M 9 p, toD M 9 (.loc l) with
      | some d, some (.list ds) => if SeqAt.shaped d = true ∧ SeqAt.shaped (.list ds) = true then some (ds.any fun z => PyData.eqv z d) else none
      | _, _ => none
    | _ => match dictOfM M l, keyOf p with
      | some kvs, some k => if k.depth ≤ 8 then some (hasK kvs k) else none
      | _, _ => none
  | _ => none
def pIn (neg : Bool) : Op2 := fun p q M => match pInB p q M with
  | some b => .ok (.bl (if neg then !b else b)) M
  | none => .bad
theorem one_sign {c : Str} (h : c.length = 1) : c = ⟨#[c.cps.getD 0 0]⟩ := by
  obtain ⟨a⟩ := c
  have h : a.size = 1 := h
  congr 1
  ext i h1 h2
  · simp [h]
  · have : i = 0 := by omega
    subst this
    simp [Array.getD, h]
theorem p_in (hu : X.A.units + 65 < cLine) : Prim2 X W (compareOp .In) (pIn false) := by
  refine Prim2.of fun pins s σ σ' H x y v u Q M μ p q I rx ry m t1 t2 sat => ?_
  unfold pIn at sat
  cases e : pInB p q M with
  | none => rw [e] at sat; exact sat.elim
  | some b =>
    rw [e] at sat
    have fin : Q (.bl b) H := sat.here m (.bl b)
    unfold pInB at e
    cases t2 with
    | str z =>
      cases t1 with
      | str c =>
        dsimp only at e
        by_cases h : c.length = 1
        · rw [if_pos h] at e
          cases e
          exact op_in_sign pins s σ H _ _ v u Q I rx ry ⟨_, z, by rw [← one_sign h], rfl, fin⟩
        · rw [if_neg h] at e; cases e
      | _ => cases e
    | @loc l hl =>
      dsimp only at e
      cases q : M[l]? with
      | none =>
        rw [q] at e
        have : dictOfM M l = none := by unfold dictOfM; rw [q]
        rw [this] at e; cases e
      | some o =>
        cases o with
        | lst xs =>
          rw [q] at e
          dsimp only at e
          cases e1 : toD M 9 p with
          | none => rw [e1] at e; cases e
          | some d => cases e2 : toD M 9 (.loc l) with
            | none => rw [e1, e2] at e; cases e
            | some d2 => cases d2 with
              | list ds =>
                rw [e1, e2] at e
                dsimp only at e
                by_cases h : SeqAt.shaped d = true ∧ SeqAt.shaped (.list ds) = true
                · rw [if_pos h] at e
                  cases e
                  exact op_inD hu pins s σ H _ _ v u Q I rx ry ⟨d, ds, toD_dp m 9 p d x e1 t1, toD_dp m 9 _ _ _ e2 (.loc hl), h.1, h.2, fin⟩
                · rw [if_neg h] at e; cases e
              | _ => rw [e1, e2] at e; cases e
        | _ =>
          rw [q] at e
          dsimp only at e
          cases e1 : dictOfM M l with
          | none => rw [e1] at e; cases e
          | some kvs => cases e2 : keyOf p with
            | none => rw [e1, e2] at e; cases e
            | some k =>
              rw [e1, e2] at e
              dsimp only at e
              by_cases h : k.depth ≤ 8
              · rw [if_pos h] at e
                cases e
                obtain ⟨nk, ks, vs, es, c⟩ := dcellM I m e1
                have ry : u = Value.ref (μ l) := ry
                subst ry
                refine TD.isIn (by omega) c.x c.sys (nested_of I t1 rx e2) h ?_
                rw [← has_of c.key]
                exact ⟨.bl _, H, I.tok _, rfl, fin⟩
              · rw [if_neg h] at e; cases e
    | _ => cases e
theorem p_notin (hu : X.A.units + 65 < cLine) : Prim2 X W (compareOp .NotIn) (pIn true) := by
  refine Prim2.of fun pins s σ σ' H x y v u Q M μ p q I rx ry m t1 t2 sat => ?_
  unfold pIn at sat
  cases e : pInB p q M with
  | none => rw [e] at sat; exact sat.elim
  | some b =>
    rw [e] at sat
    have fin : Q (.bl (!b)) H := sat.here m (.bl (!b))
    unfold pInB at e
    cases t2 with
    | str z =>
      cases t1 with
      | str c =>
        dsimp only at e
        by_cases h : c.length = 1
        · rw [if_pos h] at e
          cases e
          exact op_notIn_sign pins s σ H _ _ v u Q I rx ry ⟨_, z, by rw [← one_sign h], rfl, fin⟩
        · rw [if_neg h] at e; cases e
      | _ => cases e
    | @loc l hl =>
      dsimp only at e
      cases q : M[l]? with
      | none =>
        rw [q] at e
        have : dictOfM M l = none := by unfold dictOfM; rw [q]
        rw [this] at e; cases e
      | some o =>
        cases o with
        | lst xs =>
          rw [q] at e
          dsimp only at e
          cases e1 : toD M 9 p with
          | none => rw [e1] at e; cases e
          | some d => cases e2 : toD M 9 (.loc l) with
            | none => rw [e1, e2] at e; cases e
            | some d2 => cases d2 with
              | list ds =>
                rw [e1, e2] at e
                dsimp only at e
                by_cases h : SeqAt.shaped d = true ∧ SeqAt.shaped (.list ds) = true
                · rw [if_pos h] at e
                  cases e
                  exact op_notInD hu pins s σ H _ _ v u Q I rx ry ⟨d, ds, toD_dp m 9 p d x e1 t1, toD_dp m 9 _ _ _ e2 (.loc hl), h.1, h.2, fin⟩
                · rw [if_neg h] at e; cases e
              | _ => rw [e1, e2] at e; cases e
        | _ =>
          rw [q] at e
          dsimp only at e
          cases e1 : dictOfM M l with
          | none => rw [e1] at e; cases e
          | some kvs => cases e2 : keyOf p with
            | none => rw [e1, e2] at e; cases e
            | some k =>
              rw [e1, e2] at e
              dsimp only at e
              by_cases h : k.depth ≤ 8
              · rw [if_pos h] at e
                cases e
                obtain ⟨nk, ks, vs, es, c⟩ := dcellM I m e1
                have ry : u = Value.ref (μ l) := ry
                subst ry
                refine TD.notIn (by omega) c.x c.sys (nested_of I t1 rx e2) h ?_
                rw [← has_of c.key]
                exact ⟨.bl _, H, I.tok _, rfl, fin⟩
              · rw [if_neg h] at e; cases e
    | _ => cases e
end
end TV
end
section
set_option linter.all false
set_option maxRecDepth 100000
set_option maxHeartbeats 2000000
set_option autoImplicit false
namespace TV
open PySem PySem.Spec PyProof.Rows L2

/-! ### a[b] -/
def seqM (M : Mem) (l : Nat) : Option (List P) := match M[l]? with
  | some (.lst xs) => some xs
  | some (.scr ns) => some (ns.map P.int)
  | _ => none
theorem ints_trs {K : PySem.W.Frag} {H : Hp} {μ : Nat → Addr} {n : Nat} (ns : List Int) : Trs K H μ n (ns.map P.int) (ns.map V.int) := by
  induction ns with
  | nil => exact .nil
  | cons i ns ih => exact .cons (.int i) ih
theorem seqM_sq {K : PySem.W.Frag} {w : World} {H : Hp} {M : Mem} {μ : Nat → Addr} {l : Nat} {xs : List P} (m : MemRep K w H M μ) (h : seqM M l = some xs) : ∃ vs, SqL K H (μ l) vs ∧ Trs K H μ M.length xs vs := by
  unfold seqM at h
  cases e : M[l]? with
  | none => rw [e] at h; cases h
  | some o =>
    rw [e] at h
    cases o with
    | lst ys => cases h; obtain ⟨vs, sq, t, _⟩ := (m.at_ l _ e).sqL; exact ⟨vs, sq, t⟩
    | scr ns => cases h; exact ⟨_, (m.at_ l _ e).scrL, ints_trs ns⟩
    | dct _ => cases h
    | dctL _ => cases h
theorem Trs.atI {K : PySem.W.Frag} {H : Hp} {μ : Nat → Addr} {n : Nat} {ps : List P} {vs : List V} {i : Int} {p : P} (t : Trs K H μ n ps vs) (h : L2.atI ps i = some p) : ∃ v, L2.atI vs i = some v ∧ Tr K H μ n p v := by
  unfold L2.atI at h ⊢
  rw [← t.length]
  cases e : ixN ps.length i with
  | none => rw [e] at h; cases h
  | some j => rw [e] at h; exact t.get h
def pIxO (p q : P) (M : Mem) : Option P := match p, q with
  | .tup ps, .int i => L2.atI ps i
  | .str z, .int i => if z.length ≤ sizeLine then (L2.atI z.cps.toList i).map fun c => .str ⟨#[c]⟩ else none
  | .loc l, q => match seqM M l with
    | some xs => match q with
      | .int i => L2.atI xs i
      | _ => none
    | none => match dictOfM M l, keyOf q with
      | some kvs, some k => if k.depth ≤ 8 then lookK kvs k else none
      | _, _ => none
  | _, _ => none
def pIx : Op2 := fun p q M => match pIxO p q M with
  | some r => .ok r M
  | none => .bad
section
variable {X : Cx} {W : WX} {a b c : Expr} {fa fb fc : FE} {pos : Pos}
theorem q_ix (hu : X.A.units + 9 < cLine) (ha : QE X W a fa) (hb : QE X W b fb) (hs : PlainIx b := by intro _ _; rfl) : QE X W (.Subscript a b pos) (eOp pIx fa fb) := by
  have rule : IxR X fun x y H Q => ∃ M μ p q r, MemRep X.K X.w H M μ ∧ Tr X.K H μ M.length p x ∧ Tr X.K H μ M.length q y ∧ pIxO p q M = some r ∧ ∀ v, Tr X.K H μ M.length r v → Q v H := by
    rintro value slice pins s σ H x y v u Q I rx ry ⟨M, μ, p, q, r, m, t1, t2, e, hQ⟩ hsl
    cases t1 with
    | @tup ad xs ps sq ts =>
      cases t2 with
      | int i =>
        obtain ⟨z, hz, tz⟩ := ts.atI e
        exact ix_tup value slice pins s σ H _ _ v u Q I rx ry ⟨ad, xs, i, z, rfl, rfl, sq, hz, hQ z tz⟩ hsl
      | _ => cases e
    | str z =>
      cases t2 with
      | int i =>
        unfold pIxO at e
        dsimp only at e
        by_cases hz : z.length ≤ sizeLine
        · rw [if_pos hz] at e
          cases e1 : L2.atI z.cps.toList i with
          | none => rw [e1] at e; cases e
          | some c => rw [e1] at e; cases e; exact ix_str value slice pins s σ H _ _ v u Q I rx ry ⟨z, i, c, rfl, rfl, hz, e1, hQ _ (.str _)⟩ hsl
        · rw [if_neg hz] at e; cases e
      | _ => cases e
    | @loc l hl =>
      unfold pIxO at e
      dsimp only at e
      cases e1 : seqM M l with
      | some xs =>
        rw [e1] at e
        obtain ⟨vs, sq, ts⟩ := seqM_sq m e1
        cases t2 with
        | int i =>
          obtain ⟨z, hz, tz⟩ := ts.atI e
          exact ix_list value slice pins s σ H _ _ v u Q I rx ry ⟨_, vs, i, z, rfl, rfl, sq, hz, hQ z tz⟩ hsl
        | _ => cases e
      | none =>
        rw [e1] at e
        dsimp only at e
        cases e2 : dictOfM M l with
        | none => rw [e2] at e; cases e
        | some kvs => cases e3 : keyOf q with
          | none => rw [e2, e3] at e; cases e
          | some k =>
            rw [e2, e3] at e
            dsimp only at e
            by_cases h : k.depth ≤ 8
            · rw [if_pos h] at e
              obtain ⟨nk, ks, vs, es, dc⟩ := dcellM I m e2
              obtain ⟨j, en, vv, h1, h2, h3, h4⟩ := dc.val e
              have rx : v = Value.ref (μ l) := rx
              subst rx
              exact tail_any dc.x.ty PySem.F.slot_dict_getitem.lookup (TD.item hu dc.x (nested_of I t2 ry e3) h h1 h2 ⟨vv, H, I.tok _, h3, hQ vv h4⟩) hsl
            · rw [if_neg h] at e; cases e
    | _ => cases e
  refine PE_weak (pe_ix rule ha hb hs) fun σ H Q ⟨ρ, M, μ, rep, s⟩ => ⟨ρ, M, μ, rep, (Sat.bind s).imp fun x H1 ⟨p, M1, μ1, _, e1, m1, t1, s1⟩ => ?_⟩
  refine ⟨ρ, M1, μ1, rep.mono e1 m1, (Sat.bind s1).imp fun y H2 ⟨q, M2, μ2, _, e2, m2, t2, s2⟩ => ?_⟩
  have s2 : Sat X.K X.w X.mg (Tr X.K) W σ H2 μ2 M2.length Q (match pIxO p q M2 with | some r => .ok r M2 | none => .bad) := s2
  cases e : pIxO p q M2 with
  | none => rw [e] at s2; exact s2.elim
  | some r => rw [e] at s2; exact ⟨M2, μ2, p, q, r, m2, t1.mono e2, t2, e, fun v tv => s2.here m2 tv⟩
/-! ### a[lo:hi] -/
def cutP (ps : List P) (lo hi : Option Int) : List P := (ps.drop (HT.sIx ps.length 0 lo)).take (HT.sIx ps.length ps.length hi - HT.sIx ps.length 0 lo)
theorem cutP_trs {K : PySem.W.Frag} {H : Hp} {μ : Nat → Addr} {n : Nat} {ps : List P} {vs : List V} {lo hi : Option Int} (t : Trs K H μ n ps vs) : Trs K H μ n (cutP ps lo hi) (cutV vs lo hi) := by
  unfold cutP cutV
  rw [t.length]
  exact (t.drop _).take _
def pSl (p : P) (lo hi : Option Int) (M : Mem) : Res P := match p with
  | .tup ps => .ok (.tup (cutP ps lo hi)) M
  | .str z => if z.length ≤ sizeLine then .ok (.str (cutS z lo hi)) M else .bad
  | .loc l => match seqM M l with
    | some xs => .ok (.loc M.length) (M ++ [.lst (cutP xs lo hi)])
    | none => .bad
  | _ => .bad
abbrev FO := Rho → Mem → Res (Option Int)
def oNone : FO := fun _ M => .ok none M
def oSome (fa : FE) : FO := fun ρ M => (fa ρ M).bind fun p M1 => match p with
  | .int i => .ok (some i) M1
  | _ => .bad
def RO : Rel (Option Int) (Option Int) := fun _ _ _ a b => a = b
abbrev QO (X : Cx) (W : WX) (e : Option Expr) (f : FO) : Prop := PO X e (sem X.K X.w X.mg RO W f)
theorem PO_weak {e : Option Expr} {t t' : TO} (h : PO X e t) (hi : ∀ σ H Q, t' σ H Q → t σ H Q) : PO X e t' := ⟨fun pins s σ H Q I q => h.run pins s σ H Q I (hi σ H Q q)⟩
theorem q_onone : QO X W none oNone := PO_weak po_none fun σ H Q ⟨ρ, M, μ, rep, s⟩ => Sat.here (R := RO) s rep.mem rfl
theorem q_osome (ha : QE X W a fa) : QO X W (some a) (oSome fa) := by
  refine PO_weak (po_some ha) fun σ H Q ⟨ρ, M, μ, rep, s⟩ => ⟨ρ, M, μ, rep, (Sat.bind s).imp fun x H1 ⟨p, M1, μ1, _, e1, m1, t1, s1⟩ => ?_⟩
  cases t1 with
  | int i => exact ⟨i, rfl, Sat.here (R := RO) s1 m1 rfl⟩
  | _ => exact s1.elim
def eSl (fa : FE) (fl fh : FO) : FE := fun ρ M => (fa ρ M).bind fun p M1 => (fl ρ M1).bind fun lo M2 => (fh ρ M2).bind fun hi M3 => pSl p lo hi M3
theorem q_slice {lo hi : Option Expr} {fl fh : FO} {p2 : Pos} (ha : QE X W a fa) (hl : QO X W lo fl) (hh : QO X W hi fh) : QE X W (.Subscript a (.Slice lo hi none p2) pos) (eSl fa fl fh) := by
  refine PE_weak (pe_slice ((sl_tupA.or sl_list).or sl_str) ha hl hh) fun σ H Q ⟨ρ, M, μ, rep, s⟩ => ⟨ρ, M, μ, rep, (Sat.bind s).imp fun x H1 ⟨p, M1, μ1, _, e1, m1, t1, s1⟩ => ?_⟩
  have rep1 := rep.mono e1 m1
  refine ⟨ρ, M1, μ1, rep1, (Sat.bind (R := RO) s1).imp fun l H2 ⟨l', M2, μ2, _, e2, m2, el, s2⟩ => ?_⟩
  have el : l' = l := el
  subst el
  refine ⟨ρ, M2, μ2, rep1.mono e2 m2, (Sat.bind (R := RO) s2).imp fun h H3 ⟨h', M3, μ3, _, e3, m3, eh, s3⟩ => ?_⟩
  have eh : h' = h := eh
  subst eh
  have t := (t1.mono e2).mono e3
  cases t with
  | @tup ad xs ps sq ts =>
    refine .inl (.inl ⟨ad, xs, rfl, sq, fun hw => ?_, fun _ => sat_tup m3 (cutP_trs ts) s3⟩)
    have hc : cutP ps l' h' = ps := by
      unfold cutP
      rw [ts.length, hw.1, hw.2, List.drop_zero, Nat.sub_zero, ← ts.length, List.take_length]
    have s3 : Sat X.K X.w X.mg (Tr X.K) W σ H3 μ3 M3.length Q (.ok (.tup (cutP ps l' h')) M3) := s3
    rw [hc] at s3
    exact s3.here m3 (.tup sq ts)
  | str z =>
    unfold pSl at s3
    dsimp only at s3
    by_cases hz : z.length ≤ sizeLine
    · rw [if_pos hz] at s3; exact .inr ⟨z, rfl, hz, s3.here m3 (.str _)⟩
    · rw [if_neg hz] at s3; exact s3.elim
  | @loc l hl =>
    unfold pSl at s3
    dsimp only at s3
    cases e : seqM M3 l with
    | none => rw [e] at s3; exact s3.elim
    | some xs =>
      rw [e] at s3
      obtain ⟨vs, sq, ts⟩ := seqM_sq m3 e
      exact .inl (.inr ⟨_, vs, rfl, sq, sat_list m3 (cutP_trs ts) s3⟩)
  | _ => exact s3.elim
/-! ### a[b] = c -/
def storeM (o i v : P) (M : Mem) : Option Mem := match o with
  | .loc l => match M[l]? with
    | some (.lst xs) => match i with
      | .int k => match ixN xs.length k with
        | some j => some (M.set l (.lst (xs.set j v)))
        | none => none
      | _ => none
    | some (.dct kvs) => match keyOf i with
      | some k => if k.depth ≤ 8 ∧ kvs.length < sizeLine then some (M.set l (.dct (putK kvs k i v))) else none
      | none => none
    | _ => none
  | _ => none
def sStore (fv fo fi : FE) : FS := fun ρ M => bindS (fv ρ M) ρ fun v M1 => bindS (fo ρ M1) ρ fun o M2 => bindS (fi ρ M2) ρ fun i M3 => match storeM o i v M3 with
  | some M4 => .next ρ M4
  | none => .bad
theorem Paired.zip_set {ks vs : List V} {v : V} : ∀ {es : List DictEntry} {u : Value} (j : Nat), ks.length = vs.length → Paired (fun (p : V × V) (e : DictEntry) => RelV p.1 e.key ∧ RelV p.2 e.val) (ks.zip vs) es → RelV v u →
    Paired (fun (p : V × V) (e : DictEntry) => RelV p.1 e.key ∧ RelV p.2 e.val) (ks.zip (vs.set j v)) (es.modify j fun e => { e with val := u }) := by
  induction ks generalizing vs with
  | nil => intro es u j hl pr r; cases vs with
    | nil => cases pr; simpa using Paired.nil
    | cons _ _ => simp at hl
  | cons k ks ih => intro es u j hl pr r; cases vs with
    | nil => simp at hl
    | cons x xs =>
      cases pr with
      | cons q qs =>
        cases j with
        | zero => exact Paired.cons ⟨q.1, r⟩ qs
        | succ j => exact Paired.cons q (ih j (by simpa using hl) qs r)
end
end TV
end
section
set_option linter.all false
set_option maxRecDepth 100000
set_option maxHeartbeats 2000000
set_option autoImplicit false
namespace TV
open PySem PySem.Spec PyProof.Rows L2

theorem KeysAre.hashes {w : World} {h : Heap} : ∀ {ks : List NestedKey} {es : List DictEntry}, TD.KeysAre w h ks es → es.map (·.hash) = ks.map (·.hash w)
  | _, _, .nil => rfl
  | _, _, .cons _ b _ t => by simp [b, KeysAre.hashes t]
theorem dctAt_of {w : World} {h : Heap} {d : Addr} {nk : List NestedKey} {es : Array DictEntry} {kvs : List (V × V)} (x : TD.IsX w h d nk es) (rel : Paired (fun (p : V × V) (e : DictEntry) => RelV p.1 e.key ∧ RelV p.2 e.val) kvs es.toList) : DctAt d kvs (nk.map (·.hash w)) h := by
  obtain ⟨o, ho, hc, hd⟩ := x.ex
  exact ⟨o, es, ho, hc, hd, rel, KeysAre.hashes x.keys⟩
theorem dctAt_keep {d : Addr} {kvs : List (V × V)} {hs : List Int} {h1 h2 : Heap} (a : DctAt d kvs hs h1) (k : ∀ o, h1.get? d = some o → h2.get? d = some o) : DctAt d kvs hs h2 := by
  obtain ⟨o, es, ho, r⟩ := a
  exact ⟨o, es, k o ho, r⟩
theorem Paired.append {α β : Type} {F : α → β → Prop} : ∀ {a1 a2 : List α} {b1 b2 : List β}, Paired F a1 b1 → Paired F a2 b2 → Paired F (a1 ++ a2) (b1 ++ b2)
  | _, _, _, _, .nil, t => t
  | _, _, _, _, .cons r s, t => .cons r (Paired.append s t)
theorem set_same {α : Type} : ∀ {l : List α} {j : Nat} {x : α}, l[j]? = some x → l.set j x = l
  | [], _, _, h => by simp at h
  | a :: l, 0, x, h => by simp at h; subst h; rfl
  | a :: l, j + 1, x, h => by rw [List.set_cons_succ, set_same (by simpa using h)]
theorem keysOf_length : ∀ {ps : List P} {nk : List NestedKey}, keysOf ps = some nk → ps.length = nk.length
  | [], _, h => by cases h; rfl
  | p :: ps, _, h => by
    obtain ⟨k, ks, _, e2, rfl⟩ := keysOf_cons h
    simp [keysOf_length e2]
section
variable {X : Cx} {pins : List (Addr × Obj)} {σ : St} {H : Hp} {s : Shared} {M : Mem} {μ : Nat → Addr} {l : Nat} {kvs kvs' : List (P × P)}
theorem dct_write {h' : Heap} {t' : Nat} {nk' : List NestedKey} {es' : Array DictEntry} {ks' vs' : List V} (I : Inv X pins σ H s) (m : MemRep X.K X.w H M μ) (hl : M[l]? = some (.dct kvs)) (x : TD.IsX X.w h' (μ l) nk' es') (sb : Heap.SameBut (μ l) s.heap h')
    (rel : Paired (fun (p : V × V) (e : DictEntry) => RelV p.1 e.key ∧ RelV p.2 e.val) (ks'.zip vs') es'.toList) (tk : Trs X.K H μ M.length (kvs'.map (·.1)) ks') (tv : Trs X.K H μ M.length (kvs'.map (·.2)) vs') (key : keysOf (kvs'.map (·.1)) = some nk')
    (dep : ∀ k ∈ nk', k.depth ≤ 8) (size : kvs'.length ≤ sizeLine) (sys : (μ l == sysModules) = false) :
    ∃ H', Inv X pins σ H' { s with heap := h', toks := t' } ∧ MemRep X.K X.w H' (M.set l (.dct kvs')) μ ∧ Ext X.K H μ M.length H' μ (M.set l (.dct kvs')).length := by
  have mu : Mut (H (μ l)) := (m.at_ l _ hl).mutable rfl
  have e : Ext X.K H μ M.length (upd H (μ l) (.ext (DctAt (μ l) (ks'.zip vs') (nk'.map (·.hash X.w))))) μ M.length := ext_upd (.inl mu)
  refine ⟨_, I.write mu (.inl rfl) (fun b u hb h => by rw [sb.2 b hb]; exact h) ?_ ?_, m.write hl rfl rfl (.dct upd_same (tk.mono e) (tv.mono e) key x.nd dep size sys)⟩
  · obtain ⟨o, ho, _⟩ := x.ex; exact ⟨o, ho⟩
  · have z := dctAt_of x rel
    obtain ⟨o, ho, _⟩ := x.ex
    exact ⟨z, ⟨o, ho⟩, fun h1 h2 a b => dctAt_keep a b⟩
theorem dct_put {i v : V} {iv u : Value} {pi pv : P} {k : NestedKey} {nk ks' : List NestedKey} {ks vs : List V} {es es' : Array DictEntry} {h' : Heap} {t' : Nat} (I : Inv X pins σ H s) (m : MemRep X.K X.w H M μ) (el : M[l]? = some (.dct kvs)) (c : DCell X H s μ M.length (μ l) kvs nk ks vs es)
    (t2 : Tr X.K H μ M.length pi i) (ri : RelV i iv) (ek : keyOf pi = some k) (hd : k.depth ≤ 8) (hz : kvs.length < sizeLine) (t3 : Tr X.K H μ M.length pv v) (rv : RelV v u) (x' : TD.IsX X.w h' (μ l) ks' es') (sb' : Heap.SameBut (μ l) s.heap h')
    (cas : (∃ j, TD.placeOf nk k = some j ∧ ks' = nk ∧ es' = es.modify j fun e => { e with val := u }) ∨ (TD.placeOf nk k = none ∧ ks' = nk ++ [k] ∧ es' = es.push ⟨k.hash X.w, iv, u⟩)) :
    ∃ H', Inv X pins σ H' { s with heap := h', toks := t' } ∧ MemRep X.K X.w H' (M.set l (.dct (putK kvs k pi pv))) μ ∧ Ext X.K H μ M.length H' μ (M.set l (.dct (putK kvs k pi pv))).length := by
  have hlen : ks.length = vs.length := by rw [← c.tk.length, ← c.tv.length]; simp
  rcases cas with ⟨j, hj, rfl, rfl⟩ | ⟨hj, rfl, rfl⟩
  · obtain ⟨kv, g1, g2⟩ := put_some (q := pv) c.key c.x.nd hj
    have hput : putK kvs k pi pv = kvs.set j (kv.1, pv) := by
      unfold putK
      rw [has_of c.key, hj, if_pos (show (some j).isSome = true from rfl), g2]
    have e1 : (kvs.set j (kv.1, pv)).map (·.1) = kvs.map (·.1) := by
      rw [List.map_set]
      exact set_same (by rw [List.getElem?_map, g1]; rfl)
    have e2 : (kvs.set j (kv.1, pv)).map (·.2) = (kvs.map (·.2)).set j pv := by rw [List.map_set]
    exact dct_write (kvs' := putK kvs k pi pv) (ks' := ks) (vs' := vs.set j v) I m el x' sb' (by rw [Array.toList_modify]; exact Paired.zip_set j hlen c.rel rv) (by rw [hput, e1]; exact c.tk) (by rw [hput, e2]; exact Trs.set t3 j c.tv) (by rw [hput, e1]; exact c.key) c.dep (by rw [hput, List.length_set]; exact c.size) c.sys
  · have hput : putK kvs k pi pv = kvs ++ [(pi, pv)] := by
      unfold putK
      rw [has_of c.key, hj, if_neg (by simp)]
    exact dct_write (kvs' := putK kvs k pi pv) (ks' := ks ++ [i]) (vs' := vs ++ [v]) I m el x' sb' (by rw [Array.toList_push, List.zip_append hlen]; exact Paired.append c.rel (.cons ⟨ri, rv⟩ .nil)) (by rw [hput, List.map_append]; exact c.tk.append (.cons t2 .nil)) (by rw [hput, List.map_append]; exact c.tv.append (.cons t3 .nil)) (by rw [hput, List.map_append]; exact keysOf_append c.key ek)
      (by intro k' hk'; rcases List.mem_append.mp hk' with z | z
          · exact c.dep k' z
          · rw [List.mem_singleton.mp z]; exact hd) (by rw [hput, List.length_append]; exact hz) c.sys
theorem DCell.count {nk : List NestedKey} {ks vs : List V} {es : Array DictEntry} {n : Nat} {a : Addr} (c : DCell X H s μ n a kvs nk ks vs es) : es.size = kvs.length := by
  have z := c.x.keys.length
  have z1 : es.toList.length = es.size := Array.length_toList
  have : (kvs.map (·.1)).length = nk.length := keysOf_length c.key
  rw [List.length_map] at this
  rw [← z1, ← z, ← this]
/-- dictSet of the model -/
theorem dset_any {i v : V} {iv u : Value} {pi pv : P} {k : NestedKey} {E : Value → Shared → Prop} (hu : X.A.units + 8 < cLine) (I : Inv X pins σ H s) (m : MemRep X.K X.w H M μ) (el : M[l]? = some (.dct kvs)) (t2 : Tr X.K H μ M.length pi i) (ri : RelV i iv) (ek : keyOf pi = some k) (hd : k.depth ≤ 8) (hz : kvs.length < sizeLine)
    (t3 : Tr X.K H μ M.length pv v) (rv : RelV v u) {Q : Unit → Shared → Prop} (q : ∀ H' s', Inv X pins σ H' s' → MemRep X.K X.w H' (M.set l (.dct (putK kvs k pi pv))) μ → Ext X.K H μ M.length H' μ (M.set l (.dct (putK kvs k pi pv))).length → Q () s') :
    wpAny (model X.prog X.w) X.A (dictSet (μ l) iv u) Q E s := by
  obtain ⟨nk, ks, vs, es, c, hH⟩ := dcell I (m.at_ l _ el)
  refine TD.dset hu c.x (nested_of I t2 ri ek) hd (by rw [c.count]; omega) fun h' ks' es' x' sb' cas => ?_
  obtain ⟨H', I', m', e'⟩ := dct_put (t' := s.toks + k.draws) I m el c t2 ri ek hd hz t3 rv x' sb' cas
  exact q H' _ I' m' e'
theorem set_any (hu : X.A.units + 9 < cLine) : PSet X fun o i v H Q => ∃ M μ po pi pv M4, MemRep X.K X.w H M μ ∧ Tr X.K H μ M.length po o ∧ Tr X.K H μ M.length pi i ∧ Tr X.K H μ M.length pv v ∧ storeM po pi pv M = some M4 ∧ ∀ H', MemRep X.K X.w H' M4 μ → Ext X.K H μ M.length H' μ M4.length → Q H' := by
  rintro pins s σ H o i v ov iv u Q I ro ri rv ⟨M, μ, po, pi, pv, M4, m, t1, t2, t3, e, q⟩
  cases t1 with
  | @loc l hl =>
    unfold storeM at e
    dsimp only at e
    cases el : M[l]? with
    | none => rw [el] at e; cases e
    | some ob =>
      rw [el] at e
      cases ob with
      | lst xs =>
        dsimp only at e
        cases t2 with
        | int k =>
          dsimp only at e
          cases ej : ixN xs.length k with
          | none => rw [ej] at e; cases e
          | some j =>
            rw [ej] at e
            cases e
            obtain ⟨vs, sq, ts, hv⟩ := (m.at_ l _ el).sqL
            have mu : Mut (H (μ l)) := by rw [hv]; trivial
            have tn := ts.set (i := j) t3
            obtain ⟨m', e'⟩ := m.write (O := .lst (vs.set j v)) (o' := .lst (xs.set j pv)) el rfl rfl (.lst upd_same (tn.mono (ext_upd (.inl mu))))
            exact set_list pins s σ H _ _ v ov iv u Q I ro ri rv ⟨_, vs, k, j, rfl, rfl, hv, by rw [← ts.length]; exact ej, q _ m' e'⟩
        | _ => cases e
      | dct kvs =>
        dsimp only at e
        cases ek : keyOf pi with
        | none => rw [ek] at e; cases e
        | some k =>
          rw [ek] at e
          dsimp only at e
          by_cases h : k.depth ≤ 8 ∧ kvs.length < sizeLine
          · rw [if_pos h] at e
            cases e
            obtain ⟨nk, ks, vs, es, c, hH⟩ := dcell I (m.at_ l _ el)
            have ro : ov = Value.ref (μ l) := ro
            subst ro
            refine TD.setIt hu c.x (nested_of I t2 ri ek) h.1 (by rw [c.count]; omega) fun h' ks' es' x' sb' cas => ?_
            obtain ⟨H', I', m', ex'⟩ := dct_put (t' := s.toks + k.draws) I m el c t2 ri ek h.1 h.2 t3 rv x' sb' cas
            exact ⟨H', I', q H' m' ex'⟩
          · rw [if_neg h] at e; cases e
      | _ => cases e
  | _ => cases e
end
section
variable {X : Cx} {W : WX} {a b c : Expr} {fa fb fc : FE} {pos p2 : Pos}
theorem q_store (hu : X.A.units + 9 < cLine) (hc : QE X W c fc) (ha : QE X W a fa) (hb : QE X W b fb)
    (hsub : ∀ v : Value, assign (.Subscript a b p2) X.env v = (do
      let ov ← holding [v] (eval a X.env)
      let iv ← holding [v, ov] (eval b X.env)
      standAt p2
      holding [v, ov, iv] (setItem ov iv v)
      release [v, ov, iv] []) := by intro _; rfl)
    (hs : swapsWithSole [.Subscript a b p2] c pos.line X.env = pure false := by rfl) (hw : swappedStores [.Subscript a b p2] c X.env = pure none := by rfl)
    (h1 : (assignEach [.Subscript a b p2] X.env).map (·.2) = [assign (.Subscript a b p2) X.env] := by rfl) : QS X W (.Assign [.Subscript a b p2] c pos) (sStore fc fa fb) := by
  refine PS_weak (ps_asg hc (pg_sub ha hb (set_any hu) hsub) hs hw h1) fun D σ H ⟨ρ, M, μ, rep, s⟩ => ⟨ρ, M, μ, rep, (SatS.bind rep s).imp fun v H1 ⟨pv, M1, μ1, e1, m1, tv, s1⟩ => ?_⟩
  have rep1 := rep.mono e1 m1
  refine ⟨ρ, M1, μ1, rep1, (SatS.bind rep1 s1).imp fun o H2 ⟨po, M2, μ2, e2, m2, to, s2⟩ => ?_⟩
  have rep2 := rep1.mono e2 m2
  refine ⟨ρ, M2, μ2, rep2, (SatS.bind rep2 s2).imp fun i H3 ⟨pi, M3, μ3, e3, m3, ti, s3⟩ => ?_⟩
  have rep3 := rep2.mono e3 m3
  have s3 : SatS X.K X.w X.mg W D H3 μ3 M3.length (match storeM po pi pv M3 with | some M4 => .next ρ M4 | none => .bad) := s3
  cases e : storeM po pi pv M3 with
  | none => rw [e] at s3; exact s3.elim
  | some M4 => rw [e] at s3; exact ⟨M3, μ3, po, pi, pv, M4, m3, to.mono e3, ti, (tv.mono e2).mono e3, e, fun H' m' e' => s3 σ H' μ3 e' (rep3.mono e' m')⟩
end
end TV
end
section
set_option linter.all false
set_option maxRecDepth 100000
set_option maxHeartbeats 2000000
set_option autoImplicit false
namespace TV
open PySem PySem.Spec PyProof.Rows L2

theorem relV_inj {x y : V} {v : Value} (a : RelV x v) (b : RelV y v) : x = y := by
  have key : ∀ {x y : V}, RelV x v → RelV y v → (match v with | .none => V.non | .bool b => .bl b | .int i _ => .int i | .str z _ => .str z | .bytes b _ => .byt b | .float b _ => .flt b | .ref a => .ref a | .type n => .ty n | _ => .non) = x := by
    intro x y a _
    cases x with
    | non => have a : v = _ := a; subst a; rfl
    | bl _ => have a : v = _ := a; subst a; rfl
    | int _ => obtain ⟨_, rfl⟩ := a; rfl
    | str _ => obtain ⟨_, rfl⟩ := a; rfl
    | byt _ => obtain ⟨_, rfl⟩ := a; rfl
    | flt _ => obtain ⟨_, rfl⟩ := a; rfl
    | ref _ => have a : v = _ := a; subst a; rfl
    | ty _ => have a : v = _ := a; subst a; rfl
  exact (key a b).symm.trans (key b a)
/-! ### the keys of a dict, one after another -/
/-- at d lies a dict with just these keys -/
def KeysAt (d : Addr) (ks : List V) (H : Hp) : Prop := (d == sysModules) = false ∧ ∃ vs hs, ks.length = (vs : List V).length ∧ H d = some (.ext (DctAt d (ks.zip vs) hs))
def Itx (d : Addr) (n : Nat) : It := ⟨fun i H => (∃ ks, KeysAt d ks H ∧ ks.length = n) ∧ i < n, fun i H x H' => H' = H ∧ ∀ ks, KeysAt d ks H → ks[i]? = some x, fun i H => (∃ ks, KeysAt d ks H ∧ ks.length = n) ∧ i = n⟩
theorem Paired.zip_key {ks vs : List V} : ∀ {es : List DictEntry}, Paired (fun (p : V × V) (e : DictEntry) => RelV p.1 e.key ∧ RelV p.2 e.val) (ks.zip vs) es → ks.length = vs.length → es.length = ks.length ∧ ∀ {j : Nat} {e : DictEntry} {v : V}, es[j]? = some e → ks[j]? = some v → RelV v e.key := by
  induction ks generalizing vs with
  | nil => intro es pr hl; cases pr; exact ⟨rfl, fun {j e v} h1 h2 => by simp at h2⟩
  | cons k ks ih => intro es pr hl; cases vs with
    | nil => simp at hl
    | cons u us =>
      cases pr with
      | cons r rs =>
        obtain ⟨i1, i2⟩ := ih rs (by simpa using hl)
        refine ⟨by simp [i1], fun {j e v} h1 h2 => ?_⟩
        cases j with
        | zero => simp at h1 h2; subst h1 h2; exact r.1
        | succ j => exact i2 (j := j) (by simpa using h1) (by simpa using h2)
theorem KeysAt.raw {X : Cx} {pins : List (Addr × Obj)} {σ : St} {H : Hp} {s : Shared} {d : Addr} {ks : List V} (k : KeysAt d ks H) (I : Inv X pins σ H s) : ∃ es : Array DictEntry, s.heap.DictRaw d es es.size ∧ es.size = ks.length ∧ ∀ {j : Nat} {e : DictEntry} {v : V}, es[j]? = some e → ks[j]? = some v → RelV v e.key := by
  obtain ⟨_, vs, hs, hl, e⟩ := k
  obtain ⟨o, es, ho, hc, hd, pr, _⟩ := (I.hok d _ e).1
  obtain ⟨z1, z2⟩ := Paired.zip_key pr hl
  exact ⟨es, ⟨o, ho, hc, hd⟩, by rw [← z1, Array.length_toList], fun {j e v} h1 h2 => z2 (by rw [Array.getElem?_toList]; exact h1) h2⟩
theorem KeysAt.same {X : Cx} {pins : List (Addr × Obj)} {σ : St} {H : Hp} {s : Shared} {d : Addr} {ks ks' : List V} (k : KeysAt d ks H) (k' : KeysAt d ks' H) (I : Inv X pins σ H s) : ks = ks' := by
  obtain ⟨es, ⟨o, ho, _, hd⟩, z1, z2⟩ := k.raw I
  obtain ⟨es', ⟨o', ho', _, hd'⟩, z1', z2'⟩ := k'.raw I
  rw [ho] at ho'
  cases ho'
  rw [hd] at hd'
  cases hd'
  refine List.ext_getElem (by omega) fun i h1 h2 => ?_
  have he : es[i]? = some (es[i]'(by omega)) := Array.getElem?_eq_getElem _
  exact relV_inj (z2 he (List.getElem?_eq_getElem h1)) (z2' he (List.getElem?_eq_getElem h2))
theorem turn_x {P : Program} {w : World} {K : PySem.W.Frag} {tg : Expr} {d : Addr} {n : Nat} (it : Addr) : Turn P w K tg (Itx d n) [it] it fun i h => h.IsKeyIter it d i n n where
  mem := by simp
  obj := fun i h st b hb => by
    rw [List.mem_singleton] at hb
    subst hb
    obtain ⟨o, e, c, dd⟩ := st
    exact ⟨o, e, fun v z => by rw [dd] at z; cases z⟩
  keep := fun i h h' st k => st.at fun o e => k it (by simp) o e
  item := fun X hP hw hK hc i pins s σ H E I hf st hg => by
    subst hP hw hK
    obtain ⟨⟨ks, ka, hn⟩, hi⟩ := hg
    obtain ⟨es, raw, hz, hk⟩ := ka.raw I
    obtain ⟨f0, f1, f2, f3, f4, f5⟩ := hf it (by simp)
    rw [← hn, ← hz] at st
    have hi' : i < es.size := by omega
    refine wpAny_pyNext_keys_item_raw st raw hi' fun h' st' sb => ?_
    have I1 := I.turned (t' := s.toks) (h' := h') (fun b o hb e => (sb.2 b hb).trans e) f0 f1 f3 f4 f5
    obtain ⟨o, e, c, dd⟩ := id st'
    obtain ⟨x, hx⟩ : ∃ x, ks[i]? = some x := ⟨_, List.getElem?_eq_getElem (by omega)⟩
    exact ⟨_, rfl, go_of e c dd (by decide) ⟨x, H, I1, hk (Array.getElem?_eq_getElem hi') hx, ⟨rfl, fun ks' ka' => by rw [← ka.same ka' I]; exact hx⟩, by rw [← hn, ← hz]; exact st', fun b hb => by rw [List.mem_singleton] at hb; subst hb; exact f0⟩⟩
  done := fun X hP hw hK hc i pins s σ H E I hf st hg => by
    subst hP hw hK
    obtain ⟨⟨ks, ka, hn⟩, hi⟩ := hg
    obtain ⟨es, raw, hz, hk⟩ := ka.raw I
    obtain ⟨f0, f1, f2, f3, f4, f5⟩ := hf it (by simp)
    rw [← hn, ← hz] at st
    exact wpAny_pyNext_keys_end_raw (I.ok.hd hc) st raw (by omega) fun h' eb => ⟨rfl, I.turned (t' := s.toks) (fun b o hb e => eb b o hb e) f0 f1 f3 f4 f5⟩
  self := fun A i s Q E st h => wpAny_pyIter_keyiter st h
/-! ### what is walked over -/
/-- a value that can be walked over, of any kind -/
noncomputable def overI (p : P) (M : Mem) : Option Iter := match p with
  | .tup ps => some ⟨ps, fun _ => true⟩
  | .str z => some ⟨z.cps.toList.map fun c => P.str ⟨#[c]⟩, fun _ => true⟩
  | .loc l => match M[l]? with
    | some (.lst xs) => some ⟨xs, fun M' => ask (M'[l]? = some (.lst xs))⟩
    | some (.scr ns) => some ⟨ns.map P.int, fun M' => ask (M'[l]? = some (.scr ns))⟩
    | some (.dct kvs) => some ⟨kvs.map (·.1), fun M' => ask (∃ kvs', M'[l]? = some (.dct kvs') ∧ kvs'.map (·.1) = kvs.map (·.1))⟩
    | _ => none
  | _ => none
noncomputable def iOver (fa : FE) : Rho → Mem → Res Iter := fun ρ M => (fa ρ M).bind fun p M1 => match overI p M1 with
  | some I => .ok I M1
  | none => .bad
theorem PI_weak {X : Cx} {tg e : Expr} {t t' : TI} (h : PI X tg e t) (hi : ∀ σ H Q, t' σ H Q → t σ H Q) : PI X tg e t' := ⟨fun pins s σ H Q I q => h.run pins s σ H Q I (hi σ H Q q)⟩
section
variable {X : Cx} {W : WX} {a : Expr} {fa : FE} {tg : Expr} {pins : List (Addr × Obj)} {σ : St} {H : Hp} {s : Shared} {M : Mem} {μ : Nat → Addr}
theorem seq_rep {K : PySem.W.Frag} {w : World} {l n0 : Nat} {H0 : Hp} {μ0 : Nat → Addr} {xs : List P} {g : Mem → Bool} (hl : l < n0) (hg : ∀ M', g M' = true → seqM M' l = some xs) : ItRep K w H0 μ0 n0 (Itl K (μ0 l)) ⟨xs, g⟩ := by
  intro i H M μ e m gd
  obtain ⟨vs, sq, ts⟩ := seqM_sq m (hg M gd)
  rw [e.same l hl] at sq
  refine ⟨fun p hp => ?_, fun hi => ⟨vs, sq, by rw [← ts.length]; exact Nat.le_of_eq hi⟩⟩
  obtain ⟨v, hv, tv⟩ := ts.get hp
  refine ⟨⟨vs, v, sq, hv⟩, ?_⟩
  rintro x H' ⟨rfl, hx⟩
  have := hx vs sq
  rw [hv] at this
  cases this
  exact ⟨Ext.refl, m, tv⟩
theorem tup_rep {K : PySem.W.Frag} {w : World} {n0 : Nat} {H0 : Hp} {μ0 : Nat → Addr} {ad : Addr} {ps : List P} {xs : List V} (sq : SqT K H0 ad xs) (ts : Trs K H0 μ0 n0 ps xs) : ItRep K w H0 μ0 n0 (Itt K ad) ⟨ps, fun _ => true⟩ := by
  intro i H M μ e m gd
  have sq := e.tups _ _ sq
  have ts := ts.mono e
  refine ⟨fun p hp => ?_, fun hi => ⟨xs, sq, by rw [← ts.length]; exact Nat.le_of_eq hi⟩⟩
  obtain ⟨v, hv, tv⟩ := ts.get hp
  refine ⟨⟨xs, v, sq, hv⟩, ?_⟩
  rintro x H' ⟨rfl, hx⟩
  have := hx xs sq
  rw [hv] at this
  cases this
  exact ⟨Ext.refl, m, tv⟩
theorem str_rep {K : PySem.W.Frag} {w : World} {n0 : Nat} {H0 : Hp} {μ0 : Nat → Addr} {z : Str} : ItRep K w H0 μ0 n0 (Its z) ⟨z.cps.toList.map fun c => P.str ⟨#[c]⟩, fun _ => true⟩ := by
  intro i H M μ e m gd
  have hlen : (z.cps.toList.map fun c => P.str ⟨#[c]⟩).length = z.cps.size := by rw [List.length_map, Array.length_toList]
  refine ⟨fun p hp => ?_, fun hi => by show z.cps.size ≤ i; rw [← hlen]; exact Nat.le_of_eq hi⟩
  rw [List.getElem?_map] at hp
  cases hc : z.cps.toList[i]? with
  | none => rw [hc] at hp; cases hp
  | some c =>
    rw [hc] at hp
    cases hp
    rw [Array.getElem?_toList] at hc
    refine ⟨(Array.getElem?_eq_some_iff.mp hc).1, ?_⟩
    rintro x H' ⟨rfl, c', h1, rfl⟩
    rw [hc] at h1
    cases h1
    exact ⟨Ext.refl, m, .str _⟩
theorem dct_rep {K : PySem.W.Frag} {w : World} {l n0 : Nat} {H0 : Hp} {μ0 : Nat → Addr} {kvs : List (P × P)} (hl : l < n0) : ItRep K w H0 μ0 n0 (Itx (μ0 l) kvs.length) ⟨kvs.map (·.1), fun M' => ask (∃ kvs', M'[l]? = some (.dct kvs') ∧ kvs'.map (·.1) = kvs.map (·.1))⟩ := by
  intro i H M μ e m gd
  obtain ⟨kvs', hm, hk⟩ := ask_iff.mp gd
  have mr := m.at_ l _ hm
  cases mr with
  | @dct _ ks vs nk hh tk tv key nd dep size sys =>
    rw [e.same l hl] at hh sys
    have ll : kvs'.length = kvs.length := by
      have := congrArg List.length hk
      simpa using this
    have lk : ks.length = kvs.length := by rw [← tk.length, List.length_map, ll]
    have lv : vs.length = kvs.length := by rw [← tv.length, List.length_map, ll]
    have ka : KeysAt (μ0 l) ks H := ⟨sys, vs, _, by omega, hh⟩
    refine ⟨fun p hp => ?_, fun hi => ⟨⟨ks, ka, lk⟩, by rw [List.length_map] at hi; exact hi.symm⟩⟩
    rw [← hk] at hp
    obtain ⟨v, hv, t⟩ := tk.get hp
    refine ⟨⟨⟨ks, ka, lk⟩, by rw [← lk]; exact (List.getElem?_eq_some_iff.mp hv).1⟩, ?_⟩
    rintro x H' ⟨rfl, hx⟩
    have := hx ks ka
    rw [hv] at this
    cases this
    exact ⟨Ext.refl, m, t⟩
/-- a walk begins -/
theorem walk_any {x : V} {v : Value} {p : P} {I : Iter} {R : It → Hp → Prop} (inv : Inv X pins σ H s) (rx : RelV x v) (m : MemRep X.K X.w H M μ) (t : Tr X.K H μ M.length p x) (e : overI p M = some I) (q : ∀ J, ItRep X.K X.w H μ M.length J I → R J H) : wpAny (model X.prog X.w) X.A (pyIter v) (PIE X pins σ tg R) X.xe s := by
  cases t with
  | @tup ad xs ps sq ts =>
    cases e
    have rx : v = Value.ref ad := rx
    subst rx
    obtain ⟨its, rv, tu, hz⟩ := inv.tuple sq
    exact wpAny_pyIter_tuple tu (pi_one inv _ (turn_tuple ad _) ⟨_, Heap.get?_push_size s.heap rfl, rfl, rfl⟩ (q _ (tup_rep sq ts)))
  | str z =>
    cases e
    obtain ⟨t, rfl⟩ := rx
    cases ha : z.cps.all fun x => decide (x < 128) with
    | false => exact wpAny_pyIter_wide ha (pi_one inv _ (turn_str _ z t _ (.inr rfl)) ⟨_, Heap.get?_push_size s.heap rfl, rfl, rfl⟩ (q _ str_rep))
    | true => exact wpAny_pyIter_ascii ha (pi_one inv _ (turn_str _ z t _ (.inl rfl)) ⟨_, Heap.get?_push_size s.heap rfl, rfl, rfl⟩ (q _ str_rep))
  | @loc l hl =>
    have rx : v = Value.ref (μ l) := rx
    subst rx
    unfold overI at e
    dsimp only at e
    cases el : M[l]? with
    | none => rw [el] at e; cases e
    | some ob =>
      rw [el] at e
      cases ob with
      | lst ys =>
        cases e
        obtain ⟨vs, sq, ts⟩ := seqM_sq m (l := l) (xs := ys) (by unfold seqM; rw [el])
        obtain ⟨its, rv, pl, hz⟩ := inv.list sq
        exact wpAny_pyIter_list pl.isList (pi_one inv _ (turn_list (μ l) _) ⟨_, Heap.get?_push_size s.heap rfl, rfl, rfl⟩ (q _ (seq_rep hl fun M' h => by unfold seqM; rw [ask_iff.mp h])))
      | scr ns =>
        cases e
        obtain ⟨vs, sq, ts⟩ := seqM_sq m (l := l) (xs := ns.map P.int) (by unfold seqM; rw [el])
        obtain ⟨its, rv, pl, hz⟩ := inv.list sq
        exact wpAny_pyIter_list pl.isList (pi_one inv _ (turn_list (μ l) _) ⟨_, Heap.get?_push_size s.heap rfl, rfl, rfl⟩ (q _ (seq_rep hl fun M' h => by unfold seqM; rw [ask_iff.mp h])))
      | dct kvs =>
        cases e
        obtain ⟨nk, ks, vs, es, c, hH⟩ := dcell inv (m.at_ l _ el)
        obtain ⟨o, ho, hc, hd⟩ := c.x.ex
        have hlen : ks.length = vs.length := by rw [← c.tk.length, ← c.tv.length]; simp
        have hes : es.size = kvs.length := by
          have z := (Paired.zip_key c.rel hlen).1
          rw [Array.length_toList, ← c.tk.length, List.length_map] at z
          exact z
        exact wpAny_pyIter_dict_raw c.sys ⟨o, ho, hc, hd⟩ (pi_one inv _ (turn_x (d := μ l) (n := kvs.length) _) ⟨_, Heap.get?_push_size s.heap rfl, rfl, by rw [← hes]; rfl⟩ (q _ (dct_rep hl)))
      | dctL _ => cases e
  | _ => cases e
theorem q_over (ha : QE X W a fa) : QI X W tg a (iOver fa) := by
  refine ⟨fun pins s σ H R inv h => ?_⟩
  obtain ⟨ρ, M, μ, rep, sat⟩ := h
  refine thn (ha.run pins s σ H _ inv ⟨ρ, M, μ, rep, Sat.bind sat⟩) fun v s1 hv => ?_
  obtain ⟨x, H1, I1, rx, p, M1, μ1, _, e1, m1, t1, s1'⟩ := hv
  have s2 : Sat X.K X.w X.mg (RI X.K X.w) W σ H1 μ1 M1.length R (match overI p M1 with | some I => .ok I M1 | none => .bad) := s1'
  cases e : overI p M1 with
  | none => rw [e] at s2; exact s2.elim
  | some J => rw [e] at s2; exact walk_any I1 rx m1 t1 e fun J' hJ => s2.here m1 hJ
end
end TV
end
section
set_option linter.all false
set_option maxRecDepth 100000
set_option maxHeartbeats 2000000
set_option autoImplicit false
namespace TV
open PySem PySem.Spec PyProof.Rows L2

/-! ### enumerate(v) -/
theorem enum_made {v : Value} {o : Obj} {Hh : Heap → Prop} (B : Begins v o Hh) :
    Meets (Builtin.«enumerate.__new__» { pos := [Value.type "enumerate", v] }) fun _ R s => Hh s.heap ∧ R (.ok (.ret (.ref (s.heap.push o).objs.size))) { s with heap := (s.heap.push o).push { cls := Value.type "enumerate", data := .fields #[.none, .bool false, .ref s.heap.objs.size, rawInt 0, .none, .none] } } := by
  refine Meets.of_wp fun prog w A R s h => ?_
  obtain ⟨h1, h⟩ := h
  unfold Builtin.«enumerate.__new__»
  have hsub := sub_enumerate
  refine wpAny_bind ?_
  unfold Builtin.SmallTypes.newClass
  refine wpAny_bind ?_
  refine wpAny_pure ?_
  refine wpAny_ite_false (by rfl) ?_
  refine wpAny_bind (wpAny_of_eq hsub ?_)
  refine wpAny_ite_false (by rfl) ?_
  refine wpAny_pure ?_
  refine wpAny_ite_true (by rfl) ?_
  refine wpAny_bind ?_
  unfold Builtin.SmallTypes.calledThroughType
  refine wpAny_bind (wpAny_stack_any fun st => wpAny_pure ?_)
  have last : wpAny (model prog w) A.in1 (do
      let z ← pyIter v
      let z ← Builtin.SmallTypes.newRecord (Value.type "enumerate") (Builtin.SmallTypes.ownedTupleFields ++ [z, rawInt 0, Value.none, Value.none])
      ret z) (fun fin s' => ∃ v, fin = Fin.done (Flow.ret v) ∧ R (Except.ok (Flow.ret v)) s') (fun e s' => R (Except.error e) s') s := by
    refine wpAny_bind (B.iter prog w _ _ s _ h1 ?_)
    refine wpAny_bind ?_
    refine wpAny_newObj_type (data := .fields #[.none, .bool false, .ref s.heap.objs.size, rawInt 0, .none, .none]) ?_
    exact wpAny_pure ⟨_, rfl, h⟩
  split
  · rename_i c _ _ _ _ _
    cases c == Value.type "enumerate" with
    | true => exact wpAny_ite_true (by rfl) (wpAny_bind (wpAny_pure last))
    | false => exact wpAny_ite_false (by rfl) (wpAny_bind (wpAny_pure last))
  · exact wpAny_ite_false (by rfl) (wpAny_bind (wpAny_pure last))
theorem call_enum {prog : Program} {w : World} {A : Around} {E : Value → Shared → Prop} {s : Shared} {v : Value} {o : Obj} {Hh : Heap → Prop} {Q : Value → Shared → Prop} (B : Begins v o Hh) (h1 : Hh s.heap)
    (h : ∀ h' : Heap, IsEnum h' (s.heap.objs.size + 1) s.heap.objs.size 0 .none → h'.get? s.heap.objs.size = some o → h'.objs.size = s.heap.objs.size + 2 → (∀ b u, s.heap.get? b = some u → h'.get? b = some u) → Q (.ref (s.heap.objs.size + 1)) { s with heap := h' }) :
    wpAny (model prog w) A (call (.type "enumerate") [v]) Q E s := by
  refine callType_new F.called_enumerate (by decide) (F.typeCall_enumerate_1 v) (F.newCall_enumerate_1 v) (fun obj => F.args_object_init_2 obj v) F.entry_enumerate_new (enum_made B) ⟨h1, ?_⟩
  have hz : (s.heap.push o).objs.size = s.heap.objs.size + 1 := Heap.size_push s.heap o
  have he := Heap.get?_push_size (s.heap.push o) (o := ⟨.type "enumerate", none, .fields #[.none, .bool false, .ref s.heap.objs.size, rawInt 0, .none, .none], #[]⟩) rfl
  show _ ∧ _
  rw [hz] at he ⊢
  refine ⟨⟨_, he, rfl⟩, h _ he ?_ ?_ ?_⟩
  · exact Heap.get?_push_of_some _ (Heap.get?_push_size s.heap B.free)
  · rw [Heap.size_push, hz]
  · exact fun b u e => Heap.get?_push_of_some _ (Heap.get?_push_of_some _ e)
/-- (0, x), (1, y), .. over a tuple -/
def Itn2 (K : PySem.W.Frag) (a : Addr) : It := ⟨fun i H => ∃ xs x, SqT K H a xs ∧ xs[i]? = some x, fun i H v H' => ∃ T x, v = .ref T ∧ H T = none ∧ H' = upd H T (.tup [.int i, x]) ∧ ∀ xs, SqT K H a xs → xs[i]? = some x, fun i H => ∃ xs, SqT K H a xs ∧ xs.length = i⟩
theorem turn_enumT {P : Program} {w : World} {K : PySem.W.Frag} {elts : List Expr} {kk : Nat} {tpos : Pos} (a e it : Addr) : Turn P w K (.Tuple elts kk tpos) (Itn2 K a) [e, it] e fun i h => (∃ old, IsEnum h e it (i : Int) old) ∧ h.IsTupleIter it a i ∧ e ≠ it ∧ a ≠ it ∧ e ≠ a where
  mem := by simp
  obj := fun i h st b hb => by
    obtain ⟨⟨old, he⟩, ⟨o, ho, hc, hd⟩, _⟩ := st
    rcases List.mem_cons.mp hb with rfl | hb
    · exact ⟨_, he, fun v z => nomatch z⟩
    · rw [List.mem_singleton] at hb
      subst hb
      exact ⟨o, ho, fun v z => by rw [hd] at z; cases z⟩
  keep := fun i h h' st k => by
    obtain ⟨⟨old, he⟩, hi, hne⟩ := st
    exact ⟨⟨old, k e (by simp) _ he⟩, hi.at fun o q => k it (by simp) o q, hne⟩
  item := fun X hP hw hK hc i pins s σ H E I hf st hg => by
    subst hP hw hK
    obtain ⟨⟨old, he⟩, hit, n1, n2, n3⟩ := st
    obtain ⟨xs, x, hq, hx⟩ := hg
    obtain ⟨its, rv, tu, hz⟩ := I.tuple hq
    obtain ⟨u, hu, ru⟩ := rv.get hx
    have hlt : i < its.toArray.size := by
      rw [List.size_toArray]; exact (List.getElem?_eq_some_iff.mp hu).1
    have G := GoesN.enumFrom (prog := X.prog) (w := X.w) (A := X.A) (elts := elts) (x1 := kk) (pos := tpos) 0 (Draws.tuple (prog := X.prog) (w := X.w) (A := X.A.in1) (I.ok.hd hc) it a n2 its.toArray) e n1 (by simp [n1, n3]) (by simp)
    refine G.goes i s (fun v s2 => ∃ x H', Inv X pins σ H' s2 ∧ RelV x v ∧ (Itn2 X.K a).yld i H x H' ∧ ((∃ old, IsEnum s2.heap e it ((i + 1 : Nat) : Int) old) ∧ s2.heap.IsTupleIter it a (i + 1) ∧ e ≠ it ∧ a ≠ it ∧ e ≠ a) ∧ ∀ b ∈ [e, it], H' b = none) E hlt ⟨⟨old, by rw [Int.zero_add]; exact he⟩, hit, tu⟩ ?_
    rintro v h' tk ⟨T, t, y, rfl, hT, hy, hTup⟩ st' keep _
    have ey : y = u := by
      rw [List.getElem?_toArray, hu] at hy
      exact (Option.some.inj hy).symm
    subst ey
    obtain ⟨⟨old', he'⟩, hit', _⟩ := st'
    have new : ObjOk X.prog X.w (upd H T (.tup [.int i, x])) h' T (.tup [.int i, x]) := ⟨by show 2 ≤ sizeLine; decide, [.int (0 + i) t, y], .cons ⟨t, by rw [Int.zero_add]⟩ (.cons ru .nil), hTup⟩
    have I1 := I.turnedNew (t' := tk) (ch := [e, it]) keep hf hT new
    refine ⟨.ref T, _, I1, rfl, ⟨T, x, rfl, HOk.fresh I.hok hT, rfl, fun ys hy => ?_⟩, ⟨⟨old', by have z := he'; rw [Int.zero_add] at z; exact z⟩, hit', n1, n2, n3⟩, fun b hb => ?_⟩
    · rw [← I.tuple_inj hq hy]; exact hx
    · have hb' : b < s.heap.objs.size := by
        rcases List.mem_cons.mp hb with rfl | hb
        · exact Heap.lt_size he
        · rw [List.mem_singleton] at hb
          subst hb
          obtain ⟨o, ho, _⟩ := hit
          exact Heap.lt_size ho
      rw [upd_ne (Nat.ne_of_lt (Nat.lt_of_lt_of_le hb' hT))]
      exact (hf b hb).1
  done := fun X hP hw hK hc i pins s σ H E I hf st hg => by
    subst hP hw hK
    obtain ⟨⟨old, he⟩, hit, n1, n2, n3⟩ := st
    obtain ⟨xs, hq, hx⟩ := hg
    obtain ⟨its, rv, tu, hz⟩ := I.tuple hq
    have G := GoesN.enumFrom (prog := X.prog) (w := X.w) (A := X.A) (elts := elts) (x1 := kk) (pos := tpos) 0 (Draws.tuple (prog := X.prog) (w := X.w) (A := X.A.in1) (I.ok.hd hc) it a n2 its.toArray) e n1 (by simp [n1, n3]) (by simp)
    have hi : its.toArray.size = i := by rw [List.size_toArray, ← rv.length]; exact hx
    refine G.stops s (fun s1 => Inv X pins σ H s1) E ?_ fun h' tk keep _ => I.turnedL keep hf
    rw [hi]
    exact ⟨⟨old, by rw [Int.zero_add]; exact he⟩, hit, tu⟩
  self := fun A i s Q E st h => by
    obtain ⟨⟨old, he⟩, _⟩ := st
    exact wpAny_pyIter_enum he h
end TV
end
section
set_option linter.all false
set_option maxRecDepth 100000
set_option maxHeartbeats 2000000
set_option autoImplicit false
namespace TV
open PySem PySem.Spec PyProof.Rows L2

/-! ### range(n), range(m, n) -/
def upto (lo : Int) (n : Nat) : List P := (List.range n).map fun i => P.int (lo + (i : Nat))
theorem upto_rep {K : PySem.W.Frag} {w : World} {n0 n : Nat} {lo : Int} {H0 : Hp} {μ0 : Nat → Addr} : ItRep K w H0 μ0 n0 (Itr lo n) ⟨upto lo n, fun _ => true⟩ := by
  intro i H M μ e m gd
  have hlen : (upto lo n).length = n := by unfold upto; simp
  refine ⟨fun p hp => ?_, fun hi => by show n ≤ i; rw [← hlen]; exact Nat.le_of_eq hi⟩
  have hi : i < n := by rw [← hlen]; exact (List.getElem?_eq_some_iff.mp hp).1
  refine ⟨hi, ?_⟩
  rintro x H' ⟨rfl, rfl⟩
  unfold upto at hp
  rw [List.getElem?_map, List.getElem?_range hi] at hp
  cases hp
  exact ⟨Ext.refl, m, .int _⟩
abbrev FA := Rho → Mem → Res (List P)
abbrev FI := Rho → Mem → Res Iter
def inLine (i : Int) : Prop := -(2 ^ 62) ≤ i ∧ i < 2 ^ 62
instance (i : Int) : Decidable (inLine i) := by unfold inLine; exact inferInstance
def rng1 : List P → Mem → Res Iter := fun ps M1 => match ps with
  | [.int j] => if inLine j then .ok ⟨upto 0 j.toNat, fun _ => true⟩ M1 else .bad
  | _ => .bad
def rng2 : List P → Mem → Res Iter := fun ps M1 => match ps with
  | [.int i, .int j] => if inLine i ∧ inLine j then .ok ⟨upto i (j - i).toNat, fun _ => true⟩ M1 else .bad
  | _ => .bad
/-- the items with their places -/
def counted (ps : List P) : List P := ps.mapIdx fun i p => .tup [.int (i : Nat), p]
noncomputable def enumI : List P → Mem → Res Iter := fun ps M1 => match ps with
  | [.tup ps] => .ok ⟨counted ps, fun _ => true⟩ M1
  | [.loc l] => match seqM M1 l with
    | some xs => .ok ⟨counted xs, fun M' => ask (seqM M' l = some xs)⟩ M1
    | none => .bad
  | _ => .bad
noncomputable def iArgs (g : List P → Mem → Res Iter) (fa : FA) : FI := fun ρ M => (fa ρ M).bind g
section
variable {X : Cx} {W : WX} {a b : Expr} {fr : FA} {tg : Expr} {p pos : Pos}
theorem trs1 {K : PySem.W.Frag} {H : Hp} {μ : Nat → Addr} {n : Nat} {q : P} {xs : List V} (t : Trs K H μ n [q] xs) : ∃ x, xs = [x] ∧ Tr K H μ n q x := by
  cases t with
  | cons t1 t2 => cases t2; exact ⟨_, rfl, t1⟩
theorem trs2 {K : PySem.W.Frag} {H : Hp} {μ : Nat → Addr} {n : Nat} {q r : P} {xs : List V} (t : Trs K H μ n [q, r] xs) : ∃ x y, xs = [x, y] ∧ Tr K H μ n q x ∧ Tr K H μ n r y := by
  cases t with
  | cons t1 t2 => obtain ⟨y, rfl, t3⟩ := trs1 t2; exact ⟨_, y, rfl, t1, t3⟩
theorem q_range1 (hg : Gl X "range") (hm : X.mg "range" = none) (ha : QA X W [a] fr) (hs : starEach [a] X.env = [(false, eval a X.env)] := by rfl) : QI X W tg (.Call (.Name "range" p) [a] [] pos) (iArgs rng1 fr) := by
  refine PI_weak (pi_range1 hg hm ha hs) fun σ H Q ⟨ρ, M, μ, rep, s⟩ => ⟨ρ, M, μ, rep, (Sat.bind s).imp fun xs H1 ⟨ps, M1, μ1, _, e1, m1, t1, s1⟩ => ?_⟩
  unfold rng1 at s1
  split at s1
  · rename_i j _
    obtain ⟨x, rfl, tx⟩ := trs1 t1
    cases tx
    by_cases h : inLine j
    · rw [if_pos h] at s1; exact ⟨j, rfl, h.1, h.2, s1.here m1 upto_rep⟩
    · rw [if_neg h] at s1; exact s1.elim
  · exact s1.elim
theorem q_range2 (hg : Gl X "range") (hm : X.mg "range" = none) (ha : QA X W [a, b] fr) (hs : starEach [a, b] X.env = [(false, eval a X.env), (false, eval b X.env)] := by rfl) (hs2 : starEach [b] X.env = [(false, eval b X.env)] := by rfl) : QI X W tg (.Call (.Name "range" p) [a, b] [] pos) (iArgs rng2 fr) := by
  refine PI_weak (pi_range2 hg hm ha hs hs2) fun σ H Q ⟨ρ, M, μ, rep, s⟩ => ⟨ρ, M, μ, rep, (Sat.bind s).imp fun xs H1 ⟨ps, M1, μ1, _, e1, m1, t1, s1⟩ => ?_⟩
  unfold rng2 at s1
  split at s1
  · rename_i i j _
    obtain ⟨x, y, rfl, tx, ty⟩ := trs2 t1
    cases tx
    cases ty
    by_cases h : inLine i ∧ inLine j
    · rw [if_pos h] at s1; exact ⟨i, j, rfl, ⟨h.1.1, h.1.2, h.2.1, h.2.2⟩, s1.here m1 upto_rep⟩
    · rw [if_neg h] at s1; exact s1.elim
  · exact s1.elim
theorem counted_get {ps : List P} {i : Nat} {p : P} (h : (counted ps)[i]? = some p) : ∃ q, ps[i]? = some q ∧ p = .tup [.int (i : Nat), q] := by
  unfold counted at h
  rw [List.getElem?_mapIdx] at h
  cases e : ps[i]? with
  | none => rw [e] at h; cases h
  | some q => rw [e] at h; cases h; exact ⟨q, rfl, rfl⟩
theorem pair_ext {K : PySem.W.Frag} {w : World} {H : Hp} {M : Mem} {μ : Nat → Addr} {T : Addr} {i : Int} {q : P} {v : V} (m : MemRep K w H M μ) (hT : H T = none) (t : Tr K H μ M.length q v) :
    Ext K H μ M.length (upd H T (.tup [.int i, v])) μ M.length ∧ MemRep K w (upd H T (.tup [.int i, v])) M μ ∧ Tr K (upd H T (.tup [.int i, v])) μ M.length (.tup [.int i, q]) (.ref T) := by
  have e : Ext K H μ M.length (upd H T (.tup [.int i, v])) μ M.length := ext_upd (.inr hT)
  exact ⟨e, m.beside hT, .tup (.inl (.inl upd_same)) (.cons (.int _) (.cons (t.mono e) .nil))⟩
theorem enumL_rep {K : PySem.W.Frag} {w : World} {l n0 : Nat} {H0 : Hp} {μ0 : Nat → Addr} {xs : List P} (hl : l < n0) : ItRep K w H0 μ0 n0 (Ite K (μ0 l)) ⟨counted xs, fun M' => ask (seqM M' l = some xs)⟩ := by
  intro i H M μ e m gd
  obtain ⟨vs, sq, ts⟩ := seqM_sq m (ask_iff.mp gd)
  rw [e.same l hl] at sq
  refine ⟨fun p hp => ?_, fun hi => ⟨vs, sq, by rw [← ts.length]; unfold counted at hi; simpa using Nat.le_of_eq hi⟩⟩
  obtain ⟨q, hq, rfl⟩ := counted_get hp
  obtain ⟨v, hv, tv⟩ := ts.get hq
  refine ⟨⟨vs, v, sq, hv⟩, ?_⟩
  rintro x H' ⟨T, y, rfl, hT, rfl, hy⟩
  have := hy vs sq
  rw [hv] at this
  cases this
  exact pair_ext m hT tv
theorem enumT_rep {K : PySem.W.Frag} {w : World} {n0 : Nat} {H0 : Hp} {μ0 : Nat → Addr} {ad : Addr} {ps : List P} {xs : List V} (sq : SqT K H0 ad xs) (ts : Trs K H0 μ0 n0 ps xs) : ItRep K w H0 μ0 n0 (Itn2 K ad) ⟨counted ps, fun _ => true⟩ := by
  intro i H M μ e m gd
  have sq := e.tups _ _ sq
  have ts := ts.mono e
  refine ⟨fun p hp => ?_, fun hi => ⟨xs, sq, by rw [← ts.length]; unfold counted at hi; simpa using hi⟩⟩
  obtain ⟨q, hq, rfl⟩ := counted_get hp
  obtain ⟨v, hv, tv⟩ := ts.get hq
  refine ⟨⟨xs, v, sq, hv⟩, ?_⟩
  rintro x H' ⟨T, y, rfl, hT, rfl, hy⟩
  have := hy xs sq
  rw [hv] at this
  cases this
  exact pair_ext m hT tv
theorem q_enum {elts : List Expr} {kk : Nat} {tpos : Pos} (hg : Gl X "enumerate") (hm : X.mg "enumerate" = none) (ha : QA X W [a] fr) (hs : starEach [a] X.env = [(false, eval a X.env)] := by rfl) : QI X W (.Tuple elts kk tpos) (.Call (.Name "enumerate" p) [a] [] pos) (iArgs enumI fr) := by
  refine ⟨fun pins s σ H R I h => ?_⟩
  obtain ⟨ρ, M, μ, rep, sat⟩ := h
  refine Call_ (ld_blt I hg hm boot_enumerate (callWith_type1 (thn (ha.run pos pins s σ H _ I ⟨ρ, M, μ, rep, Sat.bind sat⟩) fun us s1 hx => ?_) hs rfl) (by decide) (by decide)) (by rfl)
  obtain ⟨xs, H1, I1, r1, ps, M1, μ1, _, e1, m1, t1, s1'⟩ := hx
  unfold enumI at s1'
  split at s1'
  · rename_i qs _
    obtain ⟨x, rfl, tx⟩ := trs1 t1
    cases r1 with
    | cons r rr =>
      cases rr
      cases tx with
      | @tup ad ys _ sq ts =>
        have r : _ = Value.ref ad := r
        subst r
        obtain ⟨its, rv, tu, hz⟩ := I1.tuple sq
        have hlt : ad < s1.heap.objs.size := by obtain ⟨o, ho, _⟩ := tu; exact Heap.lt_size ho
        refine call_enum (begins_tuple ad its.toArray) tu fun h' he hit hsz hk => wpAny_pyIter_enum he ?_
        have I2 := I1.kept (t' := s1.toks) hk
        refine ⟨s1.heap.objs.size + 1, [s1.heap.objs.size + 1, s1.heap.objs.size], _, Itn2 X.K ad, H1, rfl, I2, turn_enumT ad _ _, ⟨⟨_, he⟩, ⟨_, hit, rfl, rfl⟩, Nat.succ_ne_self _, Nat.ne_of_lt hlt, (Nat.ne_of_lt (Nat.lt_succ_of_lt hlt)).symm⟩, fun b hb => ?_, s1'.here m1 (enumT_rep sq ts)⟩
        have hb' : s1.heap.objs.size ≤ b := by
          rcases List.mem_cons.mp hb with rfl | hb
          · exact Nat.le_succ _
          · rw [List.mem_singleton] at hb; rw [hb]; exact Nat.le_refl _
        exact I1.fpOk hb' (HOk.fresh I1.hok hb')
  · rename_i l _
    cases e : seqM M1 l with
    | none => rw [e] at s1'; exact s1'.elim
    | some zs =>
      rw [e] at s1'
      obtain ⟨x, rfl, tx⟩ := trs1 t1
      cases r1 with
      | cons r rr =>
        cases rr
        cases tx with
        | loc hl =>
          have r : _ = Value.ref (μ1 l) := r
          subst r
          obtain ⟨vs, sq, ts⟩ := seqM_sq m1 e
          obtain ⟨its, rv, pl, hz⟩ := I1.list sq
          refine call_enumerate_list pl.isList fun h' he hit hsz hk => wpAny_pyIter_enum he ?_
          have I2 := I1.kept (t' := s1.toks) hk
          refine ⟨s1.heap.objs.size + 1, [s1.heap.objs.size + 1, s1.heap.objs.size], _, Ite X.K (μ1 l), H1, rfl, I2, turn_enum (μ1 l) _ _, ⟨⟨_, he⟩, hit, Nat.succ_ne_self _⟩, fun b hb => ?_, s1'.here m1 (enumL_rep hl)⟩
          have hb' : s1.heap.objs.size ≤ b := by
            rcases List.mem_cons.mp hb with rfl | hb
            · exact Nat.le_succ _
            · rw [List.mem_singleton] at hb; rw [hb]; exact Nat.le_refl _
          exact I1.fpOk hb' (HOk.fresh I1.hok hb')
  · exact s1'.elim
end
end TV
end
section
set_option linter.all false
set_option maxRecDepth 100000
set_option maxHeartbeats 2000000
set_option autoImplicit false
namespace TV
open PySem PySem.Spec PyProof.Rows L2

/-! ### [e for x in xs if t] -/
abbrev WF : WX := fun _ _ _ _ => False
def wipeR (ρ : Rho) : List Nat → Rho
  | [] => ρ
  | v :: vs => (wipeR ρ vs).set v none
theorem slots_wipe {K : PySem.W.Frag} {σ : St} {H : Hp} {ρ : Rho} {μ : Nat → Addr} {n : Nat} (s : Slots K σ H ρ μ n) : ∀ vs : List Nat, Slots K (wipe σ vs) H (wipeR ρ vs) μ n
  | [] => s
  | v :: vs => by
    have ih := slots_wipe s vs
    refine ⟨by simp [wipe, wipeR, ih.len], fun j p h => ?_⟩
    unfold wipeR at h
    unfold wipe
    by_cases hj : v = j
    · subst hj
      by_cases hl : v < (wipeR ρ vs).length
      · rw [List.getElem?_set_self hl] at h; cases h
      · rw [List.getElem?_eq_none (by simpa using hl)] at h; cases h
    · rw [List.getElem?_set_ne hj] at h ⊢
      exact ih.at_ j p h
theorem wipe_sub {σ : L2.St} {vs : List Nat} : ∀ us : List Nat, (∀ i ∈ us, i ∈ vs) → wipe (wipe σ us) vs = wipe σ vs
  | [], _ => rfl
  | u :: us, h => by
    show wipe ((wipe σ us).set u none) vs = _
    rw [wipe_set (h u List.mem_cons_self)]
    exact wipe_sub us fun i hi => h i (List.mem_cons_of_mem _ hi)
/-- one turn's item: kept (with its value), left out -/
def lcItem (ft : Rho → Mem → Res Bool) (fe : FE) (D : Nat) (ρ1 : Rho) (M : Mem) (go : Mem → Res P) : Res P := match ft ρ1 M with
  | .ok true M1 => (match fe ρ1 M1 with
    | .ok y M2 => (match M2[D]? with
      | some (.lst acc) => if acc.length < sizeLine then go (M2.set D (.lst (acc ++ [y]))) else .bad
      | _ => .bad)
    | _ => .bad)
  | .ok false M1 => go M1
  | _ => .bad
def lcLoop (guard : Mem → Bool) (gt : FG) (ft : Rho → Mem → Res Bool) (fe : FE) (D : Nat) (ρ : Rho) : List P → Mem → Res P
  | [], M => if guard M = true then .ok (.loc D) M else .bad
  | p :: ps, M => if guard M = true then (match gt p ρ with
    | some ρ1 => lcItem ft fe D ρ1 M (lcLoop guard gt ft fe D ρ ps)
    | none => .bad) else .bad
def eLc (fi : FI) (gt : FG) (ft : Rho → Mem → Res Bool) (fe : FE) (own : List Nat) : FE := fun ρ M => (fi ρ M).bind fun I M1 => lcLoop I.guard gt ft fe M1.length (wipeR ρ own) I.items (M1 ++ [.lst []])
def tYesF : Rho → Mem → Res Bool := fun _ M => .ok true M
abbrev QTs (X : Cx) (W : WX) (ifs : List Expr) (f : Rho → Mem → Res Bool) : Prop := PTs X ifs (sem X.K X.w X.mg RB W f)
theorem PTs_weak {X : Cx} {e : List Expr} {t t' : TT} (h : PTs X e t) (hi : ∀ σ H Q, t' σ H Q → t σ H Q) : PTs X e t' := ⟨fun pins s σ H Q I q => h.run pins s σ H Q I (hi σ H Q q)⟩
theorem q_ifs0 {X : Cx} {W : WX} : QTs X W [] tYesF := PTs_weak pts_nil fun σ H Q ⟨ρ, M, μ, rep, s⟩ => s.here rep.mem rfl
theorem q_ifs1 {X : Cx} {W : WX} {c : Expr} {ft : Rho → Mem → Res Bool} (h : QT X W c ft) : QTs X W [c] ft := pts_one h
theorem lc_sem {X : Cx} {W : WX} {fi : FI} {g : TG} {gt : FG} {is own : List Nat} {ft : Rho → Mem → Res Bool} {fe : FE} (ht : TgOk X.K g gt is) (hin : ∀ i ∈ is, i ∈ own) {σ : L2.St} {H : Hp} {Q : VK}
    (h : sem X.K X.w X.mg (Tr X.K) W (eLc fi gt ft fe own) σ H Q) : tLc (sem X.K X.w X.mg (RI X.K X.w) W fi) g (sem X.K X.w X.mg RB WF ft) (sem X.K X.w X.mg (Tr X.K) WF fe) own σ H Q := by
  obtain ⟨ρ, M, μ, rep, s⟩ := h
  refine ⟨ρ, M, μ, rep, (Sat.bind (R := RI X.K X.w) s).imp fun J H1 ⟨I, M1, μ1, _, e1, m1, hJ, s1⟩ => ?_⟩
  intro Da hD
  have hJ : ItRep X.K X.w H1 μ1 M1.length J I := hJ
  have sl1 := slots_wipe (rep.slots.mono e1) own
  have ex1 : Ext X.K H1 μ1 M1.length (upd H1 Da (.lst [])) (put μ1 M1.length Da) (M1.length + 1) := ext_new hD
  have mem1 : MemRep X.K X.w (upd H1 Da (.lst [])) (M1 ++ [.lst []]) (put μ1 M1.length Da) := m1.alloc hD (.lst upd_same .nil)
  have hlen1 : (M1 ++ [MO.lst []]).length = M1.length + 1 := by simp
  let W' : Nat → Nat → Hp → Prop := fun i m H => m = I.items.length - i ∧ i ≤ I.items.length ∧ ∃ M μ, MemRep X.K X.w H M μ ∧ Ext X.K H1 μ1 M1.length H μ M.length ∧ μ M1.length = Da ∧ M1.length < M.length ∧ Sat X.K X.w X.mg (Tr X.K) W σ H μ M.length Q (lcLoop I.guard gt ft fe M1.length (wipeR ρ own) (I.items.drop i) M)
  refine ⟨W', ⟨_, rfl, Nat.zero_le _, M1 ++ [.lst []], put μ1 M1.length Da, mem1, by rw [hlen1]; exact ex1, put_at, by rw [hlen1]; exact Nat.lt_succ_self _, ?_⟩, ?_⟩
  · have s1 : Sat X.K X.w X.mg (Tr X.K) W σ H1 μ1 M1.length Q (lcLoop I.guard gt ft fe M1.length (wipeR ρ own) I.items (M1 ++ [.lst []])) := s1
    have s2 := s1.ext ex1
    rw [← hlen1] at s2
    exact s2
  · rintro i m H ⟨rfl, hi, M, μ, mm, e, hD', hlt, s⟩
    cases q : I.items.drop i with
    | nil =>
      rw [q] at s
      have hl : I.items.length ≤ i := by simpa using q
      have s : Sat X.K X.w X.mg (Tr X.K) W σ H μ M.length Q (if I.guard M = true then .ok (.loc M1.length) M else .bad) := s
      by_cases gd : I.guard M = true
      · rw [if_pos gd] at s
        refine .inl ⟨(hJ i H M μ e mm gd).2 (Nat.le_antisymm hl hi), ?_⟩
        rw [← hD']
        exact s.here mm (.loc hlt)
      · rw [if_neg gd] at s; exact s.elim
    | cons p ps =>
      rw [q] at s
      have hlt' : i < I.items.length := by
        rcases Nat.lt_or_ge i I.items.length with h | h
        · exact h
        · rw [List.drop_eq_nil_of_le h] at q; cases q
      have hat : I.items[i]? = some p := by
        have z : (I.items.drop i)[0]? = some p := by rw [q]; rfl
        rwa [List.getElem?_drop, Nat.add_zero] at z
      have hdr : I.items.drop (i + 1) = ps := by
        have z : (I.items.drop i).tail = ps := by rw [q]; rfl
        rwa [List.tail_drop] at z
      have s : Sat X.K X.w X.mg (Tr X.K) W σ H μ M.length Q (if I.guard M = true then (match gt p (wipeR ρ own) with | some ρ1 => lcItem ft fe M1.length ρ1 M (lcLoop I.guard gt ft fe M1.length (wipeR ρ own) ps) | none => .bad) else .bad) := s
      by_cases gd : I.guard M = true
      · rw [if_pos gd] at s
        cases qg : gt p (wipeR ρ own) with
        | none => rw [qg] at s; exact s.elim
        | some ρ1 =>
          rw [qg] at s
          have s : Sat X.K X.w X.mg (Tr X.K) W σ H μ M.length Q (lcItem ft fe M1.length ρ1 M (lcLoop I.guard gt ft fe M1.length (wipeR ρ own) ps)) := s
          obtain ⟨go, yl⟩ := (hJ i H M μ e mm gd).1 p hat
          refine .inr ⟨go, fun H' => ∃ M μ, MemRep X.K X.w H' M μ ∧ Ext X.K H1 μ1 M1.length H' μ M.length ∧ μ M1.length = Da ∧ M1.length < M.length ∧ Sat X.K X.w X.mg (Tr X.K) W σ H' μ M.length Q (lcLoop I.guard gt ft fe M1.length (wipeR ρ own) ps M), fun H' ⟨M', μ', a1, a2, a3, a4, a5⟩ => ⟨_, by omega, rfl, by omega, M', μ', a1, a2, a3, a4, by rw [hdr]; exact a5⟩, fun x H' y => ?_⟩
          obtain ⟨e2, m2, t2⟩ := yl x H' y
          refine ht (sl1.mono (e.trans e2)) t2 qg fun σ2 sl2 hw => ⟨(hw own hin).trans (wipe_sub own fun _ h => h), ρ1, M, μ, ⟨sl2, m2⟩, ?_⟩
          have s := s.ext e2
          unfold lcItem at s
          cases qt : ft ρ1 M with
          | bad => rw [qt] at s; exact s.elim
          | exc c fs M' => rw [qt] at s; exact s.elim
          | ok b M3 =>
            rw [qt] at s
            intro v H3 μ3 e3 m3 hv
            have hv : b = v := hv
            subst hv
            cases b with
            | false => exact iteF ⟨M3, μ3, m3, (e.trans e2).trans e3, by rw [e3.same _ hlt]; exact hD', Nat.lt_of_lt_of_le hlt e3.le, Sat.ext s e3⟩
            | true =>
              refine iteT ⟨ρ1, M3, μ3, ⟨sl2.mono e3, m3⟩, ?_⟩
              have s := Sat.ext s e3
              dsimp only at s
              cases qe : fe ρ1 M3 with
              | bad => rw [qe] at s; exact s.elim
              | exc c fs M' => rw [qe] at s; exact s.elim
              | ok y M4 =>
                rw [qe] at s
                intro v4 H4 μ4 e4 m4 t4
                have s := Sat.ext s e4
                dsimp only at s
                have hlt4 : M1.length < M4.length := Nat.lt_of_lt_of_le (Nat.lt_of_lt_of_le hlt e3.le) e4.le
                have hD4 : μ4 M1.length = Da := by rw [e4.same _ (Nat.lt_of_lt_of_le hlt e3.le), e3.same _ hlt]; exact hD'
                cases qd : M4[M1.length]? with
                | none => rw [qd] at s; exact s.elim
                | some ob =>
                  rw [qd] at s
                  cases ob with
                  | lst acc =>
                    dsimp only at s
                    by_cases hz : acc.length < sizeLine
                    · rw [if_pos hz] at s
                      obtain ⟨vs, sq, ts, hv⟩ := (m4.at_ _ _ qd).sqL
                      have mu : Mut (H4 (μ4 M1.length)) := by rw [hv]; trivial
                      have tn := ts.append (.cons t4 .nil)
                      obtain ⟨m5, e5⟩ := m4.write (O := .lst (vs ++ [v4])) (o' := .lst (acc ++ [y])) qd rfl rfl (.lst upd_same (tn.mono (ext_upd (.inl mu))))
                      rw [hD4] at hv m5 e5
                      refine ⟨vs, hv, by rw [← ts.length]; exact hz, _, μ4, m5, (((e.trans e2).trans e3).trans e4).trans e5, hD4, by rw [List.length_set]; exact hlt4, Sat.ext s e5⟩
                    · rw [if_neg hz] at s; exact s.elim
                  | _ => exact s.elim
      · rw [if_neg gd] at s; exact s.elim
section
variable {X : Cx} {W : WX} {elt tg iter : Expr} {ifs : List Expr} {scope : Scope} {own : List (Str × Nat)} {pos : Pos} {fi : FI} {g : TG} {gt : FG} {is : List Nat} {ft : Rho → Mem → Res Bool} {fe : FE}
theorem q_lc (hc : X.calm = true) (hN : X.N.Nodup) (hi : QI X W tg iter fi) (ok : BlkOk X.N X.env.scope scope own) (ht : TgOk X.K g gt is) (hin : ∀ i ∈ is, i ∈ own.map (·.2))
    (hg : ∀ (s : Shared) (H : Hp) (C : Addr) (cl : List (Str × Addr)) (fp : List Addr), PG (X.blk s H scope (compEnvC scope cl C X.env) fp) tg g)
    (hb : ∀ (s : Shared) (H : Hp) (C : Addr) (cl : List (Str × Addr)) (fp : List Addr), QTs (X.blk s H scope (compEnvC scope cl C X.env) fp) WF ifs ft)
    (he : ∀ (s : Shared) (H : Hp) (C : Addr) (cl : List (Str × Addr)) (fp : List Addr), QE (X.blk s H scope (compEnvC scope cl C X.env) fp) WF elt fe)
    (hs : ∀ x : Value, foldedSetIterable iter X.env x = pure x := by intro _; rfl) : QE X W (.ListComp elt [⟨tg, iter, ifs, 0⟩] scope pos) (eLc fi gt ft fe (own.map (·.2))) :=
  PE_weak (pe_lc hc hN hi ok hg hb he hs) fun σ H Q h => lc_sem ht hin h
theorem q_setLc {i : Nat} {y : Str} {py spos : Pos} (hc : X.calm = true) (hN : X.N.Nodup) (hy : X.N[i]? = some y) (hl : X.env.scope.names.lookup y = some .local) (hsw : swapsWith (.ListComp elt [⟨tg, iter, ifs, 0⟩] scope pos) (some (.Name y py)) spos.line X.env = pure true)
    (hi : QI X W tg iter fi) (ok : BlkOk X.N X.env.scope scope own) (ht : TgOk X.K g gt is) (hin : ∀ i ∈ is, i ∈ own.map (·.2))
    (hg : ∀ (s : Shared) (H : Hp) (C : Addr) (cl : List (Str × Addr)) (fp : List Addr), PG (X.blk s H scope (compEnvC scope cl C X.env) fp) tg g)
    (hb : ∀ (s : Shared) (H : Hp) (C : Addr) (cl : List (Str × Addr)) (fp : List Addr), QTs (X.blk s H scope (compEnvC scope cl C X.env) fp) WF ifs ft)
    (he : ∀ (s : Shared) (H : Hp) (C : Addr) (cl : List (Str × Addr)) (fp : List Addr), QE (X.blk s H scope (compEnvC scope cl C X.env) fp) WF elt fe)
    (hs : ∀ x : Value, foldedSetIterable iter X.env x = pure x := by intro _; rfl) : QS X W (.Assign [.Name y py] (.ListComp elt [⟨tg, iter, ifs, 0⟩] scope pos) spos) (sAsg (eLc fi gt ft fe (own.map (·.2))) (gName i)) := by
  refine PS_weak (ps_setLc (tt := sem X.K X.w X.mg RB WF ft) (te := sem X.K X.w X.mg (Tr X.K) WF fe) hc hN hy hl hsw hi ok hg hb he hs) fun D σ H ⟨ρ, M, μ, rep, s⟩ => ?_
  refine lc_sem (Q := fun v H1 => D.nx (σ.set i (some v)) H1) ht hin ⟨ρ, M, μ, rep, (SatS.bind rep s).imp fun v H1 ⟨p, M1, μ1, e, m, t, s1⟩ => ?_⟩
  exact s1 _ H1 μ1 Ext.refl ⟨(rep.mono e m).slots.set t, m⟩
end
end TV
end
section
set_option linter.all false
set_option maxRecDepth 100000
set_option maxHeartbeats 2000000
set_option autoImplicit false
namespace TV
open PySem PySem.Spec PyProof.Rows L2

/-! ### {k: v for x in xs if t}: any way of storing -/
abbrev TSt := Addr → V → V → Hp → (Hp → Prop) → Prop
def tDx (O0 : Addr → HO) (st : TSt) (wi : TI) (g : TG) (tt : TT) (tk tv : TE) (vs : List Nat) : TE := fun σ H Q => wi σ H fun J H1 => ∀ D, H1 D = none → (D == sysModules) = false → ∃ W : Nat → Nat → Hp → Prop, (∃ m, W 0 m (upd H1 D (O0 D))) ∧
  ∀ i m H, W i m H → (J.stop i H ∧ Q (.ref D) H) ∨ (J.go i H ∧ ∃ Nx : Hp → Prop, (∀ H', Nx H' → ∃ m', m' < m ∧ W (i + 1) m' H') ∧
    ∀ x H', J.yld i H x H' → g x (wipe σ vs) H' fun σ2 H2 => wipe σ2 vs = wipe σ vs ∧ tt σ2 H2 fun b H3 => if b = true then tk σ2 H3 fun y H4 => tv σ2 H4 fun z H5 => st D y z H5 Nx else Nx H3)
/-- the model's way of storing -/
def StOk (X : Cx) (st : TSt) : Prop := ∀ (pins : List (Addr × Obj)) (s : Shared) (σ : L2.St) (H : Hp) (D : Addr) (y z : V) (kv vv : Value) (Q : Hp → Prop) (E : Value → Shared → Prop), Inv X pins σ H s → RelV y kv → RelV z vv → st D y z H Q → wpAny (model X.prog X.w) X.A (dictSet D kv vv) (fun _ s' => ∃ H', Inv X pins σ H' s' ∧ Q H') E s
theorem pe_dx {X : Cx} {kx vx tg iter : Expr} {ifs : List Expr} {scope : Scope} {own : List (Str × Nat)} {pos : Pos} {wi : TI} {g : TG} {tt : TT} {tk tv : TE} {O0 : Addr → HO} {st : TSt} (hc : X.calm = true) (hN : X.N.Nodup) (hi : PI X tg iter wi) (ok : BlkOk X.N X.env.scope scope own)
    (hO : ∀ (H : Hp) (h : Heap), sysModules < h.objs.size → ObjOk X.prog X.w (upd H h.objs.size (O0 h.objs.size)) (h.push { cls := .type "dict", data := .dict #[] }) h.objs.size (O0 h.objs.size))
    (hst : ∀ (s : Shared) (H : Hp) (C : Addr) (cl : List (Str × Addr)) (fp : List Addr), StOk (X.blk s H scope (compEnvC scope cl C X.env) fp) st)
    (hg : ∀ (s : Shared) (H : Hp) (C : Addr) (cl : List (Str × Addr)) (fp : List Addr), PG (X.blk s H scope (compEnvC scope cl C X.env) fp) tg g)
    (ht : ∀ (s : Shared) (H : Hp) (C : Addr) (cl : List (Str × Addr)) (fp : List Addr), PTs (X.blk s H scope (compEnvC scope cl C X.env) fp) ifs tt)
    (hk : ∀ (s : Shared) (H : Hp) (C : Addr) (cl : List (Str × Addr)) (fp : List Addr), PE (X.blk s H scope (compEnvC scope cl C X.env) fp) kx tk)
    (he : ∀ (s : Shared) (H : Hp) (C : Addr) (cl : List (Str × Addr)) (fp : List Addr), PE (X.blk s H scope (compEnvC scope cl C X.env) fp) vx tv)
    (hs : ∀ x : Value, foldedSetIterable iter X.env x = pure x := by intro _; rfl) : PE X (.DictComp kx vx [⟨tg, iter, ifs, 0⟩] scope pos) (tDx O0 st wi g tt tk tv (own.map (·.2))) := by
  refine ⟨fun pins s σ H Q I h => ?_⟩
  rw [arm_eval_DictComp]
  have hfree : ∀ y ∈ scope.names, y.2 = .free → ∃ c, X.env.cells.lookup y.1 = some c := fun y hy e => by
    rcases ok.free y hy e with k | k
    · exact I.ok.has y.1 (.inl k)
    · exact I.ok.has y.1 (.inr k)
  refine wpAny_comprehension_free rfl hs (closure_ok hfree) ok.kind (fun y hy e => by rw [ok.uniq y hy, e]) ?_
  refine thn (hi.run pins s σ H _ I h) fun xv s1 hx => thn hx fun itv s2 h2 => ?_
  obtain ⟨it, fp, tn, J, H2, rfl, I2, T, st2, f2, q⟩ := h2
  refine wpAny_newObj_type (data := .dict #[]) (newEnv_comp ?_) (hd := by show (#[] : Array DictEntry).size ≤ _; exact Nat.zero_le _)
  have hDn := HOk.fresh I2.hok (Nat.le_refl s2.heap.objs.size)
  have hsys : (s2.heap.objs.size == sysModules) = false := by
    rw [beq_eq_false_iff_ne]
    exact fun z => Nat.lt_irrefl _ (z ▸ I2.big)
  obtain ⟨W, ⟨m0, w0⟩, turn⟩ := q s2.heap.objs.size hDn hsys
  generalize hs3 : ({ s2 with heap := s2.heap.push { cls := .type "dict", data := .dict #[] } } : Shared) = s3
  have h3 : s3.heap = s2.heap.push { cls := .type "dict", data := .dict #[] } := by rw [← hs3]
  have I3 : Inv X pins σ (upd H2 s2.heap.objs.size (O0 s2.heap.objs.size)) s3 := by
    rw [← hs3]
    exact I2.laid (t' := s2.toks) (fun b o e => Heap.get?_push_of_some _ e) (Nat.le_refl _) (hO H2 s2.heap I2.big)
  have f3 : ∀ b ∈ fp, FpOk X pins (upd H2 s2.heap.objs.size (O0 s2.heap.objs.size)) b ∧ b < s3.heap.objs.size := fun b hb => by
    obtain ⟨o, e, _⟩ := T.obj 0 s2.heap st2 b hb
    have hlt := Heap.lt_size e
    exact ⟨⟨by rw [upd_ne (Nat.ne_of_lt hlt)]; exact (f2 b hb).1, (f2 b hb).2⟩, by rw [h3, Heap.size_push]; exact Nat.lt_succ_of_lt hlt⟩
  have st3 : tn 0 s3.heap := T.keep 0 s2.heap s3.heap st2 fun b _ o e => by rw [h3]; exact Heap.get?_push_of_some _ e
  have I4 := block_start I3 ok hN f3
  have pg := hg s3 (upd H2 s2.heap.objs.size (O0 s2.heap.objs.size)) s3.heap.objs.size (cellsFrom (s3.heap.objs.size + 1) scope.names (cloFrom X.env.cells scope.names [])) fp
  have pt := ht s3 (upd H2 s2.heap.objs.size (O0 s2.heap.objs.size)) s3.heap.objs.size (cellsFrom (s3.heap.objs.size + 1) scope.names (cloFrom X.env.cells scope.names [])) fp
  have pk := hk s3 (upd H2 s2.heap.objs.size (O0 s2.heap.objs.size)) s3.heap.objs.size (cellsFrom (s3.heap.objs.size + 1) scope.names (cloFrom X.env.cells scope.names [])) fp
  have pe := he s3 (upd H2 s2.heap.objs.size (O0 s2.heap.objs.size)) s3.heap.objs.size (cellsFrom (s3.heap.objs.size + 1) scope.names (cloFrom X.env.cells scope.names [])) fp
  have ps := hst s3 (upd H2 s2.heap.objs.size (O0 s2.heap.objs.size)) s3.heap.objs.size (cellsFrom (s3.heap.objs.size + 1) scope.names (cloFrom X.env.cells scope.names [])) fp
  generalize hs4 : ({ s3 with heap := pushCells (s3.heap.push { cls := .type "dict", data := .dict #[] }) scope.names } : Shared) = s4 at I4
  have st4 : tn 0 s4.heap := T.keep 0 s3.heap s4.heap st3 fun b _ o e => by rw [← hs4]; exact pushCells_keeps scope.names _ b o (Heap.get?_push_of_some _ e)
  have loc4 : (compEnvC scope (cellsFrom (s3.heap.objs.size + 1) scope.names (cloFrom X.env.cells scope.names [])) s3.heap.objs.size X.env).locals = s3.heap.objs.size := rfl
  have stat : ∀ {σ' : L2.St} {H' : Hp} {s' : Shared}, Inv (X.blk s3 (upd H2 s2.heap.objs.size (O0 s2.heap.objs.size)) scope (compEnvC scope (cellsFrom (s3.heap.objs.size + 1) scope.names (cloFrom X.env.cells scope.names [])) s3.heap.objs.size X.env) fp) [] σ' H' s' → (∀ b ∈ fp, H' b = none) → ∀ b ∈ fp, FpOk (X.blk s3 (upd H2 s2.heap.objs.size (O0 s2.heap.objs.size)) scope (compEnvC scope (cellsFrom (s3.heap.objs.size + 1) scope.names (cloFrom X.env.cells scope.names [])) s3.heap.objs.size X.env) fp) [] H' b :=
    fun I' hn b hb => ⟨hn b hb, (I'.ok.exf b hb).1, I'.ok.exfs b hb, .inl hb, fun x c e => (I'.ok.exf b hb).2 x c e, fun p hp => by simp at hp⟩
  have loop := compLoop_anyD (prog := X.prog) (w := X.w) (A := X.A) (R := compPost (model X.prog X.w) X.A X.xe none (EP X pins σ Q) (.ref s2.heap.objs.size) s3.heap.objs.size) (s := s4) (kx := kx) (vx := vx) (target := tg) (iter := iter) (ifs := ifs) (scope := scope) (pos := pos) (it := .ref it) (D := s2.heap.objs.size)
    (env := compEnvC scope (cellsFrom (s3.heap.objs.size + 1) scope.names (cloFrom X.env.cells scope.names [])) s3.heap.objs.size X.env)
    (fun n s' => ∃ i H', Inv (X.blk s3 (upd H2 s2.heap.objs.size (O0 s2.heap.objs.size)) scope (compEnvC scope (cellsFrom (s3.heap.objs.size + 1) scope.names (cloFrom X.env.cells scope.names [])) s3.heap.objs.size X.env) fp) [] (wipe σ (own.map (·.2))) H' s' ∧ tn i s'.heap ∧ (∀ b ∈ fp, H' b = none) ∧ W i n H') ?_ m0 ⟨0, _, I4, st4, fun b hb => (f3 b hb).1.1, w0⟩
  · exact codeAny_compStart_dict loop (T.self X.A 0 s4 _ _ st4 loop)
  · rintro n s5 ⟨i, H5, I5, st5, n5, w5⟩
    rcases turn i n H5 w5 with ⟨stop, qq⟩ | ⟨go, Nx, hNx, step⟩
    · refine thnF (T.done (X.blk s3 (upd H2 s2.heap.objs.size (O0 s2.heap.objs.size)) scope (compEnvC scope (cellsFrom (s3.heap.objs.size + 1) scope.names (cloFrom X.env.cells scope.names [])) s3.heap.objs.size X.env) fp) rfl rfl rfl hc i [] s5 _ H5 (fun _ _ => False) I5 (stat I5 n5) st5 stop) ?_
      rintro r s6 ⟨rfl, I6⟩
      have I7 : Inv X pins σ H5 s6 := Inv.call' I3 I6.os I6.base I6.hok I6.bare fun b hb => ⟨(f3 b hb).1.2.2.2.1, (f3 b hb).1.2.1, (f3 b hb).1.2.2.2.2.1, (f3 b hb).1.2.2.2.2.2⟩
      have nC : H5 s3.heap.objs.size = none := I6.free
      obtain ⟨m, hn, _⟩ := I6.loc
      obtain ⟨g0, g1, g2, g3, g4, g5⟩ := I3.fpOk (Nat.le_refl s3.heap.objs.size) nC
      exact ⟨m, hn, fun h' sb => ⟨.ref s2.heap.objs.size, H5, I7.turned (fun b o hb e => (sb.2 b hb).trans e) g0 g1 g3 g4 g5, rfl, qq⟩⟩
    · refine thnF (T.item (X.blk s3 (upd H2 s2.heap.objs.size (O0 s2.heap.objs.size)) scope (compEnvC scope (cellsFrom (s3.heap.objs.size + 1) scope.names (cloFrom X.env.cells scope.names [])) s3.heap.objs.size X.env) fp) rfl rfl rfl hc i [] s5 _ H5 (fun _ _ => False) I5 (stat I5 n5) st5 go) ?_
      rintro r s6 ⟨u, rfl, h6⟩
      refine thnF h6 ?_
      rintro _ s7 ⟨x, H7, I7, r7, y7, st7, n7⟩
      have I7' := Inv.pinned I7 (stat I7 n7) (T.obj (i + 1) s7.heap st7)
      refine thnF (pg.run _ s7 _ H7 x u _ I7' r7 (step x H7 y7)) ?_
      rintro _ s8 ⟨σ8, H8, I8, hw8, q8⟩
      refine thnF (pt.run _ s8 σ8 H8 _ I8 q8) ?_
      rintro b s9 ⟨H9, I9, q9⟩
      have fin : ∀ {s' : Shared} {H' : Hp}, Inv (X.blk s3 (upd H2 s2.heap.objs.size (O0 s2.heap.objs.size)) scope (compEnvC scope (cellsFrom (s3.heap.objs.size + 1) scope.names (cloFrom X.env.cells scope.names [])) s3.heap.objs.size X.env) fp) ([] ++ pinsAt fp s7.heap) σ8 H' s' → Nx H' →
          ∃ m, m < n ∧ ∃ i H', Inv (X.blk s3 (upd H2 s2.heap.objs.size (O0 s2.heap.objs.size)) scope (compEnvC scope (cellsFrom (s3.heap.objs.size + 1) scope.names (cloFrom X.env.cells scope.names [])) s3.heap.objs.size X.env) fp) [] (wipe σ (own.map (·.2))) H' s' ∧ tn i s'.heap ∧ (∀ b ∈ fp, H' b = none) ∧ W i m H' := by
        intro s' H' I' nx
        obtain ⟨m', hm, w'⟩ := hNx H' nx
        have pin' : ∀ b ∈ fp, ∀ o, s7.heap.get? b = some o → s'.heap.get? b = some o ∧ H' b = none := fun b hb o e =>
          let z := I'.pin (b, o) (List.mem_append_right _ (List.mem_append_right _ (mem_pinsAt hb e)))
          ⟨z.1, z.2.1⟩
        have hl : (wipe σ (own.map (·.2))).length = σ8.length := by rw [← hw8, wipe_length]
        refine ⟨m', hm, i + 1, H', (Inv.unpinned I').weak hl fun j v e => (wipe_some (by rw [hw8]; exact e)).1, T.keep (i + 1) s7.heap s'.heap st7 fun b hb o e => (pin' b hb o e).1, fun b hb => ?_, w'⟩
        obtain ⟨o, e, _⟩ := T.obj (i + 1) s7.heap st7 b hb
        exact (pin' b hb o e).2
      cases b with
      | false => exact iteF (fin I9 (by simpa using q9))
      | true =>
        refine iteT (thnF (pk.run _ s9 σ8 H9 _ I9 (by simpa using q9)) ?_)
        rintro kv s10 ⟨y, H10, I10, r10, q10⟩
        refine thnF (pe.run _ s10 σ8 H10 _ I10 q10) ?_
        rintro vv s11 ⟨z, H11, I11, r11, q11⟩
        refine thn (ps _ s11 σ8 H11 _ y z kv vv Nx _ I11 r10 r11 q11) ?_
        rintro _ s12 ⟨H12, I12, q12⟩
        exact fin I12 q12
/-! ### the same with the cells -/
def dcItem (ft : Rho → Mem → Res Bool) (fk fv : FE) (D : Nat) (ρ1 : Rho) (M : Mem) (go : Mem → Res P) : Res P := match ft ρ1 M with
  | .ok true M1 => (match fk ρ1 M1 with
    | .ok k M2 => (match fv ρ1 M2 with
      | .ok v M3 => (match M3[D]?, keyOf k with
        | some (.dct kvs), some nk => if nk.depth ≤ 8 ∧ kvs.length < sizeLine then go (M3.set D (.dct (putK kvs nk k v))) else .bad
        | _, _ => .bad)
      | _ => .bad)
    | _ => .bad)
  | .ok false M1 => go M1
  | _ => .bad
def dcLoop (guard : Mem → Bool) (gt : FG) (ft : Rho → Mem → Res Bool) (fk fv : FE) (D : Nat) (ρ : Rho) : List P → Mem → Res P
  | [], M => if guard M = true then .ok (.loc D) M else .bad
  | p :: ps, M => if guard M = true then (match gt p ρ with
    | some ρ1 => dcItem ft fk fv D ρ1 M (dcLoop guard gt ft fk fv D ρ ps)
    | none => .bad) else .bad
def eDc (fi : FI) (gt : FG) (ft : Rho → Mem → Res Bool) (fk fv : FE) (own : List Nat) : FE := fun ρ M => (fi ρ M).bind fun I M1 => dcLoop I.guard gt ft fk fv M1.length (wipeR ρ own) I.items (M1 ++ [.dct []])
def stM (K : PySem.W.Frag) (w : World) : TSt := fun D y z H Q => ∃ M μ l pk pv kvs k, MemRep K w H M μ ∧ μ l = D ∧ M[l]? = some (.dct kvs) ∧ Tr K H μ M.length pk y ∧ Tr K H μ M.length pv z ∧ keyOf pk = some k ∧ k.depth ≤ 8 ∧ kvs.length < sizeLine ∧ ∀ H', MemRep K w H' (M.set l (.dct (putK kvs k pk pv))) μ → Ext K H μ M.length H' μ (M.set l (.dct (putK kvs k pk pv))).length → Q H'
theorem stM_ok {X : Cx} (hu : X.A.units + 8 < cLine) : StOk X (stM X.K X.w) := by
  rintro pins s σ H D y z kv vv Q E I ry rz ⟨M, μ, l, pk, pv, kvs, k, m, rfl, el, t1, t2, ek, hd, hz, q⟩
  exact dset_any hu I m el t1 ry ek hd hz t2 rz fun H' s' I' m' e' => ⟨H', I', q H' m' e'⟩
def newD (D : Addr) : HO := .ext (DctAt D [] [])
theorem newD_ok {P₀ : Program} {w : World} (H : Hp) (h : Heap) : ObjOk P₀ w (upd H h.objs.size (newD h.objs.size)) (h.push { cls := .type "dict", data := .dict #[] }) h.objs.size (newD h.objs.size) :=
  ⟨⟨_, #[], Heap.get?_push_size h rfl, ⟨rfl, rfl, rfl⟩, rfl, .nil, rfl⟩, ⟨_, Heap.get?_push_size h rfl⟩, fun h1 h2 a b => dctAt_keep a b⟩
theorem newD_rep {K : PySem.W.Frag} {w : World} {H : Hp} {μ : Nat → Addr} {n : Nat} {D : Addr} (sys : (D == sysModules) = false) : MRep K w (upd H D (newD D)) μ n D (.dct []) :=
  .dct (ks := []) (vs := []) (nk := []) upd_same .nil .nil rfl List.nodup_nil (fun _ h => nomatch h) (Nat.zero_le _) sys
theorem dc_sem {X : Cx} {W : WX} {fi : FI} {g : TG} {gt : FG} {is own : List Nat} {ft : Rho → Mem → Res Bool} {fk fv : FE} (ht : TgOk X.K g gt is) (hin : ∀ i ∈ is, i ∈ own) {σ : L2.St} {H : Hp} {Q : VK}
    (h : sem X.K X.w X.mg (Tr X.K) W (eDc fi gt ft fk fv own) σ H Q) : tDx newD (stM X.K X.w) (sem X.K X.w X.mg (RI X.K X.w) W fi) g (sem X.K X.w X.mg RB WF ft) (sem X.K X.w X.mg (Tr X.K) WF fk) (sem X.K X.w X.mg (Tr X.K) WF fv) own σ H Q := by
  obtain ⟨ρ, M, μ, rep, s⟩ := h
  refine ⟨ρ, M, μ, rep, (Sat.bind (R := RI X.K X.w) s).imp fun J H1 ⟨I, M1, μ1, _, e1, m1, hJ, s1⟩ => ?_⟩
  intro Da hD sys
  have hJ : ItRep X.K X.w H1 μ1 M1.length J I := hJ
  have sl1 := slots_wipe (rep.slots.mono e1) own
  have ex1 : Ext X.K H1 μ1 M1.length (upd H1 Da (newD Da)) (put μ1 M1.length Da) (M1.length + 1) := ext_new hD
  have mem1 : MemRep X.K X.w (upd H1 Da (newD Da)) (M1 ++ [.dct []]) (put μ1 M1.length Da) := m1.alloc hD (newD_rep sys)
  have hlen1 : (M1 ++ [MO.dct []]).length = M1.length + 1 := by simp
  let W' : Nat → Nat → Hp → Prop := fun i m H => m = I.items.length - i ∧ i ≤ I.items.length ∧ ∃ M μ, MemRep X.K X.w H M μ ∧ Ext X.K H1 μ1 M1.length H μ M.length ∧ μ M1.length = Da ∧ M1.length < M.length ∧ Sat X.K X.w X.mg (Tr X.K) W σ H μ M.length Q (dcLoop I.guard gt ft fk fv M1.length (wipeR ρ own) (I.items.drop i) M)
  refine ⟨W', ⟨_, rfl, Nat.zero_le _, M1 ++ [.dct []], put μ1 M1.length Da, mem1, by rw [hlen1]; exact ex1, put_at, by rw [hlen1]; exact Nat.lt_succ_self _, ?_⟩, ?_⟩
  · have s1 : Sat X.K X.w X.mg (Tr X.K) W σ H1 μ1 M1.length Q (dcLoop I.guard gt ft fk fv M1.length (wipeR ρ own) I.items (M1 ++ [.dct []])) := s1
    have s2 := s1.ext ex1
    rw [← hlen1] at s2
    exact s2
  · rintro i m H ⟨rfl, hi, M, μ, mm, e, hD', hlt, s⟩
    cases q : I.items.drop i with
    | nil =>
      rw [q] at s
      have hl : I.items.length ≤ i := by simpa using q
      have s : Sat X.K X.w X.mg (Tr X.K) W σ H μ M.length Q (if I.guard M = true then .ok (.loc M1.length) M else .bad) := s
      by_cases gd : I.guard M = true
      · rw [if_pos gd] at s
        refine .inl ⟨(hJ i H M μ e mm gd).2 (Nat.le_antisymm hl hi), ?_⟩
        rw [← hD']
        exact s.here mm (.loc hlt)
      · rw [if_neg gd] at s; exact s.elim
    | cons p ps =>
      rw [q] at s
      have hlt' : i < I.items.length := by
        rcases Nat.lt_or_ge i I.items.length with h | h
        · exact h
        · rw [List.drop_eq_nil_of_le h] at q; cases q
      have hat : I.items[i]? = some p := by
        have z : (I.items.drop i)[0]? = some p := by rw [q]; rfl
        rwa [List.getElem?_drop, Nat.add_zero] at z
      have hdr : I.items.drop (i + 1) = ps := by
        have z : (I.items.drop i).tail = ps := by rw [q]; rfl
        rwa [List.tail_drop] at z
      have s : Sat X.K X.w X.mg (Tr X.K) W σ H μ M.length Q (if I.guard M = true then (match gt p (wipeR ρ own) with | some ρ1 => dcItem ft fk fv M1.length ρ1 M (dcLoop I.guard gt ft fk fv M1.length (wipeR ρ own) ps) | none => .bad) else .bad) := s
      by_cases gd : I.guard M = true
      · rw [if_pos gd] at s
        cases qg : gt p (wipeR ρ own) with
        | none => rw [qg] at s; exact s.elim
        | some ρ1 =>
          rw [qg] at s
          have s : Sat X.K X.w X.mg (Tr X.K) W σ H μ M.length Q (dcItem ft fk fv M1.length ρ1 M (dcLoop I.guard gt ft fk fv M1.length (wipeR ρ own) ps)) := s
          obtain ⟨go, yl⟩ := (hJ i H M μ e mm gd).1 p hat
          refine .inr ⟨go, fun H' => ∃ M μ, MemRep X.K X.w H' M μ ∧ Ext X.K H1 μ1 M1.length H' μ M.length ∧ μ M1.length = Da ∧ M1.length < M.length ∧ Sat X.K X.w X.mg (Tr X.K) W σ H' μ M.length Q (dcLoop I.guard gt ft fk fv M1.length (wipeR ρ own) ps M), fun H' ⟨M', μ', a1, a2, a3, a4, a5⟩ => ⟨_, by omega, rfl, by omega, M', μ', a1, a2, a3, a4, by rw [hdr]; exact a5⟩, fun x H' y => ?_⟩
          obtain ⟨e2, m2, t2⟩ := yl x H' y
          refine ht (sl1.mono (e.trans e2)) t2 qg fun σ2 sl2 hw => ⟨(hw own hin).trans (wipe_sub own fun _ h => h), ρ1, M, μ, ⟨sl2, m2⟩, ?_⟩
          have s := s.ext e2
          unfold dcItem at s
          cases qt : ft ρ1 M with
          | bad => rw [qt] at s; exact s.elim
          | exc c fs M' => rw [qt] at s; exact s.elim
          | ok b M3 =>
            rw [qt] at s
            intro v H3 μ3 e3 m3 hv
            have hv : b = v := hv
            subst hv
            cases b with
            | false => exact iteF ⟨M3, μ3, m3, (e.trans e2).trans e3, by rw [e3.same _ hlt]; exact hD', Nat.lt_of_lt_of_le hlt e3.le, Sat.ext s e3⟩
            | true =>
              refine iteT ⟨ρ1, M3, μ3, ⟨sl2.mono e3, m3⟩, ?_⟩
              have s := Sat.ext s e3
              dsimp only at s
              cases qe : fk ρ1 M3 with
              | bad => rw [qe] at s; exact s.elim
              | exc c fs M' => rw [qe] at s; exact s.elim
              | ok y M4 =>
                rw [qe] at s
                intro v4 H4 μ4 e4 m4 t4
                have s := Sat.ext s e4
                dsimp only at s
                refine ⟨ρ1, M4, μ4, ⟨(sl2.mono e3).mono e4, m4⟩, ?_⟩
                cases qv : fv ρ1 M4 with
                | bad => rw [qv] at s; exact s.elim
                | exc c fs M' => rw [qv] at s; exact s.elim
                | ok z M5 =>
                  rw [qv] at s
                  intro v5 H5 μ5 e5 m5 t5
                  have s := Sat.ext s e5
                  dsimp only at s
                  have hlt4 : M1.length < M4.length := Nat.lt_of_lt_of_le (Nat.lt_of_lt_of_le hlt e3.le) e4.le
                  have hlt5 : M1.length < M5.length := Nat.lt_of_lt_of_le hlt4 e5.le
                  have hD5 : μ5 M1.length = Da := by rw [e5.same _ hlt4, e4.same _ (Nat.lt_of_lt_of_le hlt e3.le), e3.same _ hlt]; exact hD'
                  cases qd : M5[M1.length]? with
                  | none => rw [qd] at s; exact s.elim
                  | some ob =>
                    rw [qd] at s
                    cases ob with
                    | dct kvs =>
                      cases qk : keyOf y with
                      | none => rw [qk] at s; exact s.elim
                      | some nk =>
                        rw [qk] at s
                        dsimp only at s
                        by_cases hz : nk.depth ≤ 8 ∧ kvs.length < sizeLine
                        · rw [if_pos hz] at s
                          exact ⟨M5, μ5, M1.length, y, z, kvs, nk, m5, hD5, qd, t4.mono e5, t5, qk, hz.1, hz.2, fun H6 m6 e6 => ⟨_, μ5, m6, ((((e.trans e2).trans e3).trans e4).trans e5).trans e6, hD5, by rw [List.length_set]; exact hlt5, Sat.ext s e6⟩⟩
                        · rw [if_neg hz] at s; exact s.elim
                    | lst _ => exact s.elim
                    | dctL _ => exact s.elim
                    | scr _ => exact s.elim
      · rw [if_neg gd] at s; exact s.elim
section
variable {X : Cx} {W : WX} {kx vx tg iter : Expr} {ifs : List Expr} {scope : Scope} {own : List (Str × Nat)} {pos : Pos} {fi : FI} {g : TG} {gt : FG} {is : List Nat} {ft : Rho → Mem → Res Bool} {fk fv : FE}
theorem q_dc (hu : X.A.units + 8 < cLine) (hc : X.calm = true) (hN : X.N.Nodup) (hi : QI X W tg iter fi) (ok : BlkOk X.N X.env.scope scope own) (ht : TgOk X.K g gt is) (hin : ∀ i ∈ is, i ∈ own.map (·.2))
    (hg : ∀ (s : Shared) (H : Hp) (C : Addr) (cl : List (Str × Addr)) (fp : List Addr), PG (X.blk s H scope (compEnvC scope cl C X.env) fp) tg g)
    (hb : ∀ (s : Shared) (H : Hp) (C : Addr) (cl : List (Str × Addr)) (fp : List Addr), QTs (X.blk s H scope (compEnvC scope cl C X.env) fp) WF ifs ft)
    (hk : ∀ (s : Shared) (H : Hp) (C : Addr) (cl : List (Str × Addr)) (fp : List Addr), QE (X.blk s H scope (compEnvC scope cl C X.env) fp) WF kx fk)
    (hv : ∀ (s : Shared) (H : Hp) (C : Addr) (cl : List (Str × Addr)) (fp : List Addr), QE (X.blk s H scope (compEnvC scope cl C X.env) fp) WF vx fv)
    (hs : ∀ x : Value, foldedSetIterable iter X.env x = pure x := by intro _; rfl) : QE X W (.DictComp kx vx [⟨tg, iter, ifs, 0⟩] scope pos) (eDc fi gt ft fk fv (own.map (·.2))) :=
  PE_weak (pe_dx hc hN hi ok (fun H h _ => newD_ok H h) (fun s H C cl fp => stM_ok (X := X.blk s H scope (compEnvC scope cl C X.env) fp) hu) hg hb hk hv hs) fun σ H Q h => dc_sem ht hin h
end
end TV
end
section
set_option linter.all false
set_option maxRecDepth 100000
set_option maxHeartbeats 2000000
set_option autoImplicit false
namespace TV
open PySem PySem.Spec PyProof.Rows L2

/-! ### many stores -/
def addAll (kvs : List (P × P)) : List (P × P) → Option (List (P × P))
  | [] => some kvs
  | (k, v) :: ps => match keyOf k with
    | some nk => if nk.depth ≤ 8 ∧ kvs.length < sizeLine then addAll (putK kvs nk k v) ps else none
    | none => none
/-- pairs of trees and pairs of values -/
inductive Trp (K : PySem.W.Frag) (H : Hp) (μ : Nat → Addr) (n : Nat) : List (P × P) → List (Value × Value) → Prop
  | nil : Trp K H μ n [] []
  | cons {p q : P} {x y : V} {u v : Value} {ps : List (P × P)} {vs : List (Value × Value)} : Tr K H μ n p x → RelV x u → Tr K H μ n q y → RelV y v → Trp K H μ n ps vs → Trp K H μ n ((p, q) :: ps) ((u, v) :: vs)
theorem Trp.mono {K : PySem.W.Frag} {H H' : Hp} {μ μ' : Nat → Addr} {n n' : Nat} (e : Ext K H μ n H' μ' n') : ∀ {ps : List (P × P)} {vs : List (Value × Value)}, Trp K H μ n ps vs → Trp K H' μ' n' ps vs
  | _, _, .nil => .nil
  | _, _, .cons a b c d t => .cons (a.mono e) b (c.mono e) d (t.mono e)
section
variable {X : Cx} {W : WX} {pins : List (Addr × Obj)} {σ : L2.St} {H : Hp} {s : Shared} {M : Mem} {μ : Nat → Addr} {l : Nat} {kvs kvs' : List (P × P)}
theorem store_all {ps : List (P × P)} {vs : List (Value × Value)} {E : Value → Shared → Prop} {Q : PUnit → Shared → Prop} (hu : X.A.units + 8 < cLine) (I : Inv X pins σ H s) (m : MemRep X.K X.w H M μ) (el : M[l]? = some (.dct kvs)) (t : Trp X.K H μ M.length ps vs) (ha : addAll kvs ps = some kvs')
    (q : ∀ H' s', Inv X pins σ H' s' → MemRep X.K X.w H' (M.set l (.dct kvs')) μ → Ext X.K H μ M.length H' μ (M.set l (.dct kvs')).length → Q PUnit.unit s') : wpAny (model X.prog X.w) X.A (storeAll (μ l) vs) Q E s := by
  unfold storeAll
  have hlt : l < M.length := (List.getElem?_eq_some_iff.mp el).1
  refine wpAny_forIn_list _ (fun left _ s' => ∃ H' ps' kvs1, Inv X pins σ H' s' ∧ MemRep X.K X.w H' (M.set l (.dct kvs1)) μ ∧ Ext X.K H μ M.length H' μ (M.set l (.dct kvs1)).length ∧ Trp X.K H' μ M.length ps' left ∧ addAll kvs1 ps' = some kvs') _ ?_ ?_ _ _ ⟨H, ps, kvs, I, by rw [set_same el]; exact m, by rw [set_same el]; exact Ext.refl, t, ha⟩
  · rintro ⟨u, v⟩ left st s' ⟨H1, ps', kvs1, I1, m1, e1, t1, a1⟩
    cases t1 with
    | @cons p qq x y _ _ ps2 _ tp ru tq rv ts =>
      unfold addAll at a1
      cases ek : keyOf p with
      | none => rw [ek] at a1; cases a1
      | some nk =>
        rw [ek] at a1
        dsimp only at a1
        by_cases h : nk.depth ≤ 8 ∧ kvs1.length < sizeLine
        · rw [if_pos h] at a1
          have hl1 : (M.set l (.dct kvs1)).length = M.length := List.length_set
          have el1 : (M.set l (.dct kvs1))[l]? = some (.dct kvs1) := List.getElem?_set_self hlt
          refine wpAny_bind (dset_any hu I1 m1 el1 (by rw [hl1]; exact tp) ru ek h.1 h.2 (by rw [hl1]; exact tq) rv fun H2 s2 I2 m2 e2 => wpAny_pure ?_)
          rw [List.set_set] at m2 e2
          refine ⟨H2, ps2, _, I2, m2, e1.trans e2, ?_, a1⟩
          have e3 := e2
          rw [hl1, List.length_set] at e3
          exact ts.mono e3
        · rw [if_neg h] at a1; cases a1
  · rintro st s' ⟨H1, ps', kvs1, I1, m1, e1, t1, a1⟩
    cases t1
    cases a1
    exact q H1 s' I1 m1 e1
end
/-! ### {k: v, ..} -/
abbrev FP := Rho → Mem → Res (List (P × P))
def pNil : FP := fun _ M => .ok [] M
def pCons (fk fv : FE) (fr : FP) : FP := fun ρ M => (fk ρ M).bind fun k M1 => (fv ρ M1).bind fun v M2 => (fr ρ M2).bind fun ps M3 => .ok ((k, v) :: ps) M3
def Rps (K : PySem.W.Frag) : Rel (List (P × P)) (List (V × V)) := fun H μ n ps vs => Paired (fun (p : P × P) (v : V × V) => Tr K H μ n p.1 v.1 ∧ Tr K H μ n p.2 v.2) ps vs
def QP (X : Cx) (W : WX) (pos : Pos) (keys : List (Option Expr)) (values : List Expr) (f : FP) : Prop := ∃ trs, PPs X pos keys values trs ∧ ∀ σ H Q, sem X.K X.w X.mg (Rps X.K) W f σ H Q → tPairs trs σ H Q
def eDict (fr : FP) : FE := fun ρ M => (fr ρ (M ++ [.dct []])).bind fun ps M1 => match M1[M.length]? with
  | some (.dct kvs) => match addAll kvs ps with
    | some kvs' => .ok (.loc M.length) (M1.set M.length (.dct kvs'))
    | none => .bad
  | _ => .bad
def eDict0 : FE := fun _ M => .ok (.loc M.length) (M ++ [.dct []])
theorem trp_of {K : PySem.W.Frag} {H : Hp} {μ : Nat → Addr} {n : Nat} : ∀ {ps : List (P × P)} {vs : List (V × V)} {us : List (Value × Value)}, Rps K H μ n ps vs → VV vs us → Trp K H μ n ps us
  | _, _, _, .nil, .nil => .nil
  | _, _, _, .cons a t, .cons b r => .cons a.1 b.1 a.2 b.2 (trp_of t r)
section
variable {X : Cx} {W : WX} {k v : Expr} {fk fv : FE} {fr : FP} {keys : List (Option Expr)} {values : List Expr} {pos : Pos}
theorem q_pnil : QP X W pos [] [] pNil := ⟨[], pps_nil, fun σ H Q ⟨ρ, M, μ, rep, s⟩ => s.here rep.mem (show Rps X.K H μ M.length [] [] from .nil)⟩
theorem q_pcons (hk : QE X W k fk) (hv : QE X W v fv) (hr : QP X W pos keys values fr) : QP X W pos (some k :: keys) (v :: values) (pCons fk fv fr) := by
  obtain ⟨trs, h, hi⟩ := hr
  refine ⟨_, pps_cons hk hv h, fun σ H Q ⟨ρ, M, μ, rep, s⟩ => ?_⟩
  refine ⟨ρ, M, μ, rep, (Sat.bind s).imp fun x H1 ⟨p, M1, μ1, _, e1, m1, t1, s1⟩ => ?_⟩
  have rep1 := rep.mono e1 m1
  refine ⟨ρ, M1, μ1, rep1, (Sat.bind s1).imp fun y H2 ⟨q, M2, μ2, _, e2, m2, t2, s2⟩ => ?_⟩
  refine hi σ H2 _ ⟨ρ, M2, μ2, rep1.mono e2 m2, (Sat.bind (R := Rps X.K) s2).imp fun ps H3 ⟨qs, M3, μ3, _, e3, m3, t3, s3⟩ => ?_⟩
  exact s3.here m3 (show Rps X.K H3 μ3 M3.length _ _ from .cons ⟨(t1.mono e2).mono e3, t2.mono e3⟩ t3)
/-- a new empty dict -/
theorem dict_new {pins : List (Addr × Obj)} {σ : L2.St} {H : Hp} {s : Shared} {M : Mem} {μ : Nat → Addr} (I : Inv X pins σ H s) (m : MemRep X.K X.w H M μ) :
    let D := s.heap.objs.size
    Inv X pins σ (upd H D (newD D)) { s with heap := s.heap.push { cls := .type "dict", data := .dict #[] } } ∧ MemRep X.K X.w (upd H D (newD D)) (M ++ [.dct []]) (put μ M.length D) ∧ Ext X.K H μ M.length (upd H D (newD D)) (put μ M.length D) (M ++ [MO.dct []]).length := by
  intro D
  have hD := HOk.fresh I.hok (Nat.le_refl s.heap.objs.size)
  have sys : (D == sysModules) = false := by
    rw [beq_eq_false_iff_ne]
    exact fun z => Nat.lt_irrefl _ (z ▸ I.big)
  exact ⟨I.laid (t' := s.toks) (fun b o e => Heap.get?_push_of_some _ e) (Nat.le_refl _) (newD_ok H s.heap), m.alloc hD (newD_rep sys), by rw [List.length_append]; exact ext_new hD⟩
theorem q_dict0 : QE X W (.Dict [] [] pos) eDict0 := by
  refine ⟨fun pins s σ H Q I h => ?_⟩
  obtain ⟨ρ, M, μ, rep, sat⟩ := h
  obtain ⟨I1, m1, e1⟩ := dict_new I rep.mem
  refine wpAny_Dict_empty ⟨.ref s.heap.objs.size, _, I1, rfl, ?_⟩
  have z : Tr X.K (upd H s.heap.objs.size (newD s.heap.objs.size)) (put μ M.length s.heap.objs.size) (M ++ [MO.dct []]).length (.loc M.length) (.ref (put μ M.length s.heap.objs.size M.length)) := .loc (by rw [List.length_append]; exact Nat.lt_succ_self _)
  rw [put_at] at z
  exact sat _ _ _ e1 m1 z
theorem q_dict (hu : X.A.units + 8 < cLine) (h : QP X W pos keys values fr) (hall : keys.all (·.isSome) = true) (hl : keys.length = values.length) (h0 : keys ≠ []) (h15 : keys.length ≤ 15) : QE X W (.Dict keys values pos) (eDict fr) := by
  obtain ⟨trs, hp, hi⟩ := h
  refine ⟨fun pins s σ H Q I h => ?_⟩
  obtain ⟨ρ, M, μ, rep, sat⟩ := h
  obtain ⟨I1, m1, e1⟩ := dict_new I rep.mem
  refine wpAny_Dict_any hall hl h0 h15 ?_
  have sat := Sat.ext sat e1
  refine thn (hp.run pins _ σ _ _ I1 (hi σ _ _ ⟨ρ, M ++ [.dct []], _, rep.mono e1 m1, Sat.bind (R := Rps X.K) sat⟩)) ?_
  rintro us s2 ⟨vs, H2, I2, rv, ps, M2, μ2, _, e2, m2, t2, s2'⟩
  have s3 : Sat X.K X.w X.mg (Tr X.K) W σ H2 μ2 M2.length Q (match M2[M.length]? with | some (.dct kvs) => (match addAll kvs ps with | some kvs' => .ok (.loc M.length) (M2.set M.length (.dct kvs')) | none => .bad) | _ => .bad) := s2'
  cases el : M2[M.length]? with
  | none => rw [el] at s3; exact s3.elim
  | some ob =>
    rw [el] at s3
    cases ob with
    | dct kvs =>
      dsimp only at s3
      cases ea : addAll kvs ps with
      | none => rw [ea] at s3; exact s3.elim
      | some kvs' =>
        rw [ea] at s3
        have hmu : μ2 M.length = s.heap.objs.size := by rw [e2.same _ (by simp)]; exact put_at
        rw [← hmu]
        refine store_all hu I2 m2 el (trp_of t2 rv) ea fun H3 s3' I3 m3 e3 => ⟨.ref (μ2 M.length), H3, I3, rfl, s3 _ _ _ e3 m3 (.loc ?_)⟩
        rw [List.length_set]
        exact (List.getElem?_eq_some_iff.mp el).1
    | lst _ => exact s3.elim
    | dctL _ => exact s3.elim
    | scr _ => exact s3.elim
end
end TV
end
section
set_option linter.all false
set_option maxRecDepth 100000
set_option maxHeartbeats 2000000
set_option autoImplicit false
namespace TV
open PySem PySem.Spec PyProof.Rows L2

/-! ### isinstance(x, T) -/
def tyName (p : P) (M : Mem) : Option String := match p with
  | .non => some "NoneType"
  | .bl _ => some "bool"
  | .int _ => some "int"
  | .str _ => some "str"
  | .tup _ => some "tuple"
  | .ty _ => none
  | .loc l => match M[l]? with
    | some (.lst _) => some "list"
    | some (.scr _) => some "list"
    | some (.dct _) => some "dict"
    | some (.dctL _) => some "dict"
    | none => none
def isT (t T : String) : Option Bool := if T ∈ ["bool", "int", "str", "tuple", "list", "dict"] then some (decide (t = T) || (decide (t = "bool") && decide (T = "int"))) else none
def pIsi : OpN := fun ps M => match ps with
  | [x, .ty T] => (match tyName x M with
    | some t => (match isT t T with
      | some b => .ok (.bl b) M
      | none => .bad)
    | none => .bad)
  | _ => .bad
theorem isT_kit (K : PySem.W.Frag) {t T : String} {b : Bool} (ht : t ∈ ["NoneType", "bool", "int", "str", "tuple", "list", "dict"]) (h : isT t T = some b) : PySem.W.kitOne K (.type t) (.type T) = some b := by
  unfold isT at h
  split at h
  · rename_i hT
    cases h
    simp only [List.mem_cons, List.not_mem_nil, or_false] at ht hT
    rcases ht with rfl | rfl | rfl | rfl | rfl | rfl | rfl <;> rcases hT with rfl | rfl | rfl | rfl | rfl | rfl <;> rfl
  · cases h
section
variable {X : Cx} {W : WX}
theorem vals1 {x : V} {us : List Value} (r : Vals [x] us) : ∃ u, us = [u] ∧ RelV x u := by
  cases r with
  | cons a b => cases b; exact ⟨_, rfl, a⟩
theorem vals2 {x y : V} {us : List Value} (r : Vals [x, y] us) : ∃ u v, us = [u, v] ∧ RelV x u ∧ RelV y v := by
  cases r with
  | cons a b => obtain ⟨v, rfl, c⟩ := vals1 b; exact ⟨_, v, rfl, a, c⟩
theorem kit_any {pins : List (Addr × Obj)} {σ : L2.St} {H : Hp} {s : Shared} {M : Mem} {μ : Nat → Addr} {p : P} {x : V} {u : Value} {t : String} (I : Inv X pins σ H s) (r : RelV x u) (m : MemRep X.K X.w H M μ) (tr : Tr X.K H μ M.length p x) (e : tyName p M = some t) :
    t ∈ ["NoneType", "bool", "int", "str", "tuple", "list", "dict"] ∧ ∃ Ph, PySem.W.KitX X.K u (.type t) Ph ∧ Ph s.heap ∧ u ≠ .builtin "__main__.__loader__#opaque" := by
  cases tr with
  | non => cases e; have r : u = _ := r; subst r; exact ⟨by simp, _, PySem.W.kitx_none, trivial, by simp⟩
  | bl b => cases e; have r : u = _ := r; subst r; exact ⟨by simp, _, PySem.W.kitx_bool, trivial, by simp⟩
  | int i => cases e; obtain ⟨_, rfl⟩ := r; exact ⟨by simp, _, PySem.W.kitx_int, trivial, by simp⟩
  | str z => cases e; obtain ⟨_, rfl⟩ := r; exact ⟨by simp, _, PySem.W.kitx_str, trivial, by simp⟩
  | ty _ => cases e
  | @tup a xs ps sq ts =>
    cases e
    have r : u = _ := r
    subst r
    obtain ⟨its, _, ⟨o, ho, hc, _⟩, _⟩ := I.tuple sq
    exact ⟨by simp, _, PySem.W.kitx_tuple, ⟨o, ho, hc⟩, by simp⟩
  | @loc l hl =>
    have r : u = _ := r
    subst r
    unfold tyName at e
    dsimp only at e
    cases el : M[l]? with
    | none => rw [el] at e; cases e
    | some ob =>
      rw [el] at e
      cases ob with
      | lst ys =>
        cases e
        obtain ⟨vs, sq, _⟩ := seqM_sq m (l := l) (xs := ys) (by unfold seqM; rw [el])
        obtain ⟨its, _, ⟨o, n, ho, hc, _⟩, _⟩ := I.list sq
        exact ⟨by simp, _, PySem.W.kitx_list, ⟨o, ho, hc⟩, by simp⟩
      | scr ys =>
        cases e
        obtain ⟨vs, sq, _⟩ := seqM_sq m (l := l) (xs := ys.map P.int) (by unfold seqM; rw [el])
        obtain ⟨its, _, ⟨o, n, ho, hc, _⟩, _⟩ := I.list sq
        exact ⟨by simp, _, PySem.W.kitx_list, ⟨o, ho, hc⟩, by simp⟩
      | dct kvs =>
        cases e
        obtain ⟨nk, ks, vs, es, c⟩ := dcellM I m (l := l) (kvs := kvs) (by unfold dictOfM; rw [el])
        obtain ⟨o, ho, hc, _⟩ := c.x.ex
        exact ⟨by simp, _, PySem.W.kitx_dict, ⟨o, ho, hc.1⟩, by simp⟩
      | dctL kvs =>
        cases e
        obtain ⟨nk, ks, vs, es, c⟩ := dcellM I m (l := l) (kvs := kvs) (by unfold dictOfM; rw [el])
        obtain ⟨o, ho, hc, _⟩ := c.x.ex
        exact ⟨by simp, _, PySem.W.kitx_dict, ⟨o, ho, hc.1⟩, by simp⟩
theorem p_isi : PrimN X W (.builtin "isinstance") pIsi := by
  refine PrimN.of fun pins s σ σ' H xs us Q M μ ps I r m t sat => ?_
  unfold pIsi at sat
  split at sat
  · rename_i p T
    cases e1 : tyName p M with
    | none => rw [e1] at sat; exact sat.elim
    | some tt =>
      rw [e1] at sat
      dsimp only at sat
      cases e2 : isT tt T with
      | none => rw [e2] at sat; exact sat.elim
      | some b =>
        rw [e2] at sat
        obtain ⟨x, y, rfl, tx, ty⟩ := trs2 t
        obtain ⟨u, v, rfl, ru, rv⟩ := vals2 r
        cases ty
        have rv : v = .type T := rv
        subst rv
        obtain ⟨mem, Ph, kx, hp, hne⟩ := kit_any I ru m tx e1
        exact PySem.W.kia_one kx I.kIn hp (isT_kit X.K mem e2) hne fun tk => ⟨.bl b, H, I.tok tk, rfl, sat.here m (.bl b)⟩
  · exact sat.elim
/-! ### len(x) -/
def lenOf (p : P) (M : Mem) : Option Nat := match p with
  | .tup ps => some ps.length
  | .str z => if z.length ≤ sizeLine then some z.length else none
  | .loc l => match M[l]? with
    | some (.lst xs) => some xs.length
    | some (.scr ns) => some ns.length
    | some (.dct kvs) => some kvs.length
    | some (.dctL kvs) => some kvs.length
    | none => none
  | _ => none
def pLen : OpN := fun ps M => match ps with
  | [x] => (match lenOf x M with
    | some n => .ok (.int (n : Nat)) M
    | none => .bad)
  | _ => .bad
theorem call_len_raw {pins : List (Addr × Obj)} {σ : L2.St} {H : Hp} {s : Shared} {μ : Nat → Addr} {n : Nat} {a : Addr} {kvs : List (P × P)} {nk : List NestedKey} {ks vs : List V} {es : Array DictEntry} {E : Value → Shared → Prop} {Q : Value → Shared → Prop} (I : Inv X pins σ H s) (c : DCell X H s μ n a kvs nk ks vs es)
    (q : ∀ t tk, Q (.int (kvs.length : Nat) t) { s with toks := tk }) : wpAny (model X.prog X.w) X.A (call (.builtin "len") [.ref a]) Q E s := by
  obtain ⟨o, ho, hc, hd⟩ := c.x.ex
  have hfit : ((es.size : Nat) : Int) < 2 ^ 63 := by
    have z := c.size
    rw [sizeLine_eq] at z
    rw [c.count]
    omega
  have ty : s.TypeIs (.ref a) "dict" := c.x.ty
  have meets : MeetsIn X.prog X.w (Builtin.«dict.__len__» { pos := [.ref a] }) fun _ R s' => s'.heap.get? a = some o ∧ R (.ok (.ret (.int (es.size : Nat) s'.toks))) { s' with toks := s'.toks + 1 } := by
    refine MeetsIn.of_wp fun A R s' ⟨ho', h'⟩ => ?_
    show wpAny _ _ (Builtin.«dict.__len__» _) _ _ _
    refine wpAny_bind (wpAny_pure (wpAny_bind (wpAny_pure (wpAny_bind (wpAny_bind (wpAny_dictEntries ho' hd (wpAny_pure (wpAny_bind (wpAny_pendingCount_other c.sys (wpAny_ret_mkInt ?_)))))))))) 
    simpa using h'
  refine Calls.call_function_entry kind_len plain_len entry_len (args_len1 (.ref a)) ?_
  show wpAny _ _ (Builtin.len _) _ _ _
  refine wpAny_bind (wpAny_pure (wpAny_bind (wpAny_callSpecial?_slot ty F.slot_dict_len (call_meetsIn F.slot_dict_len ty F.entry_dict_len (F.args_dict_len_1 (.ref a)) meets ⟨ho, ?_⟩))))
  refine wpAny_bind (wpAny_holding (wpAny_pure (wpAny_bind (wpAny_letGo ?_))))
  show wpAny _ _ (ite _ _ _) _ _ _
  rw [if_neg (by omega)]
  show wpAny _ _ (ite _ _ _) _ _ _
  rw [if_neg (by omega)]
  refine wpAny_bind (wpAny_mkInt (wpAny_pure ⟨_, rfl, ?_⟩))
  rw [c.count]
  exact q _ _
theorem p_len : PrimN X W (.builtin "len") pLen := by
  refine PrimN.of fun pins s σ σ' H xs us Q M μ ps I r m t sat => ?_
  unfold pLen at sat
  split at sat
  · rename_i p
    obtain ⟨x, rfl, tx⟩ := trs1 t
    cases e1 : lenOf p M with
    | none => rw [e1] at sat; exact sat.elim
    | some n =>
      rw [e1] at sat
      have q : Q (.int (n : Nat)) H := sat.here m (.int _)
      cases tx with
      | @tup a ys qs sq ts => cases e1; exact call_len_seq pins s σ H _ us Q I r ⟨a, ys, rfl, .inr sq, by rw [← ts.length]; exact q⟩
      | str z =>
        unfold lenOf at e1
        dsimp only at e1
        by_cases hz : z.length ≤ sizeLine
        · rw [if_pos hz] at e1; cases e1; exact call_len_str pins s σ H _ us Q I r ⟨z, rfl, hz, q⟩
        · rw [if_neg hz] at e1; cases e1
      | @loc l hl =>
        unfold lenOf at e1
        dsimp only at e1
        cases el : M[l]? with
        | none => rw [el] at e1; cases e1
        | some ob =>
          rw [el] at e1
          cases ob with
          | lst ys =>
            cases e1
            obtain ⟨vs, sq, ts⟩ := seqM_sq m (l := l) (xs := ys) (by unfold seqM; rw [el])
            exact call_len_seq pins s σ H _ us Q I r ⟨_, vs, rfl, .inl sq, by rw [← ts.length]; exact q⟩
          | scr ys =>
            cases e1
            obtain ⟨vs, sq, ts⟩ := seqM_sq m (l := l) (xs := ys.map P.int) (by unfold seqM; rw [el])
            exact call_len_seq pins s σ H _ us Q I r ⟨_, vs, rfl, .inl sq, by rw [← ts.length, List.length_map]; exact q⟩
          | dct kvs =>
            cases e1
            obtain ⟨nk, ks, vs, es, c⟩ := dcellM I m (l := l) (kvs := kvs) (by unfold dictOfM; rw [el])
            obtain ⟨u, rfl, ru⟩ := vals1 r
            have ru : u = _ := ru
            subst ru
            exact call_len_raw I c fun t tk => ⟨.int (kvs.length : Nat), H, I.tok tk, ⟨t, rfl⟩, q⟩
          | dctL kvs =>
            cases e1
            obtain ⟨nk, ks, vs, es, c⟩ := dcellM I m (l := l) (kvs := kvs) (by unfold dictOfM; rw [el])
            obtain ⟨u, rfl, ru⟩ := vals1 r
            have ru : u = _ := ru
            subst ru
            exact call_len_raw I c fun t tk => ⟨.int (kvs.length : Nat), H, I.tok tk, ⟨t, rfl⟩, q⟩
      | _ => cases e1
  · exact sat.elim
end
end TV
end
section
set_option linter.all false
set_option maxRecDepth 100000
set_option maxHeartbeats 2000000
set_option autoImplicit false
namespace TV
open PySem PySem.Spec PyProof.Rows L2

/-! ### all, any, sum, abs, max, min, int -/
def allBl : List P → Option (List Bool)
  | [] => some []
  | .bl b :: ps => (allBl ps).map (b :: ·)
  | _ :: _ => none
def allInt : List P → Option (List Int)
  | [] => some []
  | .int i :: ps => (allInt ps).map (i :: ·)
  | _ :: _ => none
theorem bls_of {K : PySem.W.Frag} {H : Hp} {μ : Nat → Addr} {n : Nat} : ∀ {ps : List P} {vs : List V} {bs : List Bool}, Trs K H μ n ps vs → allBl ps = some bs → vs = bs.map V.bl
  | _, _, _, .nil, e => by cases e; rfl
  | _, _, _, .cons (p := p) (ps := ps) t ts, e => by
    cases t with
    | bl b =>
      unfold allBl at e
      cases q : allBl ps with
      | none => rw [q] at e; cases e
      | some cs => rw [q] at e; cases e; rw [bls_of ts q]; rfl
    | _ => cases e
theorem ints_of {K : PySem.W.Frag} {H : Hp} {μ : Nat → Addr} {n : Nat} : ∀ {ps : List P} {vs : List V} {bs : List Int}, Trs K H μ n ps vs → allInt ps = some bs → vs = bs.map V.int
  | _, _, _, .nil, e => by cases e; rfl
  | _, _, _, .cons (p := p) (ps := ps) t ts, e => by
    cases t with
    | int b =>
      unfold allInt at e
      cases q : allInt ps with
      | none => rw [q] at e; cases e
      | some cs => rw [q] at e; cases e; rw [ints_of ts q]; rfl
    | _ => cases e
def pAll : OpN := fun ps M => match ps with
  | [.loc l] => (match (seqM M l).bind allBl with
    | some bs => .ok (.bl (bs.all id)) M
    | none => .bad)
  | _ => .bad
def pSum : OpN := fun ps M => match ps with
  | [.loc l] => (match (seqM M l).bind allInt with
    | some bs => .ok (.int bs.sum) M
    | none => .bad)
  | _ => .bad
def pAbs : OpN := fun ps M => match ps with
  | [.int i] => .ok (.int (if i < 0 then -i else i)) M
  | _ => .bad
def pMax2 : OpN := fun ps M => match ps with
  | [.int i, .int j] => .ok (.int (if j > i then j else i)) M
  | _ => .bad
def pMin2 : OpN := fun ps M => match ps with
  | [.int i, .int j] => .ok (.int (if j < i then j else i)) M
  | _ => .bad
def pInt : OpN := fun ps M => match ps with
  | [.int i] => .ok (.int i) M
  | [.bl k] => .ok (.int (if k then 1 else 0)) M
  | _ => .bad
section
variable {X : Cx} {W : WX}
theorem p_all (hc : X.calm = true) : PrimN X W (.builtin "all") pAll := by
  refine ⟨_, cr_all hc, fun {σ H M μ ps xs Q} m t sat => ?_⟩
  unfold pAll at sat
  split at sat
  · rename_i l
    obtain ⟨x, rfl, tx⟩ := trs1 t
    cases tx
    cases e : seqM M l with
    | none => rw [e] at sat; exact sat.elim
    | some ys =>
      rw [e] at sat
      cases e2 : allBl ys with
      | none => rw [Option.bind_some, e2] at sat; exact sat.elim
      | some bs =>
        rw [Option.bind_some, e2] at sat
        obtain ⟨vs, sq, ts⟩ := seqM_sq m e
        rw [bls_of ts e2] at sq
        exact ⟨_, bs, rfl, sq, sat.here m (.bl _)⟩
  · exact sat.elim
theorem p_sum (hc : X.calm = true) : PrimN X W (.builtin "sum") pSum := by
  refine ⟨_, cr_sum hc, fun {σ H M μ ps xs Q} m t sat => ?_⟩
  unfold pSum at sat
  split at sat
  · rename_i l
    obtain ⟨x, rfl, tx⟩ := trs1 t
    cases tx
    cases e : seqM M l with
    | none => rw [e] at sat; exact sat.elim
    | some ys =>
      rw [e] at sat
      cases e2 : allInt ys with
      | none => rw [Option.bind_some, e2] at sat; exact sat.elim
      | some bs =>
        rw [Option.bind_some, e2] at sat
        obtain ⟨vs, sq, ts⟩ := seqM_sq m e
        rw [ints_of ts e2] at sq
        exact ⟨_, bs, rfl, sq, sat.here m (.int _)⟩
  · exact sat.elim
theorem p_abs : PrimN X W (.builtin "abs") pAbs := by
  refine ⟨_, call_abs, fun {σ H M μ ps xs Q} m t sat => ?_⟩
  unfold pAbs at sat
  split at sat
  · obtain ⟨x, rfl, tx⟩ := trs1 t
    cases tx
    exact ⟨_, rfl, sat.here m (.int _)⟩
  · exact sat.elim
theorem p_max2 (hc : X.calm = true) : PrimN X W (.builtin "max") pMax2 := by
  refine ⟨_, call_max2 hc, fun {σ H M μ ps xs Q} m t sat => ?_⟩
  unfold pMax2 at sat
  split at sat
  · obtain ⟨x, y, rfl, tx, ty⟩ := trs2 t
    cases tx
    cases ty
    exact ⟨_, _, rfl, sat.here m (.int _)⟩
  · exact sat.elim
theorem p_min2 (hc : X.calm = true) : PrimN X W (.builtin "min") pMin2 := by
  refine ⟨_, call_min2 hc, fun {σ H M μ ps xs Q} m t sat => ?_⟩
  unfold pMin2 at sat
  split at sat
  · obtain ⟨x, y, rfl, tx, ty⟩ := trs2 t
    cases tx
    cases ty
    exact ⟨_, _, rfl, sat.here m (.int _)⟩
  · exact sat.elim
theorem p_int : PrimN X W (.type "int") pInt := by
  refine ⟨_, call_int1, fun {σ H M μ ps xs Q} m t sat => ?_⟩
  unfold pInt at sat
  split at sat
  · obtain ⟨x, rfl, tx⟩ := trs1 t
    cases tx
    exact .inl ⟨_, rfl, sat.here m (.int _)⟩
  · obtain ⟨x, rfl, tx⟩ := trs1 t
    cases tx
    exact .inr ⟨_, rfl, sat.here m (.int _)⟩
  · exact sat.elim
theorem paired_of {α β : Type} {F : α → β → Prop} : ∀ {as : List α} {bs : List β}, as.length = bs.length → (∀ (j : Nat) (a : α) (b : β), as[j]? = some a → bs[j]? = some b → F a b) → Paired F as bs
  | [], [], _, _ => .nil
  | [], _ :: _, h, _ => by simp at h
  | _ :: _, [], h, _ => by simp at h
  | a :: as, b :: bs, h, g => .cons (g 0 a b rfl rfl) (paired_of (by simpa using h) fun j x y hx hy => g (j + 1) x y (by simpa using hx) (by simpa using hy))
/-! ### tuple(x), list(x) -/
def pTupleOf : OpN := fun ps M => match ps with
  | [.tup qs] => .ok (.tup qs) M
  | [.loc l] => (match seqM M l with
    | some xs => .ok (.tup xs) M
    | none => .bad)
  | _ => .bad
theorem p_tupleOf : PrimN X W (.type "tuple") pTupleOf := by
  refine ⟨_, call_tuple_of, fun {σ H M μ ps xs Q} m t sat => ?_⟩
  unfold pTupleOf at sat
  split at sat
  · obtain ⟨x, rfl, tx⟩ := trs1 t
    cases tx with
    | @tup a ys qs sq ts => exact ⟨a, ys, rfl, .inr ⟨sq, sat.here m (.tup sq ts)⟩⟩
  · rename_i l
    obtain ⟨x, rfl, tx⟩ := trs1 t
    cases tx
    cases e : seqM M l with
    | none => rw [e] at sat; exact sat.elim
    | some ys =>
      rw [e] at sat
      obtain ⟨vs, sq, ts⟩ := seqM_sq m e
      exact ⟨_, vs, rfl, .inl ⟨sq, sat_tup m ts sat⟩⟩
  · exact sat.elim
def itemsOf (p : P) (M : Mem) : Option (List P) := match p with
  | .tup qs => some qs
  | .loc l => match seqM M l with
    | some xs => some xs
    | none => (dictOfM M l).map fun kvs => kvs.map (·.1)
  | _ => none
def pListOf : OpN := fun ps M => match ps with
  | [p] => (match itemsOf p M with
    | some xs => .ok (.loc M.length) (M ++ [.lst xs])
    | none => .bad)
  | _ => .bad
theorem p_listOf (hc : X.calm = true) : PrimN X W (.type "list") pListOf := by
  refine PrimN.of fun pins s σ σ' H xs us Q M μ ps I r m t sat => ?_
  unfold pListOf at sat
  split at sat
  · rename_i p
    obtain ⟨x, rfl, tx⟩ := trs1 t
    cases e : itemsOf p M with
    | none => rw [e] at sat; exact sat.elim
    | some ys =>
      rw [e] at sat
      cases tx with
      | @tup a zs qs sq ts =>
        cases e
        exact call_list_of pins s σ H _ us Q I r ⟨a, zs, rfl, .inr sq, sat_list m ts sat⟩
      | @loc l hl =>
        unfold itemsOf at e
        dsimp only at e
        cases e1 : seqM M l with
        | some zs =>
          rw [e1] at e
          cases e
          obtain ⟨vs, sq, ts⟩ := seqM_sq m e1
          exact call_list_of pins s σ H _ us Q I r ⟨_, vs, rfl, .inl sq, sat_list m ts sat⟩
        | none =>
          rw [e1] at e
          cases e2 : dictOfM M l with
          | none => rw [e2] at e; cases e
          | some kvs =>
            rw [e2] at e
            cases e
            obtain ⟨nk, ks, vs, es, c⟩ := dcellM I m e2
            obtain ⟨u, rfl, ru⟩ := vals1 r
            have ru : u = _ := ru
            subst ru
            obtain ⟨o, ho, hx, hd⟩ := c.x.ex
            have hlen : ks.length = vs.length := by rw [← c.tk.length, ← c.tv.length]; simp
            obtain ⟨z1, z2⟩ := Paired.zip_key c.rel hlen
            have hes : es.size = ks.length := by rw [← z1, Array.length_toList]
            refine PySem.W.kdl_call (L2.kdl_raw c.sys hx hd) (I.ok.hd hc) ho (by rw [c.count]; exact c.size) fun h' tk acc' c' kp e it => ?_
            have hp := HOk.fresh I.hok (Nat.le_refl s.heap.objs.size)
            have rv : Vals ks acc'.toList := by
              refine paired_of (by have := it.1; rw [hes] at this; rw [← this, Array.length_toList]) fun j x u hx hu => ?_
              rw [Array.getElem?_toList] at hu
              obtain ⟨en, e1, rfl⟩ := it.2 j u hu
              exact z2 (by rw [Array.getElem?_toList]; exact e1) hx
            refine ⟨.ref s.heap.objs.size, upd H s.heap.objs.size (.lst ks), I.laid kp (Nat.le_refl _) ⟨?_, acc'.toList, c', rv, by simpa using e⟩, rfl, sat_list m c.tk sat _ hp⟩
            rw [← hes, c.count]
            exact c.size
      | _ => cases e
  · exact sat.elim
end
end TV
end
section
set_option linter.all false
set_option maxRecDepth 100000
set_option maxHeartbeats 2000000
set_option autoImplicit false
namespace TV
open PySem PySem.Spec PyProof.Rows L2

/-! ### repr(x) -/
/-- trees with no cells in them, as data -/
def toF : Nat → P → Option PyData
  | _, .non => some .none
  | _, .bl b => some (.bool b)
  | _, .int i => some (.int i)
  | _, .str z => some (.str z)
  | 0, .tup _ => none
  | k + 1, .tup ps => (allD (toF k) ps).map PyData.tuple
  | _, .ty _ => none
  | _, .loc _ => none
def allKV (ks vs : List PyData) : List (PyData × PyData) := ks.zip vs
def toR (M : Mem) (p : P) : Option PyData := match p with
  | .loc l => match dictOfM M l with
    | some kvs => match allD (toF 9) (kvs.map (·.1)), allD (toF 9) (kvs.map (·.2)) with
      | some ks, some vs => some (.dict (ks.zip vs))
      | _, _ => none
    | none => match toD M 9 (.loc l) with
      | some d => if d.hasDict = false then some d else none
      | none => none
  | p => match toD M 9 p with
    | some d => if d.hasDict = false then some d else none
    | none => none
def pRepr : OpN := fun ps M => match ps with
  | [p] => (match toR M p with
    | some d => if d.showable = true ∧ d.shown.length ≤ sizeLine ∧ d.depth ≤ 64 then .ok (.str d.shown) M else .bad
    | none => .bad)
  | _ => .bad
section
variable {X : Cx} {W : WX} {pins : List (Addr × Obj)} {σ : L2.St} {H : Hp} {s : Shared} {μ : Nat → Addr} {n : Nat}
theorem allD_flat (I : Inv X pins σ H s) {f : P → Option PyData} (hf : ∀ p d x u, f p = some d → Tr X.K H μ n p x → RelV x u → Reads s.heap u d []) : ∀ {ps : List P} {ds : List PyData} {vs : List V} {us : List Value}, allD f ps = some ds → Trs X.K H μ n ps vs → Vals vs us → ReadsAll s.heap us ds []
  | [], _, _, _, e, .nil, .nil => by cases e; exact .nil
  | p :: ps, _, _, _, e, .cons t ts, .cons r rs => by
    unfold allD at e
    cases e1 : f p with
    | none => rw [e1] at e; cases e
    | some d => cases e2 : allD f ps with
      | none => rw [e1, e2] at e; cases e
      | some ds => rw [e1, e2] at e; cases e; exact .cons (as := []) (bs := []) (hf p d _ _ e1 t r) (allD_flat I hf e2 ts rs)
theorem flat_reads (I : Inv X pins σ H s) : ∀ (k : Nat) (p : P) (d : PyData) (x : V) (u : Value), toF k p = some d → Tr X.K H μ n p x → RelV x u → Reads s.heap u d [] := by
  intro k
  induction k with
  | zero =>
    intro p d x u e t r
    cases t with
    | non => cases e; have r : u = _ := r; subst r; exact .none
    | bl b => cases e; have r : u = _ := r; subst r; exact .bool b
    | int i => cases e; obtain ⟨t, rfl⟩ := r; exact .int i t
    | str z => cases e; obtain ⟨t, rfl⟩ := r; exact .str z t
    | _ => cases e
  | succ k ih =>
    intro p d x u e t r
    cases t with
    | non => cases e; have r : u = _ := r; subst r; exact .none
    | bl b => cases e; have r : u = _ := r; subst r; exact .bool b
    | int i => cases e; obtain ⟨t, rfl⟩ := r; exact .int i t
    | str z => cases e; obtain ⟨t, rfl⟩ := r; exact .str z t
    | @tup a xs ps sq ts =>
      have r : u = _ := r
      subst r
      have e : (allD (toF k) ps).map PyData.tuple = some d := e
      cases e2 : allD (toF k) ps with
      | none => rw [e2] at e; cases e
      | some ds =>
        rw [e2] at e
        cases e
        obtain ⟨its, rv, ⟨o, ho, hc, nn, hd⟩, _⟩ := I.tuple sq
        exact .tuple ho hc hd (by simpa using allD_flat I ih e2 ts rv)
    | _ => cases e
theorem allD_length {f : P → Option PyData} : ∀ {ps : List P} {ds : List PyData}, allD f ps = some ds → ds.length = ps.length
  | [], _, e => by cases e; rfl
  | p :: ps, _, e => by
    unfold allD at e
    cases e1 : f p with
    | none => rw [e1] at e; cases e
    | some d => cases e2 : allD f ps with
      | none => rw [e1, e2] at e; cases e
      | some ds => rw [e1, e2] at e; cases e; simp [allD_length e2]
theorem zip_vals : ∀ {ks vs : List V} {es : List DictEntry}, ks.length = vs.length → Paired (fun (p : V × V) (e : DictEntry) => RelV p.1 e.key ∧ RelV p.2 e.val) (ks.zip vs) es → Vals ks (es.map (·.key)) ∧ Vals vs (es.map (·.val))
  | [], [], _, _, .nil => ⟨.nil, .nil⟩
  | [], _ :: _, _, h, _ => by simp at h
  | _ :: _, [], _, h, _ => by simp at h
  | k :: ks, v :: vs, _, h, .cons r rs => let z := zip_vals (by simpa using h) rs; ⟨.cons r.1 z.1, .cons r.2 z.2⟩
theorem toR_reads {M : Mem} {p : P} {d : PyData} {x : V} {u : Value} (I : Inv X pins σ H s) (m : MemRep X.K X.w H M μ) (e : toR M p = some d) (t : Tr X.K H μ M.length p x) (r : RelV x u) : ∃ as, Reads s.heap u d as ∧ (d.hasDict = true → ¬ sysModules ∈ as) := by
  have plain : ∀ {q : P}, (match toD M 9 q with | some d => if d.hasDict = false then some d else none | none => none) = some d → Tr X.K H μ M.length q x → ∃ as, Reads s.heap u d as ∧ (d.hasDict = true → ¬ sysModules ∈ as) := by
    intro q e t
    cases e1 : toD M 9 q with
    | none => rw [e1] at e; cases e
    | some d' =>
      rw [e1] at e
      dsimp only at e
      by_cases hd : d'.hasDict = false
      · rw [if_pos hd] at e
        cases e
        obtain ⟨as, ra⟩ := Dp.reads I d x u (toD_dp m 9 q d x e1 t) r
        exact ⟨as, ra, fun z => by rw [hd] at z; cases z⟩
      · rw [if_neg hd] at e; cases e
  cases t with
  | @loc l hl =>
    unfold toR at e
    dsimp only at e
    cases e0 : dictOfM M l with
    | none => rw [e0] at e; exact plain e (.loc hl)
    | some kvs =>
      rw [e0] at e
      dsimp only at e
      cases e1 : allD (toF 9) (kvs.map (·.1)) with
      | none => rw [e1] at e; cases e
      | some ks => cases e2 : allD (toF 9) (kvs.map (·.2)) with
        | none => rw [e1, e2] at e; cases e
        | some vs =>
          rw [e1, e2] at e
          cases e
          have r : u = _ := r
          subst r
          obtain ⟨nk, kV, vV, es, c⟩ := dcellM I m e0
          obtain ⟨o, ho, hc, hd⟩ := c.x.ex
          have hlen : kV.length = vV.length := by rw [← c.tk.length, ← c.tv.length]; simp
          obtain ⟨z1, z2⟩ := zip_vals hlen c.rel
          have l1 := allD_length e1
          have l2 := allD_length e2
          simp only [List.length_map] at l1 l2
          have m1 : (ks.zip vs).map (·.1) = ks := List.map_fst_zip (by omega)
          have m2 : (ks.zip vs).map (·.2) = vs := List.map_snd_zip (by omega)
          refine ⟨[μ l], .dict (as := []) (bs := []) ho hc.1 hd (by rw [m1]; exact allD_flat I (flat_reads I 9) e1 c.tk z1) (by rw [m2]; exact allD_flat I (flat_reads I 9) e2 c.tv z2), fun _ z => ?_⟩
          rw [List.mem_singleton] at z
          have := c.sys
          rw [← z] at this
          simp at this
  | non => unfold toR at e; exact plain e .non
  | bl b => unfold toR at e; exact plain e (.bl b)
  | int i => unfold toR at e; exact plain e (.int i)
  | str z => unfold toR at e; exact plain e (.str z)
  | ty _ => unfold toR at e; exact plain e (.ty _)
  | tup sq ts => unfold toR at e; exact plain e (.tup sq ts)
theorem p_repr (hu : X.A.units + 66 < cLine) (hg : X.A.guards = some []) : PrimN X W (.builtin "repr") pRepr := by
  refine PrimN.of fun pins s σ σ' H xs us Q M μ ps I r m t sat => ?_
  unfold pRepr at sat
  split at sat
  · rename_i p
    obtain ⟨x, rfl, tx⟩ := trs1 t
    obtain ⟨u, rfl, ru⟩ := vals1 r
    cases e : toR M p with
    | none => rw [e] at sat; exact sat.elim
    | some d =>
      rw [e] at sat
      dsimp only at sat
      by_cases h : d.showable = true ∧ d.shown.length ≤ sizeLine ∧ d.depth ≤ 64
      · rw [if_pos h] at sat
        obtain ⟨as, ra, hs⟩ := toR_reads I m e tx ru
        have q : Q (.str d.shown) H := sat.here m (.str _)
        have fin : ∀ (a : Addr), u = .ref a → wpAny (model X.prog X.w) X.A (call (.builtin "repr") [u]) (EP X pins σ Q) X.xe s := by
          rintro a rfl
          exact repr_of_reads' ra h.1 hs hg (by omega) (fun _ _ z => z) (fun h' v tk hk => ⟨.str d.shown, H, I.kept hk, ⟨v, rfl⟩, q⟩) h.2.1
        cases ra with
        | none => exact P.repr_of_none ⟨.str _, H, I.tok _, ⟨_, rfl⟩, q⟩
        | bool b =>
          have eq : PyData.shown (.bool b) = if b = true then Str.ofString "True" else Str.ofString "False" := by cases b <;> rfl
          exact P.repr_of_bool ⟨.str _, H, I.tok _, ⟨_, rfl⟩, by rw [← eq]; exact q⟩
        | int i t => exact P.repr_of_int (by simpa [PyData.showable] using h.1) ⟨.str _, H, I.tok _, ⟨_, rfl⟩, q⟩
        | str z t => exact P.repr_of_str ⟨.str _, H, I.tok _, ⟨_, rfl⟩, q⟩ h.2.1
        | list => exact fin _ rfl
        | tuple => exact fin _ rfl
        | dict => exact fin _ rfl
      · rw [if_neg h] at sat; exact sat.elim
  · exact sat.elim
end
end TV
end
section
set_option linter.all false
set_option maxRecDepth 100000
set_option maxHeartbeats 2000000
set_option autoImplicit false
namespace TV
open PySem PySem.Spec PyProof.Rows L2

/-! ### sorted(xs) -/
def encM (M : Mem) (p : P) : PyData := (toD M 9 p).getD .none
noncomputable def sortP (M : Mem) (xs : List P) : List P := xs.mergeSort (PySem.W.dataLe false (encM M))
noncomputable def pSorted : OpN := fun ps M => match ps with
  | [.loc l] => (match seqM M l with
    | some xs => if ask ((∀ p ∈ xs, (toD M 9 p).isSome = true ∧ (encM M p).depth ≤ 60) ∧ PySem.W.AllAlike (xs.map (encM M)) ∧ PySem.W.Sortable (xs.map (encM M))) then .ok (.loc M.length) (M ++ [.lst (sortP M xs)]) else .bad
    | none => .bad)
  | _ => .bad
theorem sortP_perm (M : Mem) (xs : List P) : (sortP M xs).Perm xs := List.mergeSort_perm ..
section
variable {X : Cx} {W : WX}
theorem each_of {α β : Type} {R : α → β → Prop} : ∀ {as : List α} {bs : List β}, as.length = bs.length → (∀ (j : Nat) (a : α) (b : β), as[j]? = some a → bs[j]? = some b → R a b) → PySem.W.EachIs R as bs
  | [], [], _, _ => .nil
  | [], _ :: _, h, _ => by simp at h
  | _ :: _, [], h, _ => by simp at h
  | a :: as, b :: bs, h, g => .cons (g 0 a b rfl rfl) (each_of (by simpa using h) fun j x y hx hy => g (j + 1) x y (by simpa using hx) (by simpa using hy))
theorem each_out {K : PySem.W.Frag} {H : Hp} {μ : Nat → Addr} {n : Nat} : ∀ {us : List Value} {ps : List P}, PySem.W.EachIs (fun u p => ∃ x, RelV x u ∧ Tr K H μ n p x) us ps → ∃ vs, Vals vs us ∧ Trs K H μ n ps vs
  | _, _, .nil => ⟨[], .nil, .nil⟩
  | _, _, .cons ⟨x, r, t⟩ h => let ⟨vs, a, b⟩ := each_out h; ⟨x :: vs, .cons r a, .cons t b⟩
theorem p_sorted (hu : X.A.units + 63 < cLine) : PrimN X W (.builtin "sorted") pSorted := by
  refine PrimN.of fun pins s σ σ' H xs us Q M μ ps I r m t sat => ?_
  unfold pSorted at sat
  split at sat
  · rename_i l
    obtain ⟨x, rfl, tx⟩ := trs1 t
    obtain ⟨u, rfl, ru⟩ := vals1 r
    cases tx
    have ru : u = _ := ru
    subst ru
    cases e : seqM M l with
    | none => rw [e] at sat; exact sat.elim
    | some ys =>
      rw [e] at sat
      dsimp only at sat
      by_cases h : ask ((∀ p ∈ ys, (toD M 9 p).isSome = true ∧ (encM M p).depth ≤ 60) ∧ PySem.W.AllAlike (ys.map (encM M)) ∧ PySem.W.Sortable (ys.map (encM M))) = true
      · rw [if_pos h] at sat
        obtain ⟨h1, h2, h3⟩ := ask_iff.mp h
        obtain ⟨vs, sq, ts⟩ := seqM_sq m e
        obtain ⟨its, rv, pl, hz⟩ := I.list sq
        have hl : its.length = ys.length := by rw [← rv.length, ts.length]
        have base : ∀ (j : Nat) (a : Value) (b : P), its[j]? = some a → ys[j]? = some b → ∃ x, RelV x a ∧ Tr X.K H μ M.length b x := by
          intro j a b ha hb
          obtain ⟨v, hv, tv⟩ := ts.get hb
          obtain ⟨u, hu, ru⟩ := rv.get hv
          rw [ha] at hu
          cases hu
          exact ⟨v, ru, tv⟩
        refine PySem.W.sorted_data (β := P) (bs := ys) (enc := encM M) (R := fun u p => ∃ x, RelV x u ∧ Tr X.K H μ M.length p x) pl.isList (each_of hl base) (each_of hl fun j a b ha hb => ?_) h2 h3 (by rw [ts.length]; exact hz) (fun b hb => by have := (h1 b hb).2; omega) fun out ho he => ?_
        · obtain ⟨x, rx, tx⟩ := base j a b ha hb
          have hs := (h1 b (List.mem_iff_getElem?.mpr ⟨j, hb⟩)).1
          cases ed : toD M 9 b with
          | none => rw [ed] at hs; cases hs
          | some d =>
            have : encM M b = d := by unfold encM; rw [ed]; rfl
            rw [this]
            exact Dp.reads I d x a (toD_dp m 9 b d x ed tx) rx
        · obtain ⟨vs', r', t'⟩ := each_out he
          obtain ⟨cc, hat⟩ := sortedAll_at s.heap its out.toArray
          have hp : H (s.heap.objs.size + 1) = none := HOk.fresh I.hok (Nat.le_succ _)
          refine ⟨.ref (s.heap.objs.size + 1), upd H (s.heap.objs.size + 1) (.lst vs'), I.laid (t' := s.toks) (fun b o z => sortedAll_old z) (Nat.le_succ _) ⟨?_, out, cc, r', hat⟩, rfl, sat_list m t' sat _ hp⟩
          rw [r'.length, ho, ts.length]
          exact hz
      · rw [if_neg h] at sat; exact sat.elim
  · exact sat.elim
end
end TV
end
section
set_option linter.all false
set_option maxRecDepth 100000
set_option maxHeartbeats 2000000
set_option autoImplicit false
namespace TV
open PySem PySem.Spec PyProof.Rows L2

/-! ### list(d.items()), whatever the keys are -/
theorem next_out {prog : Program} {w : World} {A : Around} {E : Value → Shared → Prop} {s : Shared} {it d a : Addr} {f : Bool} {oa : Obj} {i ep : Nat} {es : Array DictEntry} {ok ov : Value} {Q : Option Value → Shared → Prop}
    (hit : PySem.W.KdxIt s.heap it d i es.size ep ok ov a f) (ha : s.heap.get? a = some oa) (hai : a ≠ it) (raw : s.heap.DictRaw d es ep) (hi : i < es.size)
    (hQ : ∀ h' : Heap, PySem.W.KdxIt h' it d (i + 1) es.size ep ok ov a true → h'.get? s.heap.objs.size = some { cls := .type "tuple", data := .seq #[es[i].key, es[i].val] } → h'.objs.size = s.heap.objs.size + 1 → (∀ b o, b ≠ it → s.heap.get? b = some o → h'.get? b = some o) → Q (some (.ref s.heap.objs.size)) { s with heap := h' }) :
    wpAny (model prog w) A (pyNext (.ref it)) Q E s := by
  obtain ⟨od, hod, hcd, hdd⟩ := raw
  have hT : s.TypeIs (.ref it) "dict_itemiterator" := ⟨_, hit, rfl⟩
  unfold pyNext
  refine wpAny_bind (wpAny_attempt (wpAny_callSpecial?_slot hT F.slot_dict_itemiterator_next (wpAny_call_entry F.slot_dict_itemiterator_next hT F.entry_dict_itemiterator_next ?_ (F.args_dict_itemiterator_next_1 (.ref it)))))
  refine wpAny_bind (wpAny_pure (wpAny_bind (wpAny_bind (wpAny_bind (wpAny_typeNameOfWhole_itemiter hT (wpAny_pure (wpAny_bind (wpAny_fieldsOf hit rfl ?_))))))))
  have hown : Builtin.Dict_items.ownsTuple "dict_itemiterator" = true := by decide
  simp only [hown, if_true]
  show wpAny _ _ (ite _ _ _) _ _ _
  rw [if_neg (by simp)]
  refine wpAny_bind (wpAny_pure (wpAny_bind (wpAny_dictEntries hod hdd ?_)))
  show wpAny _ _ (ite _ _ _) _ _ _
  rw [if_neg (by simp)]
  refine wpAny_bind (wpAny_pure (wpAny_bind (wpAny_dictEpoch hod hdd ?_)))
  show wpAny _ _ (ite _ _ _) _ _ _
  rw [if_neg (by simp)]
  refine wpAny_pure ?_
  have hgt : (if ((i : Int) < 0) then (none : Option DictEntry) else es[(i : Int).toNat]?) = some es[i] := by
    rw [if_neg (by omega), Int.toNat_natCast, Array.getElem?_eq_getElem hi]
  dsimp only
  rw [hgt]
  dsimp only
  refine wpAny_bind (wpAny_bind (wpAny_typeNameOfWhole_itemiter hT (wpAny_pure (wpAny_bind (wpAny_isOneOf_itemiter hT ?_)))))
  refine wpAny_bind (wpAny_setField_rec hit (by rw [hown]; show 3 < 8; decide) fun h1 hit1 sb1 => ?_)
  have hit1 : h1.get? it = some { cls := .type "dict_itemiterator", data := .fields #[rawInt a, .bool f, .ref d, rawInt ((i : Int) + 1), .int (es.size : Nat) 0, .int (ep : Nat) 0, ok, ov] } := hit1
  have hT1 : ({ s with heap := h1 } : Shared).TypeIs (.ref it) "dict_itemiterator" := ⟨_, hit1, rfl⟩
  refine wpAny_bind (wpAny_holding ?_)
  refine wpAny_bind (wpAny_isOneOf_itemiter hT1 ?_)
  rw [if_neg (by decide)]
  refine wpAny_bind (wpAny_isOneOf_itemiter hT1 ?_)
  rw [if_neg (by decide)]
  unfold Builtin.Dict_items.pairFromOwner
  refine wpAny_bind (wpAny_newTuple ?_ (by show 2 ≤ sizeLine; decide))
  have hsz : h1.objs.size = s.heap.objs.size := sb1.1
  have hlit : it < h1.objs.size := Heap.lt_size hit1
  have hne : a ≠ h1.objs.size := by rw [hsz]; exact Nat.ne_of_lt (Heap.lt_size ha)
  have ha1 : h1.get? a = some oa := (sb1.2 a hai).trans ha
  generalize hh2 : h1.push { cls := .type "tuple", data := .seq [es[i].key, es[i].val].toArray } = h2
  have up2 : ∀ b o, h1.get? b = some o → h2.get? b = some o := fun b o e => by rw [← hh2]; exact Heap.get?_push_of_some _ e
  have hT2 : h2.get? h1.objs.size = some { cls := .type "tuple", data := .seq #[es[i].key, es[i].val] } := by rw [← hh2]; exact Heap.get?_push_size h1 rfl
  have sz2 : h2.objs.size = h1.objs.size + 1 := by rw [← hh2]; exact Heap.size_push h1 _
  refine wpAny_bind ?_
  unfold Builtin.Dict_items.ownedTupleIsFree
  refine wpAny_bind (wpAny_field (up2 _ _ hit1) rfl rfl ?_)
  refine wpAny_bind (PySem.W.kdx_alive (a := a) (o := oa) (up2 _ _ ha1) ?_)
  rw [if_neg (by simp)]
  refine wpAny_bind (wpAny_field (x := .bool f) (up2 _ _ hit1) rfl rfl ?_)
  have nit : it ≠ h1.objs.size := Nat.ne_of_lt hlit
  cases f with
  | true =>
    rw [if_neg (by decide)]
    refine wpAny_pure ?_
    rw [if_neg (by decide)]
    refine wpAny_pure (wpAny_pure ⟨_, rfl, wpAny_pure ?_⟩)
    have hq := hQ h2 (by have z := up2 _ _ hit1; exact z) (by rw [← hsz]; exact hT2) (by rw [sz2, hsz]) fun b o hb e => up2 b o ((sb1.2 b hb).trans e)
    rw [← hsz] at hq
    exact hq
  | false =>
    rw [if_pos (by decide)]
    refine wpAny_bind (wpAny_setField_rec (up2 _ _ hit1) (by show 1 < 8; decide) fun h3 hit3 sb3 => wpAny_pure ?_)
    rw [if_neg (by decide)]
    refine wpAny_pure (wpAny_pure ⟨_, rfl, wpAny_pure ?_⟩)
    have hq := hQ h3 hit3 (by rw [← hsz]; exact (sb3.2 _ nit.symm).trans hT2) (by rw [sb3.1, sz2, hsz]) fun b o hb e => (sb3.2 b hb).trans (up2 b o ((sb1.2 b hb).trans e))
    rw [← hsz] at hq
    exact hq
theorem end_out {prog : Program} {w : World} {A : Around} {E : Value → Shared → Prop} {s : Shared} {it d a : Addr} {f : Bool} {i ep : Nat} {es : Array DictEntry} {ok ov : Value} {Q : Option Value → Shared → Prop}
    (hh : A.handled = none) (hit : PySem.W.KdxIt s.heap it d i es.size ep ok ov a f) (raw : s.heap.DictRaw d es ep) (hi : es.size ≤ i) (hQ : ∀ h' : Heap, Heap.ExtBut it s.heap h' → Q none { s with heap := h' }) :
    wpAny (model prog w) A (pyNext (.ref it)) Q E s := by
  obtain ⟨od, hod, hcd, hdd⟩ := raw
  have hT : s.TypeIs (.ref it) "dict_itemiterator" := ⟨_, hit, rfl⟩
  unfold pyNext
  refine wpAny_bind (wpAny_attempt (wpAny_callSpecial?_slot hT F.slot_dict_itemiterator_next (wpAny_call_entry F.slot_dict_itemiterator_next hT F.entry_dict_itemiterator_next ?_ (F.args_dict_itemiterator_next_1 (.ref it)))))
  refine wpAny_bind (wpAny_pure (wpAny_bind (wpAny_bind (wpAny_bind (wpAny_typeNameOfWhole_itemiter hT (wpAny_pure (wpAny_bind (wpAny_fieldsOf hit rfl ?_))))))))
  have hown : Builtin.Dict_items.ownsTuple "dict_itemiterator" = true := by decide
  simp only [hown, if_true]
  show wpAny _ _ (ite _ _ _) _ _ _
  rw [if_neg (by simp)]
  refine wpAny_bind (wpAny_pure (wpAny_bind (wpAny_dictEntries hod hdd ?_)))
  show wpAny _ _ (ite _ _ _) _ _ _
  rw [if_neg (by simp)]
  refine wpAny_bind (wpAny_pure (wpAny_bind (wpAny_dictEpoch hod hdd ?_)))
  show wpAny _ _ (ite _ _ _) _ _ _
  rw [if_neg (by simp)]
  refine wpAny_pure ?_
  have hgt : (if ((i : Int) < 0) then (none : Option DictEntry) else es[(i : Int).toNat]?) = none := by
    rw [if_neg (by omega), Int.toNat_natCast, Array.getElem?_eq_none hi]
  dsimp only
  rw [hgt]
  dsimp only
  refine wpAny_bind (wpAny_bind (wpAny_typeNameOfWhole_itemiter hT (wpAny_pure (wpAny_bind (wpAny_setField_rec hit (by rw [hown]; show 2 < 8; decide) fun h1 hit1 sb1 => ?_)))))
  refine wpAny_bind ?_
  unfold newExc
  refine wpAny_bind (wpAny_newObj_type (data := .seq #[]) (wpAny_bind (wpAny_of_eq (rfl : firstArgMember (.type "StopIteration") [] = _) (wpAny_newObj_type ?_ (by exact sizeOk_excFields _ _ _ _ _ _ (.type "StopIteration") [])))) (by show (#[] : Array Value).size ≤ _; exact Nat.zero_le _))
  unfold raiseNew
  refine wpAny_bind (wpAny_handled ?_)
  have hh1 : A.in1.handled = none := hh
  rw [hh1]
  dsimp only
  refine wpAny_throw (wpAny_bind (wpAny_isInstance (T := "StopIteration") ?_ isSubtype_stop ?_))
  · exact ⟨_, Heap.get?_push_size _ rfl, rfl⟩
  · exact wpAny_pure (hQ _ (((sb1.extBut).push _).push _))
/-- the tuples that were made so far -/
structure Pairs2 (es : Array DictEntry) (lo : Addr) (h : Heap) (as : List Addr) : Prop where
  rise : as.Pairwise (· < ·)
  above : ∀ a ∈ as, lo < a
  pairs : ∀ (j : Nat) (a : Addr), as[j]? = some a → ∃ e, es[j]? = some e ∧ h.get? a = some { cls := .type "tuple", data := .seq #[e.key, e.val] }
section
variable {prog : Program} {w : World} {A : Around} {es : Array DictEntry} {ep : Nat} {d : Addr}
theorem item_any {E : Value → Shared → Prop} {s : Shared} {it S : Addr} {i : Nat} {Q : Option Value → Shared → Prop} (hst : PySem.W.KdxSt s.heap it d S i es.size ep) (hS : S < s.heap.objs.size) (raw : s.heap.DictRaw d es ep) (hi : i < es.size)
    (hQ : ∀ h' : Heap, PySem.W.KdxSt h' it d S (i + 1) es.size ep → h'.get? s.heap.objs.size = some { cls := .type "tuple", data := .seq #[es[i].key, es[i].val] } → h'.objs.size = s.heap.objs.size + 1 → (∀ b o, b ≠ it → s.heap.get? b = some o → h'.get? b = some o) → Q (some (.ref s.heap.objs.size)) { s with heap := h' }) :
    wpAny (model prog w) A (pyNext (.ref it)) Q E s := by
  rcases hst with ⟨rfl, ok, ov, hit⟩ | ⟨ok, ov, a, f, oa, hit, ha, hai, haS⟩
  · exact wpAny_pyNext_items_item_raw hit raw hi fun h' hit' ht hz hk => hQ h' (.inr ⟨_, _, s.heap.objs.size, false, _, hit', ht, Nat.ne_of_gt (Heap.lt_size hit), Nat.ne_of_gt hS⟩) ht hz hk
  · exact next_out hit ha hai raw hi fun h' hit' ht hz hk => hQ h' (.inr ⟨ok, ov, a, true, oa, hit', hk a oa hai ha, hai, haS⟩) ht hz hk
theorem end_any {E : Value → Shared → Prop} {s : Shared} {it S : Addr} {i : Nat} {Q : Option Value → Shared → Prop} (hh : A.handled = none) (hst : PySem.W.KdxSt s.heap it d S i es.size ep) (raw : s.heap.DictRaw d es ep) (hi : es.size ≤ i) (hQ : ∀ h' : Heap, Heap.ExtBut it s.heap h' → Q none { s with heap := h' }) :
    wpAny (model prog w) A (pyNext (.ref it)) Q E s := by
  rcases hst with ⟨rfl, ok, ov, hit⟩ | ⟨ok, ov, a, f, oa, hit, _⟩
  · exact wpAny_pyNext_items_end_raw hh hit raw hi hQ
  · exact end_out hh hit raw hi hQ
theorem DictRaw.at' {h h' : Heap} (r : h.DictRaw d es ep) (k : ∀ o, h.get? d = some o → h'.get? d = some o) : h'.DictRaw d es ep := by
  obtain ⟨o, a, b⟩ := r
  exact ⟨o, k o a, b⟩
theorem items_loop {s : Shared} {R : Result → Shared → Prop} {S I : Addr} (hh : A.handled = none) (hSI : S < I) (hSd : d ≠ S) (hId : d ≠ I) (hn : es.size ≤ sizeLine) (res : Value) {h₁ : Heap}
    (hR : ∀ (h' : Heap) (tk : Nat) (acc : Array Value) (c : Nat) (as : List Addr), (∀ b o, b ≠ S → b ≠ I → h₁.get? b = some o → h'.get? b = some o) → h'.get? S = some { cls := .type "list", data := .seq acc c } → as.length = es.size → Pairs2 es I h' as → acc.toList = as.map Value.ref → R (.ok (.ret res)) { s with heap := h', toks := tk }) :
    ∀ (k i : Nat) (h : Heap) (tk c : Nat) (acc : Array Value) (as : List Addr), es.size - i = k → i ≤ es.size → PySem.W.KdxSt h I d S i es.size ep → h.DictRaw d es ep → (∀ b o, b ≠ S → b ≠ I → h₁.get? b = some o → h.get? b = some o) → h.get? S = some { cls := .type "list", data := .seq acc c } → acc.toList = as.map Value.ref → as.length = i → Pairs2 es I h as → I < h.objs.size →
      codeAny (model prog w) A (.builtin "list.extend.loop" { pos := [.ref S, .ref I, res] }) R { s with heap := h, toks := tk } := by
  have hne : S ≠ I := Nat.ne_of_lt hSI
  intro k
  induction k with
  | zero =>
    intro i h tk c acc as hk hi hst raw hkeep hS hacc hal hG hIs
    refine codeAny_builtin F.entry_extend_loop ?_
    rw [Around.under_plainId F.plain_extend_loop]
    refine wpAny_bind (end_any hh hst raw (by omega) fun h' he => wpAny_pure ?_)
    refine hR h' tk acc c as (fun b o h1 h2 e => he b o h2 (hkeep b o h1 h2 e)) (he S _ hne hS) (by omega) ⟨hG.rise, hG.above, fun j a hj => ?_⟩ hacc
    obtain ⟨e, e1, e2⟩ := hG.pairs j a hj
    exact ⟨e, e1, he a _ (Nat.ne_of_gt (hG.above a (List.mem_of_getElem? hj))) e2⟩
  | succ k ih =>
    intro i h tk c acc as hk hi hst raw hkeep hS hacc hal hG hIs
    have hlt : i < es.size := by omega
    have hsz : acc.size = i := by rw [← Array.length_toList, hacc, List.length_map, hal]
    refine codeAny_builtin F.entry_extend_loop ?_
    rw [Around.under_plainId F.plain_extend_loop]
    refine wpAny_bind (item_any hst (Heap.lt_size hS) raw hlt fun h' hst' ht hz hkp => ?_)
    have hS' := hkp S _ hne hS
    have up : ∀ b o, b ≠ S → h'.get? b = some o → (h'.update S (Obj.mapSeq fun x => x.push (.ref h.objs.size))).get? b = some o := fun b o hb e => (Heap.get?_update_other h' _ (Ne.symm hb)).trans e
    have hSl := Heap.lt_size hS
    refine wpAny_bind (wpAny_updateSeq hS' rfl (wpAny_pure ⟨plainId_quiet F.plain_extend_loop _, ?_⟩) (by rw [hsz]; omega) (by rw [Array.size_push, hsz]; omega))
    refine ih (i + 1) _ tk _ (acc.push (.ref h.objs.size)) (as ++ [h.objs.size]) (by omega) hlt (PySem.W.KdxSt.keep hst' up hne.symm) (DictRaw.at' raw fun o e => up d o hSd (hkp d o hId e)) (fun b o h1 h2 e => up b o h1 (hkp b o h2 (hkeep b o h1 h2 e))) (Heap.get?_update_self _ hS' rfl) (by rw [Array.toList_push, hacc, List.map_append]; rfl) (by rw [List.length_append, hal]; rfl) ⟨?_, ?_, ?_⟩ ?_
    · refine List.pairwise_append.mpr ⟨hG.rise, List.pairwise_singleton _ _, fun a ha b hb => ?_⟩
      rw [List.mem_singleton.mp hb]
      obtain ⟨j, hj⟩ := List.mem_iff_getElem?.mp ha
      obtain ⟨e, _, e2⟩ := hG.pairs j a hj
      exact Heap.lt_size e2
    · intro a ha
      rcases List.mem_append.mp ha with ha | ha
      · exact hG.above a ha
      · rw [List.mem_singleton.mp ha]; exact hIs
    · intro j b hj
      rcases Nat.lt_trichotomy j as.length with h1 | h1 | h1
      · rw [List.getElem?_append_left h1] at hj
        obtain ⟨e, e1, e2⟩ := hG.pairs j b hj
        have hb := hG.above b (List.mem_of_getElem? hj)
        exact ⟨e, e1, up b _ (Nat.ne_of_gt (Nat.lt_trans hSI hb)) (hkp b _ (Nat.ne_of_gt hb) e2)⟩
      · subst h1
        rw [List.getElem?_append_right (Nat.le_refl _), Nat.sub_self] at hj
        have hj : h.objs.size = b := by simpa using hj
        subst hj
        subst hal
        exact ⟨_, Array.getElem?_eq_getElem hlt, up _ _ (Nat.ne_of_gt hSl) ht⟩
      · rw [List.getElem?_eq_none (by rw [List.length_append, List.length_singleton]; omega)] at hj
        cases hj
    · exact Nat.lt_trans hIs (Heap.lt_size (up _ _ (Nat.ne_of_gt hSl) ht))
end
end TV
end
section
set_option linter.all false
set_option maxRecDepth 100000
set_option maxHeartbeats 2000000
set_option autoImplicit false
namespace TV
open PySem PySem.Spec PyProof.Rows L2
section
variable {prog : Program} {w : World} {A : Around} {es : Array DictEntry} {ep : Nat} {d : Addr}
theorem items_extend {s : Shared} {r : Addr} {R : Result → Shared → Prop} (hh : A.handled = none) (hv : s.heap.IsItemsView r d) (raw : s.heap.DictRaw d es ep) (S : Addr) (hSr : S ≠ r) (hSd : d ≠ S) (res : Value) (c₀ : Nat) (hS : s.heap.get? S = some { cls := .type "list", data := .seq #[] c₀ })
    (hR : ∀ (h' : Heap) (tk : Nat) (acc : Array Value) (c : Nat) (as : List Addr), (∀ b o, b ≠ S → s.heap.get? b = some o → h'.get? b = some o) → h'.get? S = some { cls := .type "list", data := .seq acc c } → as.length = es.size → Pairs2 es s.heap.objs.size h' as → acc.toList = as.map Value.ref → R (.ok (.ret res)) { s with heap := h', toks := tk }) (hn : es.size ≤ sizeLine) :
    wpAny (model prog w) A.in1 (Builtin.List.listExtendWith (.ref S) (.ref r) res) (fun fin s' => match fin with | .done f => R (.ok f) s' | .again c' => c'.quiet = true ∧ codeAny (model prog w) A c' R s') (fun e s' => R (.error e) s') s := by
  have hSI := Heap.lt_size hS
  have hdI : d < s.heap.objs.size := by obtain ⟨o, ho, _⟩ := raw; exact Heap.lt_size ho
  have key : ∀ (h : Heap) (c₁ tk : Nat), (∀ b o, b ≠ S → (s.heap.push { cls := .type "dict_itemiterator", data := .fields #[.none, .bool false, .ref d, .int 0 0, .int (es.size : Nat) 0, .int (ep : Nat) 0, .none, .none] }).get? b = some o → h.get? b = some o) → h.get? S = some { cls := .type "list", data := .seq #[] c₁ } →
      codeAny (model prog w) A (.builtin "list.extend.loop" { pos := [.ref S, .ref s.heap.objs.size, res] }) R { s with heap := h, toks := tk } := by
    intro h c₁ tk hk hS₁
    have hI := hk s.heap.objs.size _ (Nat.ne_of_gt hSI) (Heap.get?_push_size s.heap rfl)
    exact items_loop (es := es) (ep := ep) hh hSI hSd (Nat.ne_of_lt hdI) hn res (h₁ := s.heap) (fun h' tk' acc c as hk' hS' hl hG hacc => hR h' tk' acc c as (fun b o hb e => hk' b o hb (Nat.ne_of_lt (Heap.lt_size e)) e) hS' hl hG hacc)
      es.size 0 h tk c₁ #[] [] (Nat.sub_zero _) (Nat.zero_le _) (.inl ⟨rfl, _, _, hI⟩) (DictRaw.at' raw fun o e => hk d o hSd (Heap.get?_push_of_some _ e)) (fun b o hb _ e => hk b o hb (Heap.get?_push_of_some _ e)) hS₁ rfl rfl ⟨List.Pairwise.nil, fun _ ha => (nomatch ha), fun j a hj => by simp at hj⟩ (Heap.lt_size hI)
  unfold Builtin.List.listExtendWith
  refine wpAny_bind (wpAny_typeOf hv.typeIs ?_)
  have h1 : Builtin.List.listSameRef (.ref S) (.ref r) = false := by
    show (S == r) = false
    simp [hSr]
  rw [if_neg (by rw [h1]; decide)]
  refine wpAny_bind (wpAny_pyIter_items_raw hv raw ?_)
  have hS₁ : (s.heap.push { cls := .type "dict_itemiterator", data := .fields #[.none, .bool false, .ref d, .int 0 0, .int (es.size : Nat) 0, .int (ep : Nat) 0, .none, .none] }).get? S = some { cls := .type "list", data := .seq #[] c₀ } := Heap.get?_push_of_some _ hS
  have hv1 : ({ s with heap := s.heap.push { cls := .type "dict_itemiterator", data := .fields #[.none, .bool false, .ref d, .int 0 0, .int (es.size : Nat) 0, .int (ep : Nat) 0, .none, .none] } } : Shared).TypeIs (.ref r) "dict_items" := by
    obtain ⟨o, ho, hc, _⟩ := hv
    exact ⟨o, Heap.get?_push_of_some _ ho, hc⟩
  refine wpAny_bind (wpAny_holding (PySem.W.kdx_hint hv1 ?_))
  split
  · refine wpAny_bind (wpAny_rule ?_)
    unfold Builtin.List.listTouch
    have hS₂ := Heap.get?_update_self (Obj.mapSeq fun x => x.push Value.none) hS₁ rfl
    have hS₃ := Heap.get?_update_self (Obj.mapSeq fun x => x.pop) hS₂ rfl
    refine wpAny_bind (wpAny_bind (wpAny_updateSeq hS₁ rfl (wpAny_updateSeq hS₂ rfl (wpAny_pure ⟨plainId_quiet F.plain_extend_loop _, ?_⟩) (by show 1 ≤ sizeLine; decide) (by show 0 ≤ sizeLine + 1; exact Nat.zero_le _)) (by show 0 ≤ sizeLine; exact Nat.zero_le _) (by show 1 ≤ sizeLine + 1; decide)))
    exact key _ _ s.toks (fun b o hb e => (Heap.get?_update_other _ _ (Ne.symm hb)).trans ((Heap.get?_update_other _ _ (Ne.symm hb)).trans e)) hS₃
  · exact wpAny_pure ⟨plainId_quiet F.plain_extend_loop _, key _ c₀ s.toks (fun b o _ e => e) hS₁⟩
theorem Pairs2.low {lo lo' : Addr} {h : Heap} {as : List Addr} (p : Pairs2 es lo h as) (hl : lo' ≤ lo) : Pairs2 es lo' h as := ⟨p.rise, fun a ha => Nat.lt_of_le_of_lt hl (p.above a ha), p.pairs⟩
theorem items_init {s : Shared} {r : Addr} {R : Result → Shared → Prop} (hh : A.handled = none) (hv : s.heap.IsItemsView r d) (raw : s.heap.DictRaw d es ep) (S : Addr) (hSr : S ≠ r) (hSd : d ≠ S) (hS : s.heap.get? S = some { cls := .type "list", data := .seq #[] })
    (hR : ∀ (h' : Heap) (tk : Nat) (acc : Array Value) (c : Nat) (as : List Addr), (∀ b o, b ≠ S → s.heap.get? b = some o → h'.get? b = some o) → h'.get? S = some { cls := .type "list", data := .seq acc c } → as.length = es.size → Pairs2 es S h' as → acc.toList = as.map Value.ref → R (.ok (.ret .none)) { s with heap := h', toks := tk }) (hn : es.size ≤ sizeLine) :
    wpAny (model prog w) A.in1 (Builtin.«list.__init__» { pos := [.ref S, .ref r] }) (fun fin s' => match fin with | .done f => R (.ok f) s' | .again c' => c'.quiet = true ∧ codeAny (model prog w) A c' R s') (fun e s' => R (.error e) s') s := by
  show wpAny _ _ (Builtin.«list.__init__» _) _ _ _
  refine wpAny_bind ?_
  refine wpAny_bind (wpAny_seqItems hS rfl (wpAny_pure ?_))
  refine wpAny_bind (wpAny_updateSeq hS rfl ?_ (by show 0 ≤ sizeLine; exact Nat.zero_le _) (by show 0 ≤ sizeLine + 1; exact Nat.zero_le _))
  have hS₂ := Heap.get?_update_self (Obj.mapSeq fun _ => #[]) hS rfl
  have oth : ∀ b o, b ≠ S → s.heap.get? b = some o → (s.heap.update S (Obj.mapSeq fun _ => #[])).get? b = some o := fun b o hb e => (Heap.get?_update_other s.heap _ (Ne.symm hb)).trans e
  have hv2 : (s.heap.update S (Obj.mapSeq fun _ => #[])).IsItemsView r d := by
    obtain ⟨o, ho, x⟩ := hv
    exact ⟨o, oth r o (Ne.symm hSr) ho, x⟩
  refine wpAny_bind (wpAny_letGo (items_extend (s := { s with heap := s.heap.update S (Obj.mapSeq fun _ => #[]) }) hh hv2 (DictRaw.at' raw fun o e => oth d o hSd e) S hSr hSd .none _ hS₂ (fun h' tk acc c as hk hS' hl hG hacc => hR h' tk acc c as (fun b o hb e => hk b o hb (oth b o hb e)) hS' hl (hG.low (Nat.le_of_lt (Heap.lt_size hS₂))) hacc) hn))
/-- list(view of items) -/
theorem items_list {E : Value → Shared → Prop} {s : Shared} {r : Addr} {Q : Value → Shared → Prop} (hh : A.handled = none) (hv : s.heap.IsItemsView r d) (raw : s.heap.DictRaw d es ep) (hn : es.size ≤ sizeLine)
    (hQ : ∀ (h' : Heap) (tk : Nat) (acc : Array Value) (c : Nat) (as : List Addr), (∀ b o, s.heap.get? b = some o → h'.get? b = some o) → h'.get? s.heap.objs.size = some { cls := .type "list", data := .seq acc c } → as.length = es.size → Pairs2 es s.heap.objs.size h' as → acc.toList = as.map Value.ref → Q (.ref s.heap.objs.size) { s with heap := h', toks := tk }) :
    wpAny (model prog w) A (call (.type "list") [.ref r]) Q E s := by
  refine callType_codes (Q₁ := fun obj s₁ => obj = .ref s.heap.objs.size ∧ s₁ = { s with heap := s.heap.push { cls := .type "list", data := .seq #[] } }) F.called_list (F.typeCall_list_1 (.ref r)) F.entry_list_init (code_list_new (.ref r) ⟨rfl, rfl⟩) fun obj s₁ h₁ => ?_
  obtain ⟨e1, e2⟩ := h₁
  subst e1
  subst e2
  have hS : (s.heap.push { cls := .type "list", data := .seq #[] }).get? s.heap.objs.size = some { cls := .type "list", data := .seq #[] } := Heap.get?_push_size s.heap rfl
  have hr : r < s.heap.objs.size := by obtain ⟨o, ho, _⟩ := hv; exact Heap.lt_size ho
  have hd : d < s.heap.objs.size := by obtain ⟨o, ho, _⟩ := raw; exact Heap.lt_size ho
  have hv2 : (s.heap.push { cls := .type "list", data := .seq #[] }).IsItemsView r d := by
    obtain ⟨o, ho, x⟩ := hv
    exact ⟨o, Heap.get?_push_of_some _ ho, x⟩
  refine ⟨⟨_, hS, rfl⟩, F.args_list_init_2 _ _, ?_⟩
  refine items_init (A := A.in1) (s := { s with heap := s.heap.push { cls := .type "list", data := .seq #[] } }) (R := wants (fun r s₂ => r = Value.none ∧ Q (.ref s.heap.objs.size) s₂) E) hh hv2 (DictRaw.at' raw fun o e => Heap.get?_push_of_some _ e) s.heap.objs.size (Nat.ne_of_gt hr) (Nat.ne_of_lt hd) hS (fun h' tk acc c as hk hS' hl hG hacc => ⟨rfl, hQ h' tk acc c as (fun b o e => hk b o (Nat.ne_of_lt (Heap.lt_size e)) (Heap.get?_push_of_some _ e)) hS' hl hG hacc⟩) hn
end
end TV
end
section
set_option linter.all false
set_option maxRecDepth 100000
set_option maxHeartbeats 2000000
set_option autoImplicit false
namespace TV
open PySem PySem.Spec PyProof.Rows L2
/-! ### many new objects at once -/
def over (H : Hp) (N : Addr → Option HO) : Hp := fun b => match N b with
  | some o => some o
  | none => H b
theorem over_at {H : Hp} {N : Addr → Option HO} {b : Addr} {o : HO} (h : N b = some o) : over H N b = some o := by unfold over; rw [h]
theorem over_off {H : Hp} {N : Addr → Option HO} {b : Addr} (h : N b = none) : over H N b = H b := by unfold over; rw [h]
section
variable {X : Cx} {pins : List (Addr × Obj)} {σ : L2.St} {H H' : Hp} {s : Shared} {K : PySem.W.Frag} {w : World} {M : Mem} {μ : Nat → Addr} {n : Nat} {p : Addr} {o : MO}
theorem laid_all {N : Addr → Option HO} {h' : Heap} {tk : Nat} (I : Inv X pins σ H s) (hk : ∀ b u, s.heap.get? b = some u → h'.get? b = some u) (new : ∀ b o, N b = some o → s.heap.objs.size ≤ b ∧ ObjOk X.prog X.w (over H N) h' b o) :
    (∀ b u, H b = some u → over H N b = some u) ∧ Inv X pins σ (over H N) { s with heap := h', toks := tk } := by
  have low : ∀ b o, s.heap.get? b = some o → N b = none := fun b o e => by
    cases q : N b with
    | none => rfl
    | some u => exact absurd (Heap.lt_size e) (Nat.not_lt.mpr (new b u q).1)
  have kp : ∀ b u, H b = some u → over H N b = some u := fun b u e => by
    cases q : N b with
    | none => rw [over_off q]; exact e
    | some v =>
      have := HOk.fresh I.hok (new b v q).1
      rw [this] at e; cases e
  refine ⟨kp, Inv.call' (ch := []) I rfl ⟨fun b o q _ _ _ => hk b o q, fun b o q _ _ _ => ⟨o.slots, hk b o q⟩, fun b o q nn _ => ?_, fun b o q _ => ⟨o, hk b o q⟩, fun b xs q => kp b _ q, fun b o u q => kp b _ q, fun b ps q => ⟨#[], by rw [kp b _ q]; simp⟩⟩ ?_ I.bare fun b hb => nomatch hb⟩
  · rw [over_off (low b o q)]; exact nn
  · intro b u q
    cases e : N b with
    | some v => rw [over_at e] at q; cases q; exact (new b u e).2
    | none =>
      rw [over_off e] at q
      exact (I.hok b u q).stay (fun c ob _ z => hk c ob z) (fun c z => kp c _ z) fun c xs z => kp c _ z
theorem sqt_grow {a : Addr} {xs : List V} (kp : ∀ b u, H b = some u → H' b = some u) (h : SqT K H a xs) : SqT K H' a xs := by
  rcases h with (h | ⟨o, h⟩) | h
  · exact .inl (.inl (kp _ _ h))
  · exact .inl (.inr ⟨o, kp _ _ h⟩)
  · exact .inr h
theorem ext_grow (kp : ∀ b u, H b = some u → H' b = some u) : Ext K H μ n H' μ n := ⟨fun _ _ h => sqt_grow kp h, fun _ _ => rfl, fun _ _ _ h => kp _ _ h, Nat.le_refl _⟩
theorem MemRep.grow (m : MemRep K w H M μ) (kp : ∀ b u, H b = some u → H' b = some u) : MemRep K w H' M μ :=
  ⟨fun l o h => (m.at_ l o h).move (ext_grow kp) fun u _ hu => kp _ _ hu, m.inj⟩
theorem MemRep.allocG (m : MemRep K w H M μ) (kp : ∀ b u, H b = some u → H' b = some u) (hp : H p = none) (new : MRep K w H' (put μ M.length p) (M.length + 1) p o) :
    MemRep K w H' (M ++ [o]) (put μ M.length p) ∧ Ext K H μ M.length H' (put μ M.length p) (M ++ [o]).length := by
  have hlen : (M ++ [o]).length = M.length + 1 := by simp
  have ex : Ext K H μ M.length H' (put μ M.length p) (M.length + 1) := ⟨fun _ _ h => sqt_grow kp h, fun _ hl => put_lt hl, fun _ _ _ h => kp _ _ h, Nat.le_succ _⟩
  have cas : ∀ (l : Nat) (o1 : MO), (M ++ [o])[l]? = some o1 → (l < M.length ∧ M[l]? = some o1) ∨ (l = M.length ∧ o1 = o) := fun l o1 h => by
    by_cases hl : l < M.length
    · rw [List.getElem?_append_left hl] at h; exact .inl ⟨hl, h⟩
    · have hlt := (List.getElem?_eq_some_iff.mp h).1
      have e : l = M.length := by omega
      subst e
      rw [List.getElem?_append_right (Nat.le_refl _)] at h
      simp at h
      exact .inr ⟨rfl, h.symm⟩
  have tr : ∀ (l : Nat) (o1 : MO), M[l]? = some o1 → o1.mut = true → μ l ≠ p := fun l o1 h hm z => by
    have mu := (m.at_ l o1 h).mutable hm
    rw [z, hp] at mu; exact mu
  refine ⟨⟨fun l o1 h => ?_, fun l1 l2 o1 o2 h1 h2 m1 m2 e => ?_⟩, by rw [hlen]; exact ex⟩
  · rw [hlen]
    rcases cas l o1 h with ⟨hl, h'⟩ | ⟨rfl, rfl⟩
    · rw [put_lt hl]
      exact (m.at_ l o1 h').move ex fun u _ hu => kp _ _ hu
    · rw [put_at]; exact new
  · rcases cas l1 o1 h1 with ⟨hl1, h1'⟩ | ⟨rfl, rfl⟩ <;> rcases cas l2 o2 h2 with ⟨hl2, h2'⟩ | ⟨rfl, rfl⟩
    · rw [put_lt hl1, put_lt hl2] at e; exact m.inj l1 l2 o1 o2 h1' h2' m1 m2 e
    · rw [put_lt hl1, put_at] at e; exact absurd e (tr l1 o1 h1' m1)
    · rw [put_lt hl2, put_at] at e; exact absurd e.symm (tr l2 o2 h2' m2)
    · rfl
end
/-! ### list(d.items()) -/
def itemsP (kvs : List (P × P)) : List P := kvs.map fun kv => .tup [kv.1, kv.2]
def eItems (fa : FE) : FE := fun ρ M => (fa ρ M).bind fun p M1 => match p with
  | .loc l => (match dictOfM M1 l with
    | some kvs => .ok (.loc M1.length) (M1 ++ [.lst (itemsP kvs)])
    | none => .bad)
  | _ => .bad
section
variable {X : Cx} {W : WX}
theorem items_made {pins : List (Addr × Obj)} {σ σ' : L2.St} {H : Hp} {s s1 : Shared} {M : Mem} {μ : Nat → Addr} {l : Nat} {kvs : List (P × P)} {nk : List NestedKey} {ks vs : List V} {es : Array DictEntry} {h' : Heap} {tk c : Nat} {acc : Array Value} {as : List Addr} {Q : VK}
    (I1 : Inv X pins σ H s1) (m : MemRep X.K X.w H M μ) (cel : DCell X H s μ M.length (μ l) kvs nk ks vs es) (hk : ∀ b o, s1.heap.get? b = some o → h'.get? b = some o) (hS : h'.get? s1.heap.objs.size = some { cls := .type "list", data := .seq acc c }) (hl : as.length = es.size) (hG : Pairs2 es s1.heap.objs.size h' as)
    (hacc : acc.toList = as.map Value.ref) (sat : Sat X.K X.w X.mg (Tr X.K) W σ' H μ M.length Q (.ok (.loc M.length) (M ++ [.lst (itemsP kvs)]))) : EP X pins σ Q (.ref s1.heap.objs.size) { s1 with heap := h', toks := tk } := by
  have hlen : ks.length = vs.length := by rw [← cel.tk.length, ← cel.tv.length]; simp
  obtain ⟨z1, z2⟩ := Paired.zip_key cel.rel hlen
  have hes : es.size = ks.length := by rw [← z1, Array.length_toList]
  have hS' : s1.heap.objs.size ∉ as := fun z => Nat.lt_irrefl _ (hG.above _ z)
  have nd : as.Nodup := hG.rise.imp fun h => Nat.ne_of_lt h
  let N : Addr → Option HO := fun b => if b = s1.heap.objs.size then some (.lst (as.map V.ref)) else match as.findIdx? (fun a => decide (a = b)) with
    | some j => (match ks[j]?, vs[j]? with
      | some k, some v => some (.tup [k, v])
      | _, _ => none)
    | none => none
  have hN0 : N s1.heap.objs.size = some (.lst (as.map V.ref)) := if_pos rfl
  have hNa : ∀ (j : Nat) (a : Addr), as[j]? = some a → ∃ k v, ks[j]? = some k ∧ vs[j]? = some v ∧ N a = some (.tup [k, v]) := by
    intro j a hj
    have jl : j < as.length := (List.getElem?_eq_some_iff.mp hj).1
    have hfi : as.findIdx? (fun x => decide (x = a)) = some j := by
      rw [List.findIdx?_eq_some_iff_getElem]
      refine ⟨jl, by simp [(List.getElem?_eq_some_iff.mp hj).2], fun i hij => ?_⟩
      simp only [decide_eq_true_eq]
      intro z
      have := (List.getElem?_eq_some_iff.mp hj).2
      have e := (List.getElem_inj nd).mp (z.trans this.symm)
      omega
    obtain ⟨k, hk'⟩ : ∃ k, ks[j]? = some k := ⟨_, List.getElem?_eq_getElem (by omega)⟩
    obtain ⟨v, hv'⟩ : ∃ v, vs[j]? = some v := ⟨_, List.getElem?_eq_getElem (by omega)⟩
    refine ⟨k, v, hk', hv', ?_⟩
    have hne : a ≠ s1.heap.objs.size := fun z => hS' (z ▸ List.mem_of_getElem? hj)
    show (if a = s1.heap.objs.size then _ else _) = _
    rw [if_neg hne, hfi]
    simp only [hk', hv']
  have hNb : ∀ b o, N b = some o → (b = s1.heap.objs.size ∧ o = .lst (as.map V.ref)) ∨ ∃ (j : Nat) (k v : V), as[j]? = some b ∧ ks[j]? = some k ∧ vs[j]? = some v ∧ o = .tup [k, v] := by
    intro b o h
    by_cases hb : b = s1.heap.objs.size
    · subst hb; rw [hN0] at h; cases h; exact .inl ⟨rfl, rfl⟩
    · have h : (match as.findIdx? (fun a => decide (a = b)) with | some j => (match ks[j]?, vs[j]? with | some k, some v => some (HO.tup [k, v]) | _, _ => none) | none => none) = some o := by
        have z : (if b = s1.heap.objs.size then some (HO.lst (as.map V.ref)) else match as.findIdx? (fun a => decide (a = b)) with | some j => (match ks[j]?, vs[j]? with | some k, some v => some (HO.tup [k, v]) | _, _ => none) | none => none) = some o := h
        rwa [if_neg hb] at z
      cases e : as.findIdx? (fun a => decide (a = b)) with
      | none => rw [e] at h; cases h
      | some j =>
        obtain ⟨jl, e1, _⟩ := List.findIdx?_eq_some_iff_getElem.mp e
        have e1 : as[j] = b := by simpa using e1
        have haj : as[j]? = some b := by rw [List.getElem?_eq_getElem jl, e1]
        obtain ⟨k, v, hk', hv', _⟩ := hNa j b haj
        rw [e] at h
        simp only [hk', hv'] at h
        cases h
        exact .inr ⟨j, k, v, haj, hk', hv', rfl⟩
  obtain ⟨kp, I2⟩ := laid_all (tk := tk) I1 hk (N := N) (fun b o h => by
    rcases hNb b o h with ⟨rfl, rfl⟩ | ⟨j, k, v, haj, hk', hv', rfl⟩
    · refine ⟨Nat.le_refl _, ?_, as.map Value.ref, c, LiI.vals_refs as, ?_⟩
      · rw [List.length_map, hl, cel.count]; exact cel.size
      · rw [← hacc]; simpa using hS
    · obtain ⟨e, e1, e2⟩ := hG.pairs j b haj
      have rk : RelV k e.key := z2 (by rw [Array.getElem?_toList]; exact e1) hk'
      have rv : RelV v e.val := Paired.zip_get cel.rel (by rw [Array.getElem?_toList]; exact e1) hlen hv'
      exact ⟨Nat.le_of_lt (hG.above b (List.mem_of_getElem? haj)), by show 2 ≤ sizeLine; decide, [e.key, e.val], .cons rk (.cons rv .nil), _, e2, rfl, 0, rfl⟩)
  have hp : H s1.heap.objs.size = none := HOk.fresh I1.hok (Nat.le_refl _)
  have ex : Ext X.K H μ M.length (over H N) (put μ M.length s1.heap.objs.size) (M.length + 1) := ⟨fun _ _ h => sqt_grow kp h, fun _ hl => put_lt hl, fun _ _ _ h => kp _ _ h, Nat.le_succ _⟩
  have tItems : ∀ (j : Nat) (as' : List Addr) (kvs' : List (P × P)), as' = as.drop j → kvs' = kvs.drop j → Trs X.K (over H N) (put μ M.length s1.heap.objs.size) (M.length + 1) (itemsP kvs') (as'.map V.ref) := by
    intro j as'
    induction as' generalizing j with
    | nil =>
      intro kvs' e1 e2
      have : kvs' = [] := by
        have z : as.length ≤ j := by simpa using e1.symm
        rw [e2]; simp; rw [← cel.count, ← hl]; exact z
      subst this
      exact .nil
    | cons a as' ih =>
      intro kvs' e1 e2
      have jl : j < as.length := by
        rcases Nat.lt_or_ge j as.length with h | h
        · exact h
        · rw [List.drop_eq_nil_of_le h] at e1; cases e1
      have haj : as[j]? = some a := by
        have z : (as.drop j)[0]? = some a := by rw [← e1]; rfl
        rwa [List.getElem?_drop, Nat.add_zero] at z
      have hdr : as' = as.drop (j + 1) := by
        have z : (as.drop j).tail = as' := by rw [← e1]; rfl
        rw [List.tail_drop] at z
        exact z.symm
      have kl : j < kvs.length := by rw [← cel.count, ← hl]; exact jl
      have hkv : kvs' = kvs[j] :: kvs.drop (j + 1) := by rw [e2]; exact List.drop_eq_getElem_cons kl
      subst hkv
      obtain ⟨k, v, hk', hv', hNa'⟩ := hNa j a haj
      obtain ⟨k2, hk2, tk2⟩ := cel.tk.get (i := j) (p := kvs[j].1) (by rw [List.getElem?_map, List.getElem?_eq_getElem kl]; rfl)
      obtain ⟨v2, hv2, tv2⟩ := cel.tv.get (i := j) (p := kvs[j].2) (by rw [List.getElem?_map, List.getElem?_eq_getElem kl]; rfl)
      rw [hk'] at hk2
      cases hk2
      rw [hv'] at hv2
      cases hv2
      exact .cons (.tup (SqT.of (over_at hNa')) (.cons (tk2.mono ex) (.cons (tv2.mono ex) .nil))) (ih (j + 1) (kvs.drop (j + 1)) hdr rfl)
  have new : MRep X.K X.w (over H N) (put μ M.length s1.heap.objs.size) (M.length + 1) s1.heap.objs.size (.lst (itemsP kvs)) := .lst (over_at hN0) (tItems 0 as kvs rfl rfl)
  obtain ⟨m2, e2⟩ := m.allocG kp hp new
  refine ⟨.ref s1.heap.objs.size, over H N, I2, rfl, ?_⟩
  have tr : Tr X.K (over H N) (put μ M.length s1.heap.objs.size) (M ++ [MO.lst (itemsP kvs)]).length (.loc M.length) (.ref (put μ M.length s1.heap.objs.size M.length)) := .loc (by rw [List.length_append]; exact Nat.lt_succ_self _)
  rw [put_at] at tr
  exact sat _ _ _ e2 m2 tr
end
end TV
end
section
set_option linter.all false
set_option maxRecDepth 100000
set_option maxHeartbeats 2000000
set_option autoImplicit false
namespace TV
open PySem PySem.Spec PyProof.Rows L2
section
variable {X : Cx} {W : WX} {a b : Expr} {fa fb : FE}
theorem q_listItems {p apos cpos pos : Pos} (hc : X.calm = true) (ha : QE X W a fa) (hg : Gl X "list") (hm : X.mg "list" = none) (hbase : attributeBase a "items" X.env (eval a X.env) = eval a X.env := by rfl) (hline : (apos.endLine == cpos.line) = true := by rfl)
    (hs : starEach [.Call (.Attribute a "items" apos) [] [] cpos] X.env = (false, eval (.Call (.Attribute a "items" apos) [] [] cpos) X.env) :: starEach [] X.env := by rfl) :
    QE X W (.Call (.Name "list" p) [.Call (.Attribute a "items" apos) [] [] cpos] [] pos) (eItems fa) := by
  refine ⟨fun pins s σ H Q I h => ?_⟩
  obtain ⟨ρ, M, μ, rep, sat⟩ := h
  refine wpAny_Call_Name_kw (ld_blt I hg hm (by rfl : bootBuiltins "list" = some (.type "list")) (callWith_type1 ?_ hs rfl) (by decide) (by decide))
  rw [hs]
  refine Calls.spliced_cons (wpAny_Call_method hbase rfl hline F.plainAttrs_dict F.slot_dict_items F.type_dict_items (thn (ha.run pins s σ H _ I ⟨ρ, M, μ, rep, Sat.bind sat⟩) fun u s1 hx => ?_))
  obtain ⟨x, H1, I1, rx, q, M1, μ1, _, e1, m1, t1, s1'⟩ := hx
  cases t1 with
  | @loc l hl =>
    have rx : u = Value.ref (μ1 l) := rx
    subst rx
    have s2 : Sat X.K X.w X.mg (Tr X.K) W σ H1 μ1 M1.length Q (match dictOfM M1 l with | some kvs => .ok (.loc M1.length) (M1 ++ [.lst (itemsP kvs)]) | none => .bad) := s1'
    cases ed : dictOfM M1 l with
    | none => rw [ed] at s2; exact s2.elim
    | some kvs =>
      rw [ed] at s2
      obtain ⟨nk, ks, vs, es, c⟩ := dcellM I1 m1 ed
      obtain ⟨o, ho, hx, hd⟩ := c.x.ex
      have raw : s1.heap.DictRaw (μ1 l) es es.size := ⟨o, ho, hx, hd⟩
      have I2 : Inv X pins σ H1 { s1 with heap := s1.heap.push { cls := .type "dict_items", data := .fields #[.ref (μ1 l)] } } := I1.kept (t' := s1.toks) fun b ob q => Heap.get?_push_of_some _ q
      refine ⟨c.x.ty, fun ad e => by cases e; exact ⟨o, ho, hx.2.1⟩, ?_⟩
      refine method_meetsIn F.slot_dict_items F.entry_dict_items rfl (PySem.evalArgs_none ⟨rfl, c.x.ty, F.args_dict_items_1 (.ref (μ1 l)), _, meets_dict_items_raw (μ1 l) c.sys, ⟨⟨es, es.size, raw⟩, Calls.spliced_nil ?_⟩⟩)
      refine items_list (s := { s1 with heap := s1.heap.push { cls := .type "dict_items", data := .fields #[.ref (μ1 l)] } }) (I1.ok.hd hc) ⟨_, Heap.get?_push_size s1.heap rfl, rfl, rfl⟩ (DictRaw.at' raw fun o e => Heap.get?_push_of_some _ e) (by rw [c.count]; exact c.size) fun h' tk acc cc as hk hS hl hG hacc => ?_
      exact items_made (s := s1) I2 m1 c hk hS hl hG hacc s2
  | _ => exact s1'.elim
/-! ### xs.append(e) -/
def eApp (fo fe : FE) : FE := fun ρ M => (fo ρ M).bind fun p M1 => match p with
  | .loc l => (match M1[l]? with
    | some (.lst _) => (fe ρ M1).bind fun y M2 => (match M2[l]? with
      | some (.lst xs) => if xs.length < sizeLine then .ok .non (M2.set l (.lst (xs ++ [y]))) else .bad
      | _ => .bad)
    | _ => .bad)
  | _ => .bad
theorem q_append {apos cpos : Pos} (ha : QE X W a fa) (hb : QE X W b fb) (hbase : attributeBase a "append" X.env (eval a X.env) = eval a X.env := by rfl)
    (hall : (((backTo cpos (starEach [b] X.env)).all fun x => !x.1) && (backToKw cpos (keywordEach [] X.env)).all (fun x => x.1.isSome) && decide (([b].length + ([] : List (Option Str × Expr)).length + if ([] : List (Option Str × Expr)).isEmpty = true then 0 else 1) < 30)) = true := by rfl)
    (hline : (apos.endLine == cpos.line) = true := by rfl) (he : starEach [b] X.env = (false, eval b X.env) :: starEach [] X.env := by rfl) (hpl : (backTo cpos (starEach [] X.env)).any (·.1) = false := by rfl) :
    QE X W (.Call (.Attribute a "append" apos) [b] [] cpos) (eApp fa fb) := by
  refine PE_weak (pe_bm F.plainAttrs_list F.slot_list_append F.type_list_append mt_append ha (q_cons hb q_nil he) hbase hall hline he hpl) fun σ H Q ⟨ρ, M, μ, rep, s⟩ => ⟨ρ, M, μ, rep, (Sat.bind s).imp fun x H1 ⟨p, M1, μ1, _, e1, m1, t1, s1⟩ => ?_⟩
  have rep1 := rep.mono e1 m1
  cases t1 with
  | @loc l hl =>
    have s1 : Sat X.K X.w X.mg (Tr X.K) W σ H1 μ1 M1.length Q (match M1[l]? with | some (.lst _) => (fb ρ M1).bind fun y M2 => (match M2[l]? with | some (.lst xs) => if xs.length < sizeLine then .ok .non (M2.set l (.lst (xs ++ [y]))) else .bad | _ => .bad) | _ => .bad) := s1
    cases el : M1[l]? with
    | none => rw [el] at s1; exact s1.elim
    | some ob =>
      rw [el] at s1
      cases ob with
      | lst zs =>
        dsimp only at s1
        obtain ⟨vs, sq, ts, hv⟩ := (m1.at_ l _ el).sqL
        refine ⟨.inl ⟨rfl, vs, sq⟩, ρ, M1, μ1, rep1, ?_⟩
        cases q : fb ρ M1 with
        | bad => rw [q] at s1; exact s1.elim
        | exc c fs M' =>
          rw [q] at s1
          show Sat _ _ _ _ _ _ _ _ _ _ (aCons fb aNil ρ M1)
          unfold aCons
          rw [q]
          exact s1
        | ok y M2 =>
          rw [q] at s1
          show Sat _ _ _ _ _ _ _ _ _ _ (aCons fb aNil ρ M1)
          unfold aCons
          rw [q]
          intro ws H2 μ2 e2 m2 t2
          obtain ⟨w1, rfl, tw⟩ := trs1 t2
          have s2 : Sat X.K X.w X.mg (Tr X.K) W σ H2 μ2 M2.length Q (match M2[l]? with | some (.lst xs) => if xs.length < sizeLine then .ok .non (M2.set l (.lst (xs ++ [y]))) else .bad | _ => .bad) := Sat.ext s1 e2
          cases el2 : M2[l]? with
          | none => rw [el2] at s2; exact s2.elim
          | some ob2 =>
            rw [el2] at s2
            cases ob2 with
            | lst xs =>
              dsimp only at s2
              by_cases hz : xs.length < sizeLine
              · rw [if_pos hz] at s2
                obtain ⟨vs2, sq2, ts2, hv2⟩ := (m2.at_ l _ el2).sqL
                refine ⟨μ2 l, vs2, w1, by rw [e2.same l hl], rfl, hv2, by rw [← ts2.length]; exact hz, sat_write m2 el2 hv2 (ts2.append (.cons tw .nil)) (fun _ _ _ => .non) s2⟩
              · rw [if_neg hz] at s2; exact s2.elim
            | dct _ => exact s2.elim
            | dctL _ => exact s2.elim
            | scr _ => exact s2.elim
      | dct _ => exact s1.elim
      | dctL _ => exact s1.elim
      | scr _ => exact s1.elim
  | _ => exact s1.elim
end
end TV
end
section
set_option linter.all false
set_option maxRecDepth 100000
set_option maxHeartbeats 2000000
set_option autoImplicit false
namespace TV
open PySem PySem.Spec PyProof.Rows L2
/-! ### dict(list of pairs) -/
structure DL (K : PySem.W.Frag) (w : World) (H : Hp) (μ : Nat → Addr) (n : Nat) (kvs : List (P × P)) (nk : List NestedKey) (ks vs : List V) (es : Array DictEntry) : Prop where
  tk : Trs K H μ n (kvs.map (·.1)) ks
  tv : Trs K H μ n (kvs.map (·.2)) vs
  key : keysOf (kvs.map (·.1)) = some nk
  dep : ∀ k ∈ nk, k.depth ≤ 8
  size : kvs.length ≤ sizeLine
  nd : nk.Nodup
  hash : es.toList.map (·.hash) = nk.map (·.hash w)
  rel : Paired (fun (p : V × V) (e : DictEntry) => RelV p.1 e.key ∧ RelV p.2 e.val) (ks.zip vs) es.toList
theorem hash_modify (l : List DictEntry) (j : Nat) (u : Value) : (l.modify j fun e => { e with val := u }).map (·.hash) = l.map (·.hash) := by
  apply List.ext_getElem?
  intro i
  rw [List.getElem?_map, List.getElem?_map, List.getElem?_modify]
  split
  · cases l[i]? <;> rfl
  · simp
section
variable {K : PySem.W.Frag} {w : World} {H : Hp} {μ : Nat → Addr} {n : Nat} {kvs : List (P × P)} {nk : List NestedKey} {ks vs : List V} {es : Array DictEntry}
theorem DL.len (c : DL K w H μ n kvs nk ks vs es) : ks.length = vs.length := by rw [← c.tk.length, ← c.tv.length]; simp
theorem DL.put {i v : V} {iv u : Value} {pi pv : P} {k : NestedKey} {ks' : List NestedKey} {es' : Array DictEntry} (c : DL K w H μ n kvs nk ks vs es) (t2 : Tr K H μ n pi i) (ri : RelV i iv) (ek : keyOf pi = some k) (hd : k.depth ≤ 8) (hz : kvs.length < sizeLine) (t3 : Tr K H μ n pv v) (rv : RelV v u) (nd' : ks'.Nodup)
    (cas : (∃ j, TD.placeOf nk k = some j ∧ ks' = nk ∧ es' = es.modify j fun e => { e with val := u }) ∨ (TD.placeOf nk k = none ∧ ks' = nk ++ [k] ∧ es' = es.push ⟨k.hash w, iv, u⟩)) : ∃ ks2 vs2, DL K w H μ n (putK kvs k pi pv) ks' ks2 vs2 es' := by
  rcases cas with ⟨j, hj, rfl, rfl⟩ | ⟨hj, rfl, rfl⟩
  · obtain ⟨kv, g1, g2⟩ := put_some (q := pv) c.key c.nd hj
    have hput : putK kvs k pi pv = kvs.set j (kv.1, pv) := by
      unfold putK
      rw [has_of c.key, hj, if_pos (show (some j).isSome = true from rfl), g2]
    have e1 : (kvs.set j (kv.1, pv)).map (·.1) = kvs.map (·.1) := by
      rw [List.map_set]
      exact set_same (by rw [List.getElem?_map, g1]; rfl)
    have e2 : (kvs.set j (kv.1, pv)).map (·.2) = (kvs.map (·.2)).set j pv := by rw [List.map_set]
    have hm : (es.modify j fun e => { e with val := u }).toList.map (·.hash) = es.toList.map (·.hash) := by
      rw [Array.toList_modify]
      exact hash_modify es.toList j u
    exact ⟨ks, vs.set j v, by rw [hput, e1]; exact c.tk, by rw [hput, e2]; exact Trs.set t3 j c.tv, by rw [hput, e1]; exact c.key, c.dep, by rw [hput, List.length_set]; exact c.size, c.nd, by rw [hm]; exact c.hash, by rw [Array.toList_modify]; exact Paired.zip_set j c.len c.rel rv⟩
  · have hput : putK kvs k pi pv = kvs ++ [(pi, pv)] := by
      unfold putK
      rw [has_of c.key, hj, if_neg (by simp)]
    refine ⟨ks ++ [i], vs ++ [v], by rw [hput, List.map_append]; exact c.tk.append (.cons t2 .nil), by rw [hput, List.map_append]; exact c.tv.append (.cons t3 .nil), by rw [hput, List.map_append]; exact keysOf_append c.key ek, ?_, by rw [hput, List.length_append]; exact hz, nd', ?_, ?_⟩
    · intro k' hk'
      rcases List.mem_append.mp hk' with z | z
      · exact c.dep k' z
      · rw [List.mem_singleton.mp z]; exact hd
    · rw [Array.toList_push, List.map_append, List.map_append, c.hash]; rfl
    · rw [Array.toList_push, List.zip_append c.len]; exact Paired.append c.rel (.cons ⟨ri, rv⟩ .nil)
end
/-- a list of pairs -/
def pairsP : List P → Option (List (P × P))
  | [] => some []
  | .tup [k, v] :: ps => (pairsP ps).map ((k, v) :: ·)
  | _ :: _ => none
def pDictOf : OpN := fun ps M => match ps with
  | [.loc l] => (match (seqM M l).bind pairsP with
    | some kvs => (match addAll [] kvs with
      | some kvs' => if kvs.length ≤ sizeLine then .ok (.loc M.length) (M ++ [.dct kvs']) else .bad
      | none => .bad)
    | none => .bad)
  | _ => .bad
theorem addAll_snoc : ∀ {kvs : List (P × P)} {ps : List (P × P)} {k v : P} {out : List (P × P)}, addAll kvs (ps ++ [(k, v)]) = some out → ∃ mid nk, addAll kvs ps = some mid ∧ keyOf k = some nk ∧ nk.depth ≤ 8 ∧ mid.length < sizeLine ∧ out = putK mid nk k v
  | kvs, [], k, v, out, h => by
    rw [List.nil_append] at h
    unfold addAll at h
    cases e : keyOf k with
    | none => rw [e] at h; cases h
    | some nk =>
      rw [e] at h
      dsimp only at h
      by_cases hc : nk.depth ≤ 8 ∧ kvs.length < sizeLine
      · rw [if_pos hc] at h
        cases h
        exact ⟨kvs, nk, rfl, rfl, hc.1, hc.2, rfl⟩
      · rw [if_neg hc] at h; cases h
  | kvs, (p, q) :: ps, k, v, out, h => by
    unfold addAll at h
    rw [List.cons_append] at h
    dsimp only at h
    cases e : keyOf p with
    | none => rw [e] at h; cases h
    | some nk =>
      rw [e] at h
      dsimp only at h
      by_cases hc : nk.depth ≤ 8 ∧ kvs.length < sizeLine
      · rw [if_pos hc] at h
        obtain ⟨mid, nk2, a1, a2, a3, a4, a5⟩ := addAll_snoc h
        refine ⟨mid, nk2, ?_, a2, a3, a4, a5⟩
        unfold addAll
        rw [e]
        dsimp only
        rw [if_pos hc]
        exact a1
      · rw [if_neg hc] at h; cases h
theorem addAll_take {ps out : List (P × P)} (h : addAll [] ps = some out) : ∀ i, ∃ mid, addAll [] (ps.take i) = some mid := by
  have key : ∀ (k : Nat) (ps out : List (P × P)), addAll [] ps = some out → ∃ mid, addAll [] (ps.take (ps.length - k)) = some mid := by
    intro k
    induction k with
    | zero => intro ps out h; exact ⟨out, by rw [Nat.sub_zero, List.take_length]; exact h⟩
    | succ k ih =>
      intro ps out h
      rcases List.eq_nil_or_concat ps with rfl | ⟨qs, q, rfl⟩
      · exact ⟨[], by simp [addAll]⟩
      · rw [List.concat_eq_append] at h ⊢
        obtain ⟨mid, _, a1, _⟩ := addAll_snoc (k := q.1) (v := q.2) h
        obtain ⟨m2, b⟩ := ih qs mid a1
        refine ⟨m2, ?_⟩
        rw [List.length_append, List.length_singleton, Nat.add_sub_add_right, List.take_append_of_le_length (Nat.sub_le _ _)]
        exact b
  intro i
  by_cases hi : i ≤ ps.length
  · have := key (ps.length - i) ps out h
    rwa [Nat.sub_sub_self hi] at this
  · exact ⟨out, by rw [List.take_of_length_le (by omega)]; exact h⟩
section
variable {X : Cx} {W : WX}
theorem pairs_of {K : PySem.W.Frag} {H : Hp} {μ : Nat → Addr} {n : Nat} : ∀ {ps : List P} {vs : List V} {kvs : List (P × P)}, Trs K H μ n ps vs → pairsP ps = some kvs → Paired (fun (kv : P × P) (v : V) => ∃ a x y, v = .ref a ∧ SqT K H a [x, y] ∧ Tr K H μ n kv.1 x ∧ Tr K H μ n kv.2 y) kvs vs
  | _, _, _, .nil, e => by cases e; exact .nil
  | _, _, _, .cons (p := p) (ps := ps) t ts, e => by
    cases t with
    | @tup a xs qs sq tq =>
      match qs, tq, e with
      | [k, v], tq, e =>
        have e : (pairsP ps).map ((k, v) :: ·) = some _ := e
        cases e2 : pairsP ps with
        | none => rw [e2] at e; cases e
        | some kvs =>
          rw [e2] at e
          cases e
          obtain ⟨x, y, rfl, tx, ty⟩ := trs2 tq
          exact .cons ⟨a, x, y, rfl, sq, tx, ty⟩ (pairs_of ts e2)
      | [], _, e => cases e
      | [_], _, e => cases e
      | _ :: _ :: _ :: _, _, e => cases e
    | _ => cases e
theorem p_dictOf (hc : X.calm = true) (hu : X.A.units + 12 < cLine) : PrimN X W (.type "dict") pDictOf := by
  refine PrimN.of fun pins s σ σ' H xs us Q M μ ps I r m t sat => ?_
  unfold pDictOf at sat
  split at sat
  · rename_i l
    obtain ⟨x, rfl, tx⟩ := trs1 t
    obtain ⟨u, rfl, ru⟩ := vals1 r
    cases tx
    have ru : u = _ := ru
    subst ru
    cases e : seqM M l with
    | none => rw [e] at sat; exact sat.elim
    | some ys =>
      rw [e] at sat
      dsimp only [Option.bind] at sat
      cases e2 : pairsP ys with
      | none => rw [e2] at sat; exact sat.elim
      | some kvs =>
        rw [e2] at sat
        dsimp only at sat
        cases e3 : addAll [] kvs with
        | none => rw [e3] at sat; exact sat.elim
        | some kvs' =>
          rw [e3] at sat
          dsimp only at sat
          by_cases hz : kvs.length ≤ sizeLine
          · rw [if_pos hz] at sat
            obtain ⟨vs, sq, ts⟩ := seqM_sq m e
            obtain ⟨its, rv, pl, hzl⟩ := I.list sq
            have pr := pairs_of ts e2
            have hl1 : kvs.length = vs.length := pr.length
            have hl2 : vs.length = its.length := rv.length
            -- the j-th pair, in the heap
            have at_ : ∀ (j : Nat) (kv : P × P), kvs[j]? = some kv → ∃ (a : Addr) (x y : V) (k v : Value), its[j]? = some (.ref a) ∧ s.heap.IsTuple a #[k, v] ∧ RelV x k ∧ RelV y v ∧ Tr X.K H μ M.length kv.1 x ∧ Tr X.K H μ M.length kv.2 y := by
              intro j kv hj
              obtain ⟨w1, hw, a, x, y, rfl, sq2, t1, t2⟩ := LiI.paired_get pr hj
              obtain ⟨u1, hu1, ru1⟩ := rv.get hw
              have ru1 : u1 = .ref a := ru1
              subst ru1
              obtain ⟨it2, rv2, tu2, _⟩ := I.tuple sq2
              obtain ⟨k, v, rfl, rk, rvv⟩ := vals2 rv2
              exact ⟨a, x, y, k, v, hu1, tu2, rk, rvv, t1, t2⟩
            let Ts : Nat → Addr := fun j => match its[j]? with | some (.ref a) => a | _ => 0
            have fnd : ∃ ps : List (Value × Value), ps.length = kvs.length ∧ ∀ (j : Nat) (k v : Value), ps[j]? = some (k, v) → ∃ kv x y, kvs[j]? = some kv ∧ its[j]? = some (.ref (Ts j)) ∧ s.heap.IsTuple (Ts j) #[k, v] ∧ RelV x k ∧ RelV y v ∧ Tr X.K H μ M.length kv.1 x ∧ Tr X.K H μ M.length kv.2 y := by
              have all : ∀ j : Fin kvs.length, ∃ kvp : Value × Value, ∃ kv x y, kvs[j.1]? = some kv ∧ its[j.1]? = some (.ref (Ts j)) ∧ s.heap.IsTuple (Ts j) #[kvp.1, kvp.2] ∧ RelV x kvp.1 ∧ RelV y kvp.2 ∧ Tr X.K H μ M.length kv.1 x ∧ Tr X.K H μ M.length kv.2 y := by
                intro j
                obtain ⟨a, x, y, k, v, h1, h2, h3, h4, h5, h6⟩ := at_ j.1 _ (List.getElem?_eq_getElem j.2)
                have hT : Ts j = a := by show (match its[j.1]? with | some (.ref a) => a | _ => 0) = a; rw [h1]
                exact ⟨(k, v), _, x, y, List.getElem?_eq_getElem j.2, by rw [hT]; exact h1, by rw [hT]; exact h2, h3, h4, h5, h6⟩
              refine ⟨List.ofFn fun j => (all j).choose, List.length_ofFn, fun j k v hj => ?_⟩
              have hlt : j < kvs.length := by
                have := (List.getElem?_eq_some_iff.mp hj).1
                rwa [List.length_ofFn] at this
              rw [List.getElem?_ofFn, dif_pos hlt] at hj
              have hj := Option.some.inj hj
              have sp := (all ⟨j, hlt⟩).choose_spec
              rw [hj] at sp
              exact sp
            obtain ⟨pvs, hpl, hp⟩ := fnd
            have P1 := PairArg.list (prog := X.prog) (w := X.w) (μ l) its.toArray Ts pvs
            have ok : PlainSeq "list" s.heap (μ l) its.toArray ∧ PairItems s.heap its.toArray Ts pvs := by
              refine ⟨pl, by rw [List.size_toArray, hpl, hl1, hl2], fun j k v hj => ?_⟩
              obtain ⟨kv, x, y, h1, h2, h3, _⟩ := hp j k v hj
              exact ⟨by rw [List.getElem?_toArray]; exact h2, .inl h3⟩
            refine call_dict_arg P1 ok fun s₁ hs₁ hdf ok₁ => ?_
            subst hs₁
            have hd0 := HOk.fresh I.hok (Nat.le_refl s.heap.objs.size)
            have old : ∀ b o, s.heap.get? b = some o → b ≠ s.heap.objs.size := fun b o e z => Nat.lt_irrefl _ (z ▸ Heap.lt_size e)
            refine updateFrom_arg (A := X.A.in1) (Tab := fun i h => (∀ b o, s.heap.get? b = some o → h.get? b = some o) ∧ ∃ mid nk ks2 vs2 es, addAll [] (kvs.take i) = some mid ∧ DL X.K X.w H μ M.length mid nk ks2 vs2 es ∧ h.DictRaw s.heap.objs.size es es.size) P1 .none (I.ok.hd hc) ok₁ hdf ?_ ?_ ?_ ?_ ?_
            · exact ⟨fun b o e => Heap.get?_push_of_some _ e, [], [], [], [], #[], rfl, ⟨.nil, .nil, rfl, fun _ h => (nomatch h), Nat.zero_le _, List.nodup_nil, rfl, .nil⟩, _, Heap.get?_push_size s.heap rfl, ⟨rfl, rfl, rfl⟩, rfl⟩
            · rintro i h ⟨_, _, _, _, _, _, _, _, o, ho, _⟩
              exact Heap.lt_size ho
            · rintro i h h' wr' hdw hw ⟨kp, mid, nk, ks2, vs2, es, a1, a2, o, ho, hx⟩ kp'
              have kk : ∀ b o, s.heap.get? b = some o → b ∉ wr' := fun b o e z => by
                rcases hw b z with q | q
                · cases q
                · have := Heap.get?_push_of_some ({ cls := .type "dict", data := .dict #[] } : Obj) e
                  rw [this] at q; cases q
              exact ⟨fun b o e => kp' b o (kk b o e) (kp b o e), mid, nk, ks2, vs2, es, a1, a2, o, kp' _ o hdw ho, hx⟩
            · rintro i key v s' Q' E' hi hrel ⟨kp, mid, nk, ks2, vs2, es, a1, a2, o, ho, hx⟩ _ hQ'
              obtain ⟨kv, x, y, h1, h2, h3, h4, h5, h6, h7⟩ := hp i key v hrel
              have hi' : i < kvs.length := (List.getElem?_eq_some_iff.mp h1).1
              obtain ⟨nxt, hn⟩ := addAll_take e3 (i + 1)
              have htk : kvs.take (i + 1) = kvs.take i ++ [(kv.1, kv.2)] := by rw [List.take_succ, h1]; rfl
              rw [htk] at hn
              obtain ⟨mid', nk', b1, b2, b3, b4, b5⟩ := addAll_snoc hn
              rw [a1] at b1
              cases b1
              have ka := keysAre_of I a2.tk a2.len a2.rel a2.hash a2.key a2.dep
              have kpS : ∀ a ob vs n, s.heap.get? a = some ob → ob.data = .seq vs n → s'.heap.get? a = some ob := fun a ob _ _ e _ => kp a ob e
              have xx : TD.IsX X.w s'.heap s.heap.objs.size nk es := ⟨⟨o, ho, hx⟩, ka.keep kpS, a2.nd⟩
              refine TD.dset (A := X.A.in1.in1) (by show X.A.units + 1 + 1 + 8 < cLine; omega) xx (NestedIs.at kpS _ _ (nested_of I h6 h4 b2)) b3 ?_ fun h' ks' es' x' sb' cas => ?_
              · have z := a2.rel.length
                rw [List.length_zip, a2.len, Nat.min_self] at z
                have z1 : es.toList.length = es.size := Array.length_toList
                have z2 := a2.tv.length
                rw [List.length_map] at z2
                rw [← z1, ← z, ← z2]
                exact Nat.le_of_lt b4
              · obtain ⟨ks3, vs3, c3⟩ := a2.put h6 h4 b2 b3 b4 h7 h5 x'.nd cas
                refine hQ' h' _ ⟨fun b o e => by rw [sb'.2 b (old b o e)]; exact kp b o e, nxt, ks', ks3, vs3, es', by rw [htk]; exact hn, by rw [b5]; exact c3, x'.ex⟩ sb'
            · rintro h' tk ⟨kp, mid, nk, ks2, vs2, es, a1, a2, o, ho, hx⟩ _
              rw [hpl, List.take_length, e3] at a1
              cases a1
              refine ⟨rfl, ?_⟩
              have sys : (s.heap.objs.size == sysModules) = false := by
                rw [beq_eq_false_iff_ne]
                exact fun z => Nat.lt_irrefl _ (z ▸ I.big)
              have ex := ext_new (K := X.K) (μ := μ) (n := M.length) (O := .ext (DctAt s.heap.objs.size (ks2.zip vs2) (nk.map (·.hash X.w)))) hd0
              have I2 := I.laid (t' := tk) (o := .ext (DctAt s.heap.objs.size (ks2.zip vs2) (nk.map (·.hash X.w)))) kp (Nat.le_refl _) ⟨⟨o, es, ho, hx.1, hx.2, a2.rel, a2.hash⟩, ⟨o, ho⟩, fun h1 h2 a b => dctAt_keep a b⟩
              have m2 := m.alloc hd0 (o := .dct kvs') (O := .ext (DctAt s.heap.objs.size (ks2.zip vs2) (nk.map (·.hash X.w)))) (.dct upd_same (a2.tk.mono ex) (a2.tv.mono ex) a2.key a2.nd a2.dep a2.size sys)
              have tr : Tr X.K (upd H s.heap.objs.size (.ext (DctAt s.heap.objs.size (ks2.zip vs2) (nk.map (·.hash X.w))))) (put μ M.length s.heap.objs.size) (M ++ [MO.dct kvs']).length (.loc M.length) (.ref (put μ M.length s.heap.objs.size M.length)) := .loc (by rw [List.length_append]; exact Nat.lt_succ_self _)
              rw [put_at] at tr
              exact ⟨.ref s.heap.objs.size, _, I2, rfl, sat _ _ _ (by rw [List.length_append]; exact ex) m2 tr⟩
          · rw [if_neg hz] at sat; exact sat.elim
  · exact sat.elim
end
end TV
end
section
set_option linter.all false
set_option maxRecDepth 100000
set_option maxHeartbeats 2000000
set_option autoImplicit false
namespace TV
open PySem PySem.Spec PyProof.Rows L2
/-! ### next(iter(d), None) -/
def ItK (I d : Addr) (i n : Nat) : HO := .ext fun h => h.IsKeyIter I d i n n
section
variable {X : Cx} {W : WX} {a : Expr} {fa : FE}
theorem itK_ok {P₀ : Program} {w : World} {H : Hp} {h : Heap} {I d : Addr} {i n : Nat} (k : h.IsKeyIter I d i n n) : ObjOk P₀ w H h I (ItK I d i n) := by
  refine ⟨k, ?_, fun h1 h2 a b => Heap.IsKeyIter.at a fun o e => b o e⟩
  obtain ⟨o, e, _⟩ := k
  exact ⟨o, e⟩
theorem call_iterX : CallR X (.builtin "iter") fun xs H Q => ∃ d ks, xs = [.ref d] ∧ KeysAt d ks H ∧ ∀ I, H I = none → Q (.ref I) (upd H I (ItK I d 0 ks.length)) := by
  rintro pins s σ H xs us Q I r ⟨d, ks, rfl, ka, q⟩
  obtain ⟨u, rfl, ru⟩ := vals1 r
  have ru : u = .ref d := ru
  subst ru
  obtain ⟨es, raw, hz, _⟩ := ka.raw I
  refine Calls.call_function_entry (by decide) (by decide) PySem.W.kdk_entry_iter (PySem.W.kdk_args_iter (.ref d)) ?_
  show wpAny _ _ (Builtin.iter _) _ _ _
  refine wpAny_bind (wpAny_of_eq (rfl : someArgs "iter" 1 2 { pos := [.ref d] } = _) ?_)
  refine wpAny_bind (wpAny_pyIter_dict_raw ka.1 raw (wpAny_pure ⟨_, rfl, ?_⟩))
  have hI := HOk.fresh I.hok (Nat.le_refl s.heap.objs.size)
  have it : (s.heap.push { cls := .type "dict_keyiterator", data := .fields #[.ref d, .int 0 0, .int (es.size : Nat) 0, .int (es.size : Nat) 0] }).IsKeyIter s.heap.objs.size d 0 ks.length ks.length := ⟨_, Heap.get?_push_size s.heap rfl, rfl, by rw [← hz]; rfl⟩
  exact ⟨.ref s.heap.objs.size, _, I.laid (t' := s.toks) (fun b o e => Heap.get?_push_of_some _ e) (Nat.le_refl _) (itK_ok it), rfl, q _ hI⟩
theorem call_nextX : CallR X (.builtin "next") fun xs H Q => ∃ I d ks k y, xs = [.ref I, y] ∧ H I = some (ItK I d 0 ks.length) ∧ KeysAt d ks H ∧ ks[0]? = some k ∧ Q k (upd H I (ItK I d 1 ks.length)) := by
  rintro pins s σ H xs us Q I r ⟨It, d, ks, k, y, rfl, hI, ka, hk, q⟩
  obtain ⟨u, v, rfl, ru, rv⟩ := vals2 r
  have ru : u = .ref It := ru
  subst ru
  obtain ⟨es, raw, hz, hkey⟩ := ka.raw I
  have it : s.heap.IsKeyIter It d 0 ks.length ks.length := (I.hok It _ hI).1
  have hlt : 0 < es.size := by rw [hz]; exact (List.getElem?_eq_some_iff.mp hk).1
  refine Calls.call_function_entry (by decide) (by decide) PySem.W.kdk_entry_next (PySem.W.kdk_args_next2 (.ref It) v) ?_
  show wpAny _ _ (Builtin.next _) _ _ _
  refine wpAny_bind (wpAny_of_eq (rfl : someArgs "next" 1 2 { pos := [.ref It, v] } = _) ?_)
  refine wpAny_bind (wpAny_specialOf it.typeIs PySem.F.slot_dict_keyiterator_next.lookup ?_)
  refine wpAny_ite_split (fun hab => absurd hab (by decide)) fun _ => ?_
  rw [← hz] at it
  refine wpAny_bind (wpAny_pyNext_keys_item_raw it raw hlt fun h' it' sb => wpAny_pure ⟨_, rfl, ?_⟩)
  have mu : Mut (H It) := by rw [hI]; trivial
  rw [hz] at it'
  refine ⟨k, _, I.write (t' := s.toks) mu (.inl rfl) (fun b u hb e => (sb.2 b hb).trans e) ?_ (itK_ok it'), hkey (Array.getElem?_eq_getElem hlt) hk, q⟩
  obtain ⟨o, e, _⟩ := it'
  exact ⟨o, e⟩
def eNextIter (fa : FE) : FE := fun ρ M => (fa ρ M).bind fun p M1 => match p with
  | .loc l => (match M1[l]? with
    | some (.dct ((k, _) :: _)) => .ok k M1
    | _ => .bad)
  | _ => .bad
theorem q_nextIter {p1 p2 pos cpos npos : Pos} {kk : Nat} (hg1 : Gl X "next") (hm1 : X.mg "next" = none) (hg2 : Gl X "iter") (hm2 : X.mg "iter" = none) (ha : QE X W a fa)
    (hs1 : starEach [a] X.env = (false, eval a X.env) :: starEach [] X.env := by rfl)
    (hs2 : starEach (.Call (.Name "iter" p2) [a] [] cpos :: [.Constant .none kk npos]) X.env = (false, eval (.Call (.Name "iter" p2) [a] [] cpos) X.env) :: starEach [.Constant .none kk npos] X.env := by rfl)
    (hs3 : starEach (.Constant .none kk npos :: []) X.env = (false, eval (.Constant .none kk npos) X.env) :: starEach [] X.env := by rfl)
    (hpl1 : (backTo cpos (starEach [] X.env)).any (·.1) = false := by rfl) (hpl2 : (backTo pos (starEach [.Constant .none kk npos] X.env)).any (·.1) = false := by rfl) :
    QE X W (.Call (.Name "next" p1) [.Call (.Name "iter" p2) [a] [] cpos, .Constant .none kk npos] [] pos) (eNextIter fa) := by
  refine PE_weak (pe_callB call_nextX hg1 hm1 (by rfl) (pa_cons (pe_callB call_iterX hg2 hm2 (by rfl) (pa_cons ha pa_nil hs1) (by decide) (by decide) hs1 hpl1) (pa_cons pe_non pa_nil hs3) hs2) (by decide) (by decide) hs2 hpl2) fun σ H Q ⟨ρ, M, μ, rep, s⟩ => ⟨ρ, M, μ, rep, (Sat.bind s).imp fun x H1 ⟨p, M1, μ1, _, e1, m1, t1, s1⟩ => ?_⟩
  cases t1 with
  | @loc l hl =>
    have s1 : Sat X.K X.w X.mg (Tr X.K) W σ H1 μ1 M1.length Q (match M1[l]? with | some (.dct ((k, _) :: _)) => .ok k M1 | _ => .bad) := s1
    cases el : M1[l]? with
    | none => rw [el] at s1; exact s1.elim
    | some ob =>
      rw [el] at s1
      cases ob with
      | dct kvs =>
        cases kvs with
        | nil => exact s1.elim
        | cons kv rest =>
          obtain ⟨k, v⟩ := kv
          have mr := m1.at_ l _ el
          cases mr with
          | @dct _ ks vs nk hh tk tv key nd dep size sys =>
            have hlen : ks.length = vs.length := by rw [← tk.length, ← tv.length]; simp
            have ka : KeysAt (μ1 l) ks H1 := ⟨sys, vs, _, hlen, hh⟩
            obtain ⟨x0, hx0, tx0⟩ := tk.get (i := 0) (p := k) rfl
            refine ⟨μ1 l, ks, rfl, ka, fun I hI => ⟨I, μ1 l, ks, x0, .non, rfl, upd_same, ⟨sys, vs, _, hlen, by rw [upd_ne (ne_of_none hh hI)]; exact hh⟩, hx0, ?_⟩⟩
            rw [upd_upd]
            exact s1 _ _ μ1 (ext_upd (.inr hI)) (m1.beside hI) (tx0.mono (ext_upd (.inr hI)))
      | lst _ => exact s1.elim
      | dctL _ => exact s1.elim
      | scr _ => exact s1.elim
  | _ => exact s1.elim
end
end TV
end
section
set_option linter.all false
set_option maxRecDepth 100000
set_option maxHeartbeats 2000000
set_option autoImplicit false
namespace TV
open PySem PySem.Spec PyProof.Rows L2
/-! ### a[::-1] -/
theorem applied_back {prog : Program} {w : World} {A : Around} {E : Value → Shared → Prop} {s : Shared} {sl : Addr} {t : Tok} {n : Nat} {Q : Int × Int × Nat → Shared → Prop} (hs : s.heap.IsSliceOf sl .none .none (.int (-1) t)) (h : Q ((n : Int) - 1, -1, n) s) :
    wpAny (model prog w) A (Builtin.Slice.sliceApplied (.ref sl) (pure (n : Int))) Q E s := by
  obtain ⟨os, hos, hcs, hds⟩ := hs
  unfold Builtin.Slice.sliceApplied
  refine wpAny_bind ?_
  unfold Builtin.Slice.sliceFields
  refine wpAny_bind (wpAny_field hos hds rfl (wpAny_bind (wpAny_field hos hds rfl (wpAny_bind (wpAny_field hos hds rfl (wpAny_pure ?_))))))
  refine wpAny_bind (HT.slicePart_ (.int (-1) t) ?_)
  show wpAny _ _ (ite _ _ _) _ _ _
  rw [if_neg (by decide)]
  refine wpAny_bind (HT.slicePart_ .none (wpAny_bind (HT.slicePart_ .none (wpAny_bind (wpAny_pure ?_)))))
  have e : Builtin.Slice.slicePlaces ((n : Int) - 1) (-1) (-1) = n := by
    unfold Builtin.Slice.slicePlaces
    rw [if_neg (by decide)]
    by_cases hn : n = 0
    · subst hn; rfl
    · rw [if_pos (by omega), show (-(-1 : Int)) = 1 from rfl, Int.ediv_one]
      omega
  have e2 : Builtin.Slice.sliceAdjust none none (-1) (n : Int) = ((n : Int) - 1, -1) := rfl
  show wpAny _ _ (match Builtin.Slice.sliceAdjust none none (-1) (n : Int) with | (lo, hi) => pure (lo, -1, Builtin.Slice.slicePlaces lo hi (-1))) _ _ _
  rw [e2]
  dsimp only
  rw [e]
  exact wpAny_pure h
theorem back_pick (xs : List Value) : (List.range xs.length).filterMap (fun k => xs[((xs.length : Int) - 1 + (k : Nat) * (-1)).toNat]?) = xs.reverse := by
  apply List.ext_getElem?
  intro i
  by_cases hi : i < xs.length
  · have key : ∀ m, m ≤ xs.length → (List.range m).filterMap (fun k => xs[((xs.length : Int) - 1 + (k : Nat) * (-1)).toNat]?) = xs.reverse.take m := by
      intro m
      induction m with
      | zero => intro _; simp
      | succ m ih =>
        intro hm
        rw [List.range_succ, List.filterMap_append, ih (by omega)]
        have e : ((xs.length : Int) - 1 + (m : Nat) * (-1)).toNat = xs.length - 1 - m := by omega
        have hlt : xs.length - 1 - m < xs.length := by omega
        rw [List.take_succ]
        simp only [List.filterMap_cons, List.filterMap_nil, e, List.getElem?_eq_getElem hlt]
        rw [List.getElem?_reverse (by omega), List.getElem?_eq_getElem hlt]
        rfl
    rw [key xs.length (Nat.le_refl _), List.take_of_length_le (by simp)]
  · rw [List.getElem?_eq_none, List.getElem?_eq_none]
    · simp; omega
    · refine Nat.le_trans (List.length_filterMap_le _ _) ?_
      simp; omega
theorem getItem_back {prog : Program} {w : World} {A : Around} {E : Value → Shared → Prop} {s : Shared} {t sl : Addr} {items : List Value} {tk : Tok} {Q : Value → Shared → Prop} (ht : IsTup s.heap t items.toArray) (hs : s.heap.IsSliceOf sl .none .none (.int (-1) tk)) (hsz : items.length ≤ sizeLine)
    (h : Q (.ref s.heap.objs.size) { s with heap := s.heap.push { cls := .type "tuple", data := .seq items.reverse.toArray } }) : wpAny (model prog w) A (getItem (.ref t) (.ref sl)) Q E s := by
  obtain ⟨os, hos, hcs, hds⟩ := id hs
  have hTs : s.TypeIs (.ref sl) "slice" := ⟨os, hos, hcs⟩
  unfold getItem
  refine wpAny_holding (wpAny_bind (wpAny_sequenceKey ht.typeIs (by decide) (wpAny_bind (wpAny_callSpecial?_slot ht.typeIs slot_tuple_getitem (wpAny_call_entry slot_tuple_getitem ht.typeIs entry_tuple_getitem ?_ (args_tuple_getitem _ _))))))
  refine wpAny_bind (wpAny_pure (wpAny_bind (tupleItemsOf_ ht (wpAny_bind (wpAny_typeOf hTs ?_)))))
  rw [if_pos (by decide)]
  refine wpAny_bind (applied_back hs ?_)
  show wpAny _ _ (ite _ _ _) _ _ _
  rw [if_neg (by simp)]
  refine wpAny_bind ?_
  have e : (List.filterMap (fun k => items.toArray[((items.toArray.size : Int) - 1 + (k : Nat) * (-1)).toNat]?) (List.range items.toArray.size)).toArray = items.reverse.toArray := by
    rw [List.size_toArray]
    simp only [List.getElem?_toArray]
    rw [back_pick]
  show wpAny _ _ (Builtin.Tuple.tupleExact _) _ _ _
  rw [e]
  exact wpAny_newObj_type (wpAny_pure ⟨_, rfl, wpAny_pure h⟩) (by show items.reverse.toArray.size ≤ _; rw [List.size_toArray, List.length_reverse]; exact hsz)
theorem Vals.rev {xs : List V} {us : List Value} (r : Vals xs us) : Vals xs.reverse us.reverse := by
  induction r with
  | nil => exact .nil
  | cons a _ ih => rw [List.reverse_cons, List.reverse_cons]; exact Paired.append ih (.cons a .nil)
def pRev (p : P) (M : Mem) : Res P := match p with
  | .tup ps => .ok (.tup ps.reverse) M
  | .loc l => (match seqM M l with
    | some xs => .ok (.loc M.length) (M ++ [.lst xs.reverse])
    | none => .bad)
  | _ => .bad
def eRev (fa : FE) : FE := fun ρ M => (fa ρ M).bind pRev
section
variable {X : Cx} {W : WX} {a : Expr} {fa : FE}
theorem q_rev {k : Nat} {p1 p2 p3 pos : Pos} (ha : QE X W a fa) : QE X W (.Subscript a (.Slice none none (some (.UnaryOp .USub (.Constant (.int 1) k p1) p2)) p3) pos) (eRev fa) := by
  refine ⟨fun pins s σ H Q I h => ?_⟩
  obtain ⟨ρ, M, μ, rep, sat⟩ := h
  refine Subscript_ (thn (ha.run pins s σ H _ I ⟨ρ, M, μ, rep, Sat.bind sat⟩) fun v s1 hx => ?_)
  obtain ⟨x, H1, I1, rx, p, M1, μ1, _, e1, m1, t1, s1'⟩ := hx
  have hst := po_some (pe_un (X := X) (pos := p2) un_neg (pe_int (X := X) (i := 1) (j := k) (pos := p1)))
  refine wpAny_Slice (thn (po_none.run pins s1 σ H1 (fun o H2 => o = none ∧ H2 = H1) I1 ⟨rfl, rfl⟩) ?_)
  rintro vl s2 ⟨l, H2, I2, pl, rfl, rfl⟩
  refine thn (po_none.run pins s2 σ H2 (fun o H3 => o = none ∧ H3 = H2) I2 ⟨rfl, rfl⟩) ?_
  rintro vu s3 ⟨l3, H3, I3, pu, rfl, rfl⟩
  refine thn (hst.run pins s3 σ H3 (fun o H4 => o = some (-1) ∧ H4 = H3) I3 ⟨1, rfl, -1, rfl, rfl, rfl⟩) ?_
  rintro vs s4 ⟨l4, H4, I4, ps, rfl, rfl⟩
  cases pl
  cases pu
  cases ps with
  | int _ tk =>
  have I5 : Inv X pins σ H4 { s4 with heap := s4.heap.push { cls := .type "slice", data := .fields #[.none, .none, .int (-1) tk] } } := I4.kept (t' := s4.toks) fun b o q => Heap.get?_push_of_some _ q
  have isl : (s4.heap.push { cls := .type "slice", data := .fields #[.none, .none, .int (-1) tk] }).IsSliceOf s4.heap.objs.size .none .none (.int (-1) tk) := ⟨_, Heap.get?_push_size s4.heap rfl, rfl, rfl⟩
  have sq1 : ∀ (ad : Addr), v = .ref ad → True := fun _ _ => trivial
  cases t1 with
  | @tup ad xs qs sq ts =>
    have rx : v = .ref ad := rx
    subst rx
    obtain ⟨its, rv, tu, hz⟩ := I5.tuple sq
    have hl := rv.length
    refine tail_any (T := "tuple") tu.typeIs slot_tuple_getitem.lookup (getItem_back tu isl (by omega) ?_) rfl
    have hp := HOk.fresh I5.hok (Nat.le_refl _)
    exact ⟨.ref _, upd H4 _ (.tup xs.reverse), I5.laid (t' := s4.toks) (fun b o q => Heap.get?_push_of_some _ q) (Nat.le_refl _) ⟨by rw [List.length_reverse]; exact hz, its.reverse, Vals.rev rv, IsTup.new _ _⟩, rfl, sat_tup m1 ts.reverse s1' _ hp⟩
  | @loc l hl =>
    have rx : v = .ref (μ1 l) := rx
    subst rx
    have s2 : Sat X.K X.w X.mg (Tr X.K) W σ H4 μ1 M1.length Q (match seqM M1 l with | some xs => .ok (.loc M1.length) (M1 ++ [.lst xs.reverse]) | none => .bad) := s1'
    cases e : seqM M1 l with
    | none => rw [e] at s2; exact s2.elim
    | some xs =>
      rw [e] at s2
      obtain ⟨ws, sq, ts⟩ := seqM_sq m1 e
      obtain ⟨its, rv, pl, hz⟩ := I5.list sq
      have hlen := rv.length
      have hp := HOk.fresh I5.hok (Nat.le_refl _)
      refine tail_any (T := "list") pl.isList.typeIs PySem.F.slot_list_getitem.lookup (wpAny_getItem_list_slice pl.isList isl .none .none (.int (-1) tk) (by decide) ?_ (by rw [List.size_toArray]; omega)) rfl
      rw [PySem.W.krv_pick]
      exact ⟨.ref _, upd H4 _ (.lst ws.reverse), I5.laid (t' := s4.toks) (fun b o q => Heap.get?_push_of_some _ q) (Nat.le_refl _) ⟨by rw [List.length_reverse]; exact hz, its.reverse, 0, Vals.rev rv, Heap.get?_push_size _ rfl⟩, rfl, sat_list m1 ts.reverse s2 _ hp⟩
  | _ => exact s1'.elim
end
end TV
end
section
set_option linter.all false
set_option maxRecDepth 100000
set_option maxHeartbeats 2000000
set_option autoImplicit false
namespace TV
open PySem PySem.Spec PyProof.Rows L2
theorem ru {k c : Nat} {A : Around} (h : Room k A) (hc : c ≤ 200 := by decide) : A.units + c < cLine := by
  have := h.un
  omega
/-- the def x of the module does what F does -/
def Has (P₀ : Program) (w : World) (K : PySem.W.Frag) (mg : Str → Option Value) (base : Heap) (k : Nat) (x : Str) (ps : List Str) (F : OpN) : Prop :=
  ∃ fd, FnT P₀ w K mg base k (He.ga K x) fd ps F ∧ Binds K fd ps [] ∧ PySem.W.keepIn K (.ref (He.ga K x)) = true ∧ mg x = some (.ref (He.ga K x))
section
variable {X : Cx} {W : WX} {k j : Nat} {ps : List Str} {F : OpN} {x : Str} {p pos : Pos} {e : Expr} {es : List Expr} {fr : Rho → Mem → Res (List P)}
theorem q_hcall (G : Has X.prog X.w X.K X.mg X.base j x ps F) (hjk : j ≤ k) (hr : Room k X.A) (hgu : X.A.guards = some []) (hg : Gl X x) (tk : Takes X W) (ha : QA X W (e :: es) fr) (hdb : (x == ("__debug__" : Str)) = false := by decide)
    (he : starEach (e :: es) X.env = (false, eval e X.env) :: starEach es X.env := by rfl) (hpl : (backTo pos (starEach es X.env)).any (·.1) = false := by rfl) : QE X W (.Call (.Name x p) (e :: es) [] pos) (eArgs F fr) := by
  obtain ⟨fd, G1, G2, G3, G4⟩ := G
  exact q_call (G1.mono hjk) hr hgu hg G4 G3 G2 tk ha hdb he hpl
theorem q_hcall0 (G : Has X.prog X.w X.K X.mg X.base j x ps F) (hjk : j ≤ k) (hr : Room k X.A) (hgu : X.A.guards = some []) (hg : Gl X x) (tk : Takes X W) (hdb : (x == ("__debug__" : Str)) = false := by decide) : QE X W (.Call (.Name x p) [] [] pos) (eArgs F aNil) := by
  obtain ⟨fd, G1, G2, G3, G4⟩ := G
  exact q_call0 (G1.mono hjk) hr hgu hg G4 G3 G2 tk hdb
end
end TV
end
section
set_option linter.all false
set_option maxRecDepth 100000
set_option maxHeartbeats 2000000
set_option autoImplicit false
namespace TV
open PySem PySem.Spec PyProof.Rows L2
/-! ### raise X('..'), try .. except X: .. -/
def sRaise (c : Str) : FS := fun ρ M => .exc c [] ρ M
/-- m: which classes the clause takes -/
def sTry (g : FS) (m : Str → Option Bool) (h : FS) : FS := fun ρ M => match g ρ M with
  | .exc c fs ρ' M' => match m c with
    | some true => h ρ' M'
    | some false => .exc c fs ρ' M'
    | none => .bad
  | r => r
/-- what is known of an own exception class without an own __init__ -/
def ExcK (K : PySem.W.Frag) (C : Addr) : Prop := PySem.W.excIn K C He.veBase "ValueError.__new__" = true ∧ PySem.W.keepIn K (.ref C) = true ∧ PySem.W.subIn K (.ref C) (.type "BaseException") = some true ∧ PySem.W.typeIn K (.ref C) = some (.type "type")
section
variable {X : Cx} {W : WX}
theorem q_raise {x m : Str} {j : Nat} {p p2 pos pos' : Pos} {C : Addr} (hc : X.calm = true) (tk : Takes X W) (q : ExcK X.K C) (gC : X.mg x = some (.ref C)) (hg : Gl X x) (hdb : (x == ("__debug__" : Str)) = false := by decide) :
    QS X W (.Raise (some (.Call (.Name x p) [.Constant (.str m) j p2] [] pos)) none pos') (sRaise x) := by
  refine PS_weak (ps_raise hc tk (pmk_own PySem.F.excBase_ValueError q.1 gC q.2.1 (raises_own q.2.2.1 q.2.2.2) hg hdb)) fun D σ H ⟨ρ, M, μ, rep, s⟩ => ?_
  exact s C none σ H μ Ext.refl rep gC (.inl ⟨rfl, rfl⟩)
theorem q_try {x : Str} {C : Addr} {g h : FS} {m : Str → Option Bool} {body suite : List Stmt} {b₀ : Stmt} {np pos pos' : Pos} (hs : X.stack = X.env :: X.outer) (hf : X.env.frame = some X.env.locals) (hg : Gl X x) (gC : X.mg x = some (.ref C)) (tk : Takes X W)
    (hm : ∀ c b, m c = some b → ∀ D, X.mg c = some (.ref D) → PySem.W.exmOne X.K (.ref D) (.ref C) = some b)
    (hb : ∀ (W' : WX) (pn : List (Addr × Obj)) (xe : Value → Shared → Prop), Takes (X.tr pn xe) W' → PassesOwn (model X.prog X.w) X.A X.env xe → QSs (X.tr pn xe) W' body g)
    (hsu : ∀ (a : Addr) (oe : Obj) (cls : Value) (d : Option Addr) (pn : List (Addr × Obj)), Zc cls d oe → (∃ vs, oe.data = .fields vs) → QSs (X.suite a ((a, oe) :: pn)) W (b₀ :: suite) h)
    (hdb : (x == ("__debug__" : Str)) = false := by decide) :
    QS X W (.Try body [.ExceptHandler (some (.Name x np)) none (b₀ :: suite) pos'] [] [] pos) (sTry g m h) := by
  refine PS_weak (ps_try_only (tb := fun W' => semS X.K X.w X.mg W' g) (ts := fun _ _ _ => semS X.K X.w X.mg W h) hs hf ⟨hg, hdb, .inl gC⟩ tk hb hsu) fun D σ H ⟨ρ, M, μ, rep, s⟩ => ⟨ρ, M, μ, rep, ?_⟩
  unfold sTry at s
  cases e : g ρ M with
  | next ρ' M' => rw [e] at s; exact s
  | ret p M' => rw [e] at s; exact s
  | brk ρ' M' => rw [e] at s; exact s
  | cont ρ' M' => rw [e] at s; exact s
  | bad => rw [e] at s; exact s
  | exc c fs ρ' M' =>
    rw [e] at s
    dsimp only at s
    intro C' d σ' H' μ' x r hc fr
    cases e2 : m c with
    | none => rw [e2] at s; exact s.elim
    | some b =>
      rw [e2] at s
      cases b with
      | true => exact ⟨true, hm c true e2 C' hc, fun _ a _ => ⟨ρ', M', μ', r, SatS.ext (show SatS X.K X.w X.mg W D H μ M.length (h ρ' M') from s) x⟩, fun z => nomatch z⟩
      | false => exact ⟨false, hm c false e2 C' hc, (fun z => nomatch z), fun _ => (show SatS X.K X.w X.mg W D H μ M.length (.exc c fs ρ' M') from s) C' d σ' H' μ' x r hc fr⟩
end
end TV
end
section
set_option linter.all false
set_option maxRecDepth 100000
set_option maxHeartbeats 2000000
set_option autoImplicit false
/-! ### d.get(k), d.get(k, x) -/
namespace TD
open PySem PySem.F
section
variable {prog : Program} {w : World} {A : Around} {E : Value → Shared → Prop} {s : Shared} {d : Addr} {ks : List NestedKey} {es : Array DictEntry} {k : NestedKey} {key : Value}
theorem get1 {Q : Value → Shared → Prop} (hu : A.units + 9 < cLine) (x : IsX w s.heap d ks es) (hs : (d == sysModules) = false) (hk : NestedIs s.heap k key) (dk : k.depth ≤ 8) (h : Q (((placeOf ks k).bind fun j => es[j]?.map (·.val)).getD .none) { s with toks := s.toks + k.draws }) :
    wpAny (model prog w) A (call (.builtin "dict.get") [.ref d, key]) Q E s := by
  refine wpAny_call_entry slot_dict_get x.ty entry_dict_get ?_ (args_dict_get_2 _ _)
  show wpAny _ _ (dictGet d key >>= _) _ _ s
  refine wpAny_bind (dget (by show A.units + 1 + 8 < cLine; omega) x hk dk ?_)
  cases q : (placeOf ks k).bind fun j => es[j]?.map (·.val) with
  | some v => rw [q] at h; exact wpAny_pure ⟨v, rfl, h⟩
  | none =>
    rw [q] at h
    show wpAny _ _ (Builtin.Dict.missed d key >>= _) _ _ _
    exact wpAny_bind (wpAny_missed_other hs (wpAny_pure ⟨.none, rfl, h⟩))
theorem get2 {Q : Value → Shared → Prop} {dflt : Value} (hu : A.units + 9 < cLine) (x : IsX w s.heap d ks es) (hs : (d == sysModules) = false) (hk : NestedIs s.heap k key) (dk : k.depth ≤ 8) (h : Q (((placeOf ks k).bind fun j => es[j]?.map (·.val)).getD dflt) { s with toks := s.toks + k.draws }) :
    wpAny (model prog w) A (call (.builtin "dict.get") [.ref d, key, dflt]) Q E s := by
  refine wpAny_call_entry slot_dict_get x.ty entry_dict_get ?_ (args_dict_get_3 _ _ _)
  show wpAny _ _ (dictGet d key >>= _) _ _ s
  refine wpAny_bind (dget (by show A.units + 1 + 8 < cLine; omega) x hk dk ?_)
  cases q : (placeOf ks k).bind fun j => es[j]?.map (·.val) with
  | some v => rw [q] at h; exact wpAny_pure ⟨v, rfl, h⟩
  | none =>
    rw [q] at h
    show wpAny _ _ (Builtin.Dict.missed d key >>= _) _ _ _
    exact wpAny_bind (wpAny_missed_other hs (wpAny_pure ⟨dflt, rfl, h⟩))
end
end TD
namespace TV
open PySem PySem.Spec PyProof.Rows L2
def getM (l : Nat) (q z : P) (M : Mem) : Res P := match dictOfM M l, keyOf q with
  | some kvs, some k => if k.depth ≤ 8 then .ok ((lookK kvs k).getD z) M else .bad
  | _, _ => .bad
def eGet1 (fa fb : FE) : FE := fun ρ M => (fa ρ M).bind fun p M1 => match p with
  | .loc l => if (dictOfM M1 l).isSome = true then (fb ρ M1).bind fun q M2 => getM l q .non M2 else .bad
  | _ => .bad
def eGet2 (fa fb fc : FE) : FE := fun ρ M => (fa ρ M).bind fun p M1 => match p with
  | .loc l => if (dictOfM M1 l).isSome = true then (fb ρ M1).bind fun q M2 => (fc ρ M2).bind fun z M3 => getM l q z M3 else .bad
  | _ => .bad
theorem paired_len {α β : Type} {R : α → β → Prop} {xs : List α} {ys : List β} (h : Paired R xs ys) : xs.length = ys.length := by
  induction h with
  | nil => rfl
  | cons _ _ ih => simp [ih]
section
variable {X : Cx} {W : WX} {o e f : Expr} {fa fb fc : FE} {apos cpos : Pos}
theorem DCell.getD {pins : List (Addr × Obj)} {σ : St} {H : Hp} {s : Shared} {μ : Nat → Addr} {n : Nat} {a : Addr} {kvs : List (P × P)} {nk : List NestedKey} {ks vs : List V} {es : Array DictEntry} {k : NestedKey} {z : P} {x : V} {u : Value} (c : DCell X H s μ n a kvs nk ks vs es) (tz : Tr X.K H μ n z x) (rz : RelV x u) :
    ∃ v, Tr X.K H μ n ((lookK kvs k).getD z) v ∧ RelV v (((TD.placeOf nk k).bind fun j => es[j]?.map (·.val)).getD u) := by
  cases h : lookK kvs k with
  | some q =>
    obtain ⟨j, en, v, h1, h2, h3, h4⟩ := c.val h
    refine ⟨v, h4, ?_⟩
    rw [h1]
    simp only [Option.bind_some, h2, Option.map_some, Option.getD_some]
    exact h3
  | none =>
    refine ⟨x, tz, ?_⟩
    rw [look_of c.key] at h
    cases q : TD.placeOf nk k with
    | none => exact rz
    | some j =>
      rw [q] at h
      simp only [Option.bind_some] at h ⊢
      have hkv : kvs[j]? = none := by
        cases e : kvs[j]? with
        | none => rfl
        | some y => rw [e] at h; cases h
      have len : es.toList.length = kvs.length := by
        have h1 := paired_len c.rel
        have h2 := c.tk.length
        have h3 := c.tv.length
        rw [List.length_map] at h2 h3
        rw [← h1, List.length_zip, ← h2, ← h3]
        omega
      have : es[j]? = none := by
        rw [← Array.getElem?_toList]
        rw [List.getElem?_eq_none_iff] at hkv ⊢
        omega
      rw [this]
      exact rz
theorem isSome_dict {pins : List (Addr × Obj)} {σ : St} {H : Hp} {s : Shared} {M : Mem} {μ : Nat → Addr} {l : Nat} (I : Inv X pins σ H s) (m : MemRep X.K X.w H M μ) (h : (dictOfM M l).isSome = true) : s.TypeIs (.ref (μ l)) "dict" ∧ ∀ b, Value.ref (μ l) = .ref b → ∃ ob, s.heap.get? b = some ob ∧ ob.dict = none := by
  obtain ⟨kvs, h⟩ := Option.isSome_iff_exists.mp h
  obtain ⟨nk, ks, vs, es, c⟩ := dcellM I m h
  refine ⟨c.x.ty, fun b q => ?_⟩
  cases q
  obtain ⟨ob, h1, h2, _⟩ := c.x.ex
  exact ⟨ob, h1, h2.2.1⟩
theorem q_get1 (hu : X.A.units + 9 < cLine) (ho : QE X W o fa) (he : QE X W e fb) (m : M1 X o "get" apos e cpos) : QE X W (.Call (.Attribute o "get" apos) [e] [] cpos) (eGet1 fa fb) := by
  refine ⟨fun pins s σ H Q I ⟨ρ, M, μ, rep, sat⟩ => ?_⟩
  refine wpAny_Call_method m.base m.few m.line PySem.F.plainAttrs_dict PySem.F.slot_dict_get PySem.F.type_dict_get (thn (ho.run pins s σ H _ I ⟨ρ, M, μ, rep, Sat.bind sat⟩) fun u s1 ⟨x, H1, I1, rx, p, M1, μ1, _, e1, m1, t1, sat1⟩ => ?_)
  cases t1 with
  | @loc l hl =>
    dsimp only at sat1
    by_cases hd : (dictOfM M1 l).isSome = true
    · rw [if_pos hd] at sat1
      obtain rfl : u = Value.ref (μ1 l) := rx
      obtain ⟨q1, q2⟩ := isSome_dict I1 m1 hd
      refine ⟨q1, q2, ?_⟩
      rw [m.trees]
      have rep1 := rep.mono e1 m1
      refine Calls.callWith_builtin rfl (Calls.evalArgs_plain (Calls.spliced_cons (thn (he.run pins s1 σ H1 _ I1 ⟨ρ, M1, μ1, rep1, Sat.bind sat1⟩) fun iv s2 ⟨y, H2, I2, ry, q, M2, μ2, _, e2, m2, t2, sat2⟩ => Calls.spliced_nil ?_)))
      have eμ : μ1 l = μ2 l := (e2.same l hl).symm
      have sat2 : Sat X.K X.w X.mg (Tr X.K) W σ H2 μ2 M2.length Q (getM l q .non M2) := sat2
      unfold getM at sat2
      cases c1 : dictOfM M2 l with
      | none => rw [c1] at sat2; exact sat2.elim
      | some kvs => cases c2 : keyOf q with
        | none => rw [c1, c2] at sat2; exact sat2.elim
        | some k =>
          rw [c1, c2] at sat2
          dsimp only at sat2
          by_cases hk : k.depth ≤ 8
          · rw [if_pos hk] at sat2
            obtain ⟨nk, ks, vs, es, c⟩ := dcellM I2 m2 c1
            obtain ⟨v, tv, rv⟩ := c.getD (X := X) (pins := pins) (σ := σ) (k := k) (z := .non) (x := .non) (u := .none) .non rfl
            rw [eμ]
            exact TD.get1 hu c.x c.sys (nested_of I2 t2 ry c2) hk ⟨v, H2, I2.tok _, rv, sat2.here m2 tv⟩
          · rw [if_neg hk] at sat2; exact sat2.elim
    · rw [if_neg hd] at sat1; exact sat1.elim
  | _ => exact sat1.elim
theorem q_get2 (hu : X.A.units + 9 < cLine) (ho : QE X W o fa) (he : QE X W e fb) (hf : QE X W f fc) (m : M2 X o "get" apos e f cpos) : QE X W (.Call (.Attribute o "get" apos) [e, f] [] cpos) (eGet2 fa fb fc) := by
  refine ⟨fun pins s σ H Q I ⟨ρ, M, μ, rep, sat⟩ => ?_⟩
  refine wpAny_Call_method m.base m.few m.line PySem.F.plainAttrs_dict PySem.F.slot_dict_get PySem.F.type_dict_get (thn (ho.run pins s σ H _ I ⟨ρ, M, μ, rep, Sat.bind sat⟩) fun u s1 ⟨x, H1, I1, rx, p, M1, μ1, _, e1, m1, t1, sat1⟩ => ?_)
  cases t1 with
  | @loc l hl =>
    dsimp only at sat1
    by_cases hd : (dictOfM M1 l).isSome = true
    · rw [if_pos hd] at sat1
      obtain rfl : u = Value.ref (μ1 l) := rx
      obtain ⟨q1, q2⟩ := isSome_dict I1 m1 hd
      refine ⟨q1, q2, ?_⟩
      rw [m.trees]
      have rep1 := rep.mono e1 m1
      refine Calls.callWith_builtin rfl (Calls.evalArgs_plain (Calls.spliced_cons (thn (he.run pins s1 σ H1 _ I1 ⟨ρ, M1, μ1, rep1, Sat.bind sat1⟩) fun iv s2 ⟨y, H2, I2, ry, q, M2, μ2, _, e2, m2, t2, sat2⟩ => ?_)))
      have rep2 := rep1.mono e2 m2
      refine Calls.spliced_cons (thn (hf.run pins s2 σ H2 _ I2 ⟨ρ, M2, μ2, rep2, Sat.bind sat2⟩) fun zv s3 ⟨z, H3, I3, rz, zp, M3, μ3, _, e3, m3, t3, sat3⟩ => Calls.spliced_nil ?_)
      have eμ : μ1 l = μ3 l := ((e2.trans e3).same l hl).symm
      have t2' := t2.mono e3
      have sat3 : Sat X.K X.w X.mg (Tr X.K) W σ H3 μ3 M3.length Q (getM l q zp M3) := sat3
      unfold getM at sat3
      cases c1 : dictOfM M3 l with
      | none => rw [c1] at sat3; exact sat3.elim
      | some kvs => cases c2 : keyOf q with
        | none => rw [c1, c2] at sat3; exact sat3.elim
        | some k =>
          rw [c1, c2] at sat3
          dsimp only at sat3
          by_cases hk : k.depth ≤ 8
          · rw [if_pos hk] at sat3
            obtain ⟨nk, ks, vs, es, c⟩ := dcellM I3 m3 c1
            obtain ⟨v, tv, rv⟩ := c.getD (X := X) (pins := pins) (σ := σ) (k := k) t3 rz
            rw [eμ]
            exact TD.get2 hu c.x c.sys (nested_of I3 t2' ry c2) hk ⟨v, H3, I3.tok _, rv, sat3.here m3 tv⟩
          · rw [if_neg hk] at sat3; exact sat3.elim
    · rw [if_neg hd] at sat1; exact sat1.elim
  | _ => exact sat1.elim
end
end TV
end
section
set_option linter.all false
set_option maxRecDepth 100000
set_option maxHeartbeats 2000000
set_option autoImplicit false
namespace TV
open PySem PySem.Spec PyProof.Rows L2
/-! ### a, b, c = x, y, z -/
def sPar3 (i j k : Nat) (fa fb fc : FE) : FS := fun ρ M => bindS (fa ρ M) ρ fun p M1 => bindS (fb ρ M1) ρ fun q M2 => bindS (fc ρ M2) ρ fun r M3 => .next (((ρ.set i (some p)).set j (some q)).set k (some r)) M3
section
variable {X : Cx} {W : WX} {a b c : Expr} {fa fb fc : FE}
theorem q_par3 {i j l : Nat} {x y z : Str} {px py pz pt pt2 pos : Pos} {kt k2 : Nat} (ha : QE X W a fa) (hb : QE X W b fb) (hcc : QE X W c fc) (hc : X.calm = true) (hN : X.N.Nodup) (hi : X.N[i]? = some x) (hj : X.N[j]? = some y) (hl : X.N[l]? = some z) (hij : i ≠ j) (hil : i ≠ l) (hjl : j ≠ l)
    (hx : X.env.scope.names.lookup x = some .local) (hy : X.env.scope.names.lookup y = some .local) (hz : X.env.scope.names.lookup z = some .local)
    (hw : swappedStores [.Tuple [.Name x px, .Name y py, .Name z pz] kt pt] (.Tuple [a, b, c] k2 pt2) X.env = pure (some [x, y, z]))
    (hsa : starEach (a :: [b, c]) X.env = (false, eval a X.env) :: starEach [b, c] X.env := by rfl) (hsb : starEach (b :: [c]) X.env = (false, eval b X.env) :: starEach [c] X.env := by rfl) (hsc : starEach (c :: []) X.env = (false, eval c X.env) :: starEach [] X.env := by rfl)
    (hs : swapsWithSole [.Tuple [.Name x px, .Name y py, .Name z pz] kt pt] (.Tuple [a, b, c] k2 pt2) pos.line X.env = pure false := by rfl) :
    QS X W (.Assign [.Tuple [.Name x px, .Name y py, .Name z pz] kt pt] (.Tuple [a, b, c] k2 pt2) pos) (sPar3 i j l fa fb fc) := by
  refine PS_weak (ps_par3 hc hN hi hj hl hij hil hjl hx hy hz (pa_cons ha (pa_cons hb (pa_cons hcc pa_nil hsc) hsb) hsa) hw hs) fun D σ H ⟨ρ, M, μ, rep, s⟩ => ⟨ρ, M, μ, rep, (SatS.bind rep s).imp fun v H1 ⟨p, M1, μ1, e, m, t, s1⟩ => ?_⟩
  have rep1 := rep.mono e m
  refine ⟨ρ, M1, μ1, rep1, (SatS.bind rep1 s1).imp fun u H2 ⟨q, M2, μ2, e2, m2, t2, s2⟩ => ?_⟩
  have rep2 := rep1.mono e2 m2
  refine ⟨ρ, M2, μ2, rep2, (SatS.bind rep2 s2).imp fun w H3 ⟨r, M3, μ3, e3, m3, t3, s3⟩ => ?_⟩
  exact ⟨v, u, w, rfl, s3 _ H3 μ3 Ext.refl ⟨(((rep2.mono e3 m3).slots.set ((t.mono e2).mono e3)).set (t2.mono e3)).set t3, m3⟩⟩
end
/-! ### min(list) of ints -/
def minL : List Int → Int
  | [] => 0
  | [i] => i
  | i :: is => if i ≤ minL is then i else minL is
theorem minL_spec : ∀ {ns : List Int}, ns ≠ [] → minL ns ∈ ns ∧ ∀ y ∈ ns, minL ns ≤ y
  | [], h => absurd rfl h
  | [i], _ => by simp [minL]
  | i :: j :: is, _ => by
    obtain ⟨h1, h2⟩ := minL_spec (ns := j :: is) (by simp)
    unfold minL
    split
    · rename_i h
      refine ⟨List.mem_cons_self, fun y hy => ?_⟩
      rcases List.mem_cons.mp hy with z | z
      · rw [z]; exact Int.le_refl _
      · exact Int.le_trans h (h2 y z)
    · rename_i h
      refine ⟨List.mem_cons_of_mem _ h1, fun y hy => ?_⟩
      rcases List.mem_cons.mp hy with z | z
      · rw [z]; omega
      · exact h2 y z
def pMinL : OpN := fun ps M => match ps with
  | [.loc l] => (match (seqM M l).bind allInt with
    | some ns => if ns = [] then .bad else .ok (.int (minL ns)) M
    | none => .bad)
  | _ => .bad
section
variable {X : Cx} {W : WX}
theorem p_minL (hc : X.calm = true) : PrimN X W (.builtin "min") pMinL := by
  refine ⟨_, cr_min hc, fun {σ H M μ ps xs Q} m t sat => ?_⟩
  unfold pMinL at sat
  split at sat
  · rename_i l
    obtain ⟨x, rfl, tx⟩ := trs1 t
    cases tx with
    | loc hl =>
      cases e : seqM M l with
      | none => rw [e] at sat; exact sat.elim
      | some qs =>
        rw [e] at sat
        cases e2 : allInt qs with
        | none => simp only [Option.bind_some, e2] at sat; exact sat.elim
        | some ns =>
          simp only [Option.bind_some, e2] at sat
          by_cases hn : ns = []
          · rw [if_pos hn] at sat; exact sat.elim
          · rw [if_neg hn] at sat
            obtain ⟨vs, sq, ts⟩ := seqM_sq m e
            have ev := ints_of ts e2
            subst ev
            obtain ⟨h1, h2⟩ := minL_spec hn
            refine ⟨_, ns, rfl, sq, List.length_pos_iff.mpr hn, fun k hk hle => ?_⟩
            have : k = minL ns := Int.le_antisymm (hle _ h1) (h2 _ hk)
            subst this
            exact sat.here m (.int _)
  · exact sat.elim
/-! ### str(x) -/
def pStr : OpN := fun ps M => match ps with
  | [.str z] => .ok (.str z) M
  | [p] => (match toR M p with
    | some d => if d.showable = true ∧ d.shown.length ≤ sizeLine ∧ d.depth ≤ 64 then .ok (.str d.shown) M else .bad
    | none => .bad)
  | _ => .bad
theorem p_str (hu : X.A.units + 68 < cLine) (hg : X.A.guards = some []) : PrimN X W (.type "str") pStr := by
  refine PrimN.of fun pins s σ σ' H xs us Q M μ ps I r m t sat => ?_
  unfold pStr at sat
  split at sat
  · rename_i z
    obtain ⟨x, rfl, tx⟩ := trs1 t
    obtain ⟨u, rfl, ru⟩ := vals1 r
    cases tx
    obtain ⟨tk, rfl⟩ := ru
    exact P.str_of_str ⟨.str z, H, I, ⟨tk, rfl⟩, sat.here m (.str z)⟩
  · rename_i p hp
    obtain ⟨x, rfl, tx⟩ := trs1 t
    obtain ⟨u, rfl, ru⟩ := vals1 r
    cases e : toR M p with
    | none => rw [e] at sat; exact sat.elim
    | some d =>
      rw [e] at sat
      dsimp only at sat
      by_cases h : d.showable = true ∧ d.shown.length ≤ sizeLine ∧ d.depth ≤ 64
      · rw [if_pos h] at sat
        obtain ⟨as, ra, hs⟩ := toR_reads I m e tx ru
        have q : Q (.str d.shown) H := sat.here m (.str _)
        have fin : ∀ (a : Addr), u = .ref a → wpAny (model X.prog X.w) X.A (call (.type "str") [u]) (EP X pins σ Q) X.xe s := by
          rintro a rfl
          exact str_of_reads ra h.1 hs hg (by omega) (fun _ _ z => z) (fun h' v tk hk => ⟨.str d.shown, H, I.kept hk, ⟨v, rfl⟩, q⟩) h.2.1
        cases ra with
        | none => exact P.str_of_none ⟨.str _, H, I.tok _, ⟨_, rfl⟩, q⟩
        | bool b =>
          have eq : PyData.shown (.bool b) = if b = true then Str.ofString "True" else Str.ofString "False" := by cases b <;> rfl
          refine P.str_of_bool ⟨.str _, H, I.tok _, ⟨_, rfl⟩, ?_⟩
          cases b <;> exact q
        | int i t => exact P.str_of_int (by simpa [PyData.showable] using h.1) ⟨.str _, H, I.tok _, ⟨_, rfl⟩, q⟩
        | str z tz =>
          cases tx with
          | str z' => exact absurd rfl (hp z')
          | non => cases (show Value.str z tz = Value.none from ru)
          | bl b => cases (show Value.str z tz = Value.bool b from ru)
          | int i => obtain ⟨_, h⟩ := (show ∃ k, Value.str z tz = Value.int i k from ru); cases h
          | ty n => cases (show Value.str z tz = Value.type n from ru)
          | tup _ _ => cases (show Value.str z tz = Value.ref _ from ru)
          | loc _ => cases (show Value.str z tz = Value.ref _ from ru)
        | _ => exact fin _ rfl
      · rw [if_neg h] at sat; exact sat.elim
  · exact sat.elim
/-! ### two dicts of one text and one number -/
def pEqDict : Op2 := fun p q M => match p, q with
  | .loc l, .loc l' => (match M[l]?, M[l']? with
    | some (.dct [(.str x, .int i)]), some (.dct [(.str y, .int j)]) => if x = y ∧ i = j then .ok (.bl true) M else .bad
    | _, _ => .bad)
  | _, _ => .bad
theorem one_dict {pins : List (Addr × Obj)} {σ : St} {H : Hp} {s : Shared} {M : Mem} {μ : Nat → Addr} {l : Nat} {x : Str} {i : Int} (I : Inv X pins σ H s) (m : MemRep X.K X.w H M μ) (h : M[l]? = some (.dct [(.str x, .int i)])) :
    (μ l == sysModules) = false ∧ ∃ t, s.heap.DictOf (strKind X.prog X.w) (μ l) [(x, .int i t)] := by
  obtain ⟨nk, ks, vs, es, c, _⟩ := dcell I (m.at_ l _ h)
  refine ⟨c.sys, ?_⟩
  have e1 : nk = [.text x] := by
    have := c.key
    exact (Option.some.inj this).symm
  subst e1
  have tk := c.tk
  have tv := c.tv
  cases tk with
  | cons k1 kr =>
    cases k1
    cases kr
    cases tv with
    | cons v1 vr =>
      cases v1
      cases vr
      obtain ⟨o, ho, hc, hd⟩ := c.x.ex
      have keys := c.x.keys
      have rel := c.rel
      have hes : ∃ e, es.toList = [e] := by
        have := keys.length
        match h : es.toList with
        | [] => rw [h] at this; simp at this
        | [e] => exact ⟨e, rfl⟩
        | _ :: _ :: _ => rw [h] at this; simp at this
      obtain ⟨e, hes⟩ := hes
      rw [hes] at keys rel
      cases keys with
      | cons hk hh _ _ =>
        cases rel with
        | cons hr _ =>
          obtain ⟨⟨t1, r1⟩, ⟨t2, r2⟩⟩ := hr
          refine ⟨t2, o, es, es.size, ho, hc, hd, ?_, ?_, by simp⟩
          · intro e' he'
            have he'' : e' ∈ es.toList := Array.mem_toList_iff.mpr he'
            rw [hes, List.mem_singleton] at he''
            subst he''
            refine ⟨x, ?_, hh⟩
            rw [r1]
            show Value.isStrOf x (.str x t1) = true
            simp [Value.isStrOf]
          · rw [hes]
            refine .cons ?_ r2 .nil
            rw [r1]
            show Value.isStrOf x (.str x t1) = true
            simp [Value.isStrOf]
theorem p_eqDict (hu : X.A.units + 64 < cLine) : Prim2 X W (compareOp .Eq) pEqDict := by
  refine Prim2.of fun pins s σ σ' H x y u v Q M μ p q I ru rv m t1 t2 sat => ?_
  unfold pEqDict at sat
  split at sat
  · rename_i l l'
    split at sat
    · rename_i a i b j h1 h2
      by_cases hh : a = b ∧ i = j
      · rw [if_pos hh] at sat
        obtain ⟨rfl, rfl⟩ := hh
        cases t1
        cases t2
        obtain rfl : u = Value.ref (μ l) := ru
        obtain rfl : v = Value.ref (μ l') := rv
        obtain ⟨s1, t1, d1⟩ := one_dict I m h1
        obtain ⟨s2, t2, d2⟩ := one_dict I m h2
        refine PySem.W.keq_eq (knd := strKind X.prog X.w) (r := true) s1 s2 d1 d2 (by omega) (fun _ => ?_) (fin_bl I (sat.here m (.bl true)) rfl)
        have : PySem.W.KeqHits X.A.in1 s [(a, Value.int i t2)] [(a, Value.int i t1)] (true && true) := .hit (y := .int i t2) (by simp [valueAt]) (eqAt_same (v := V.int i) ⟨t1, rfl⟩ ⟨t2, rfl⟩ rfl) .nil
        exact this
      · rw [if_neg hh] at sat; exact sat.elim
    · exact sat.elim
  · exact sat.elim
end
end TV
end
section
set_option linter.all false
set_option maxRecDepth 100000
set_option maxHeartbeats 0
namespace Hd
open PySem PySem.Spec PyProof.Rows L2
def top (i : Nat) : Stmt := PySem.Challenge.pw_forkcells_k09_whole_rings_or_numbers.main.body.getD i (.Pass ⟨0, 0, 0, 0⟩)
abbrev FnP (K : PySem.W.Frag) (x : Str) (st : Stmt) (f : Addr) (fd : FuncData) : Prop := FunD K x x (defArgs st) (defBody st) (defScope st) [] [] f fd
abbrev s_is_integer : Stmt := top 8
def d_is_integer : He.DefD := ⟨("is_integer", none), "is_integer", "is_integer", defArgs s_is_integer, defBody s_is_integer, defScope s_is_integer, [], []⟩
abbrev s_is_name : Stmt := top 9
def d_is_name : He.DefD := ⟨("is_name", none), "is_name", "is_name", defArgs s_is_name, defBody s_is_name, defScope s_is_name, [], []⟩
abbrev s_is_new : Stmt := top 15
def d_is_new : He.DefD := ⟨("is_new", none), "is_new", "is_new", defArgs s_is_new, defBody s_is_new, defScope s_is_new, [], []⟩
abbrev s_is_place : Stmt := top 16
def d_is_place : He.DefD := ⟨("is_place", none), "is_place", "is_place", defArgs s_is_place, defBody s_is_place, defScope s_is_place, [], []⟩
abbrev s_is_point : Stmt := top 17
def d_is_point : He.DefD := ⟨("is_point", none), "is_point", "is_point", defArgs s_is_point, defBody s_is_point, defScope s_is_point, [], []⟩
abbrev s_is_difference : Stmt := top 18
def d_is_difference : He.DefD := ⟨("is_difference", none), "is_difference", "is_difference", defArgs s_is_difference, defBody s_is_difference, defScope s_is_difference, [], []⟩
abbrev s_require_differences : Stmt := top 19
def d_require_differences : He.DefD := ⟨("require_differences", none), "require_differences", "require_differences", defArgs s_require_differences, defBody s_require_differences, defScope s_require_differences, [], []⟩
abbrev s_require_point : Stmt := top 20
def d_require_point : He.DefD := ⟨("require_point", none), "require_point", "require_point", defArgs s_require_point, defBody s_require_point, defScope s_require_point, [], []⟩
abbrev s_points_of : Stmt := top 21
def d_points_of : He.DefD := ⟨("points_of", none), "points_of", "points_of", defArgs s_points_of, defBody s_points_of, defScope s_points_of, [], []⟩
abbrev s_improved : Stmt := top 22
def d_improved : He.DefD := ⟨("improved", none), "improved", "improved", defArgs s_improved, defBody s_improved, defScope s_improved, [], []⟩
abbrev s_settled : Stmt := top 23
def d_settled : He.DefD := ⟨("settled", none), "settled", "settled", defArgs s_settled, defBody s_settled, defScope s_settled, [], []⟩
abbrev s_ring_in : Stmt := top 24
def d_ring_in : He.DefD := ⟨("ring_in", none), "ring_in", "ring_in", defArgs s_ring_in, defBody s_ring_in, defScope s_ring_in, [], []⟩
abbrev s_ring_of : Stmt := top 25
def d_ring_of : He.DefD := ⟨("ring_of", none), "ring_of", "ring_of", defArgs s_ring_of, defBody s_ring_of, defScope s_ring_of, [], []⟩
abbrev s_fitted : Stmt := top 26
def d_fitted : He.DefD := ⟨("fitted", none), "fitted", "fitted", defArgs s_fitted, defBody s_fitted, defScope s_fitted, [], []⟩
abbrev s_bound_of : Stmt := top 27
def d_bound_of : He.DefD := ⟨("bound_of", none), "bound_of", "bound_of", defArgs s_bound_of, defBody s_bound_of, defScope s_bound_of, [], []⟩
abbrev s_is_ring_of : Stmt := top 28
def d_is_ring_of : He.DefD := ⟨("is_ring_of", none), "is_ring_of", "is_ring_of", defArgs s_is_ring_of, defBody s_is_ring_of, defScope s_is_ring_of, [], []⟩
abbrev s_is_wide : Stmt := top 29
def d_is_wide : He.DefD := ⟨("is_wide", none), "is_wide", "is_wide", defArgs s_is_wide, defBody s_is_wide, defScope s_is_wide, [], []⟩
abbrev s_fitting : Stmt := top 30
def d_fitting : He.DefD := ⟨("fitting", none), "fitting", "fitting", defArgs s_fitting, defBody s_fitting, defScope s_fitting, [], []⟩
abbrev s_is_fitting : Stmt := top 31
def d_is_fitting : He.DefD := ⟨("is_fitting", none), "is_fitting", "is_fitting", defArgs s_is_fitting, defBody s_is_fitting, defScope s_is_fitting, [], []⟩
abbrev s_ring : Stmt := top 32
def d_ring : He.DefD := ⟨("ring", none), "ring", "ring", defArgs s_ring, defBody s_ring, defScope s_ring, [], []⟩
abbrev s_is_ring : Stmt := top 33
def d_is_ring : He.DefD := ⟨("is_ring", none), "is_ring", "is_ring", defArgs s_is_ring, defBody s_is_ring, defScope s_is_ring, [], []⟩
abbrev s_tightest : Stmt := top 34
def d_tightest : He.DefD := ⟨("tightest", none), "tightest", "tightest", defArgs s_tightest, defBody s_tightest, defScope s_tightest, [], []⟩
abbrev s_law_dice : Stmt := top 36
def d_law_dice : He.DefD := ⟨("_law_dice", none), "_law_dice", "_law_dice", defArgs s_law_dice, defBody s_law_dice, defScope s_law_dice, [], []⟩
abbrev s_law_roll : Stmt := top 37
def d_law_roll : He.DefD := ⟨("_law_roll", none), "_law_roll", "_law_roll", defArgs s_law_roll, defBody s_law_roll, defScope s_law_roll, [], []⟩
abbrev s_law_pick : Stmt := top 38
def d_law_pick : He.DefD := ⟨("_law_pick", none), "_law_pick", "_law_pick", defArgs s_law_pick, defBody s_law_pick, defScope s_law_pick, [], []⟩
abbrev s_law_points : Stmt := top 39
def d_law_points : He.DefD := ⟨("_law_points", none), "_law_points", "_law_points", defArgs s_law_points, defBody s_law_points, defScope s_law_points, [], []⟩
abbrev s_law_rows : Stmt := top 40
def d_law_rows : He.DefD := ⟨("_law_rows", none), "_law_rows", "_law_rows", defArgs s_law_rows, defBody s_law_rows, defScope s_law_rows, [], []⟩
abbrev s_law_ends : Stmt := top 41
def d_law_ends : He.DefD := ⟨("_law_ends", none), "_law_ends", "_law_ends", defArgs s_law_ends, defBody s_law_ends, defScope s_law_ends, [], []⟩
abbrev s_law_bounds : Stmt := top 42
def d_law_bounds : He.DefD := ⟨("_law_bounds", none), "_law_bounds", "_law_bounds", defArgs s_law_bounds, defBody s_law_bounds, defScope s_law_bounds, [], []⟩
abbrev s_law_is_order : Stmt := top 43
def d_law_is_order : He.DefD := ⟨("_law_is_order", none), "_law_is_order", "_law_is_order", defArgs s_law_is_order, defBody s_law_is_order, defScope s_law_is_order, [], []⟩
abbrev s_law_is_chain : Stmt := top 44
def d_law_is_chain : He.DefD := ⟨("_law_is_chain", none), "_law_is_chain", "_law_is_chain", defArgs s_law_is_chain, defBody s_law_is_chain, defScope s_law_is_chain, [], []⟩
abbrev s_law_bound : Stmt := top 45
def d_law_bound : He.DefD := ⟨("_law_bound", none), "_law_bound", "_law_bound", defArgs s_law_bound, defBody s_law_bound, defScope s_law_bound, [], []⟩
abbrev s_law_right : Stmt := top 46
def d_law_right : He.DefD := ⟨("_law_right", none), "_law_right", "_law_right", defArgs s_law_right, defBody s_law_right, defScope s_law_right, [], []⟩
abbrev s_law : Stmt := top 47
def d_law : He.DefD := ⟨("law", none), "law", "law", defArgs s_law, defBody s_law, defScope s_law, [], []⟩
def fn : List He.DefD := [d_is_integer, d_is_name, d_is_new, d_is_place, d_is_point, d_is_difference, d_require_differences, d_require_point, d_points_of, d_improved, d_settled, d_ring_in, d_ring_of, d_fitted, d_bound_of, d_is_ring_of, d_is_wide, d_fitting, d_is_fitting, d_ring, d_is_ring, d_tightest, d_law_dice, d_law_roll, d_law_pick, d_law_points, d_law_rows, d_law_ends, d_law_bounds, d_law_is_order, d_law_is_chain, d_law_bound, d_law_right, d_law]
def fa : List He.Fa := [.glo "is_integer",
  .glo "is_name",
  .glo "is_new",
  .glo "is_place",
  .glo "is_point",
  .glo "is_difference",
  .glo "require_differences",
  .glo "require_point",
  .glo "points_of",
  .glo "improved",
  .glo "settled",
  .glo "ring_in",
  .glo "ring_of",
  .glo "fitted",
  .glo "bound_of",
  .glo "is_ring_of",
  .glo "is_wide",
  .glo "fitting",
  .glo "is_fitting",
  .glo "ring",
  .glo "is_ring",
  .glo "tightest",
  .glo "_law_dice",
  .glo "_law_roll",
  .glo "_law_pick",
  .glo "_law_points",
  .glo "_law_rows",
  .glo "_law_ends",
  .glo "_law_bounds",
  .glo "_law_is_order",
  .glo "_law_is_chain",
  .glo "_law_bound",
  .glo "_law_right",
  .glo "law",
  .free "ValueError",
  .free "abs",
  .free "all",
  .free "bool",
  .free "dict",
  .free "enumerate",
  .free "int",
  .free "isinstance",
  .free "iter",
  .free "len",
  .free "list",
  .free "max",
  .free "min",
  .free "next",
  .free "range",
  .free "sorted",
  .free "str",
  .free "sum",
  .free "tuple",
  .int "MAX_NAME" (8),
  .int "GREATEST" (1000000000000000000000000000000000000000000000000000000000000),
  .str "LETTERS" "abcdefghijklmnopqrstuvwxyz",
  .int "MAX_DIFFERENCES" (60),
  .str "ZERO" "",
  .str "NEW_MARK" "*",
  .str "DIGITS" "0123456789",
  .glo "InvalidOperation",
  .exc "InvalidOperation",
  .glo "InvalidTerm",
  .exc "InvalidTerm",
  .exm "InvalidOperation" "InvalidOperation" true,
  .exm "InvalidTerm" "InvalidOperation" false]
abbrev R : PySem.W.OpenRow := PySem.W.OpenLaw.row PySem.Challenge.rw_forkcells_k09_whole_rings_or_numbers
abbrev hk : PySem.W.Hook := He.hookD 4 fa fn
def ob (s : PySem.W.SharedT) : He.AlD := He.obsDG 4 fa fn (HandSHeadRun.getT s)
theorem ob_eq (s : PySem.W.SharedT) : ob s = hk.obs s.abs := He.obsDG_eq (HandSHeadRun.getT_eq s)
def loose0 : List Str := ["ClaimError", "InvalidTerm", "InvalidOperation", "MAX_NAME", "GREATEST", "LETTERS", "is_integer", "is_name", "MAX_DIFFERENCES", "ZERO", "NEW_MARK", "DIGITS", "is_new", "is_place", "is_point", "is_difference", "require_differences", "require_point", "points_of", "improved", "settled", "ring_in", "ring_of", "fitted", "bound_of", "is_ring_of", "is_wide", "fitting", "is_fitting", "ring"]
def loose1 : List Str := ["is_ring", "tightest", "_law_dice", "_law_roll", "_law_pick", "_law_points", "_law_rows", "_law_ends", "_law_bounds", "_law_is_order", "_law_is_chain", "_law_bound", "_law_right"]
def loose : List Str := loose0 ++ loose1
end Hd
end
section
set_option linter.all false
set_option maxRecDepth 100000
set_option maxHeartbeats 0
namespace Hd
open PySem PySem.Spec PyProof.Rows L2 TV
def m_x_InvalidOperation : Str → Option Bool := fun x => if x = "InvalidOperation" then some true else if x = "InvalidTerm" then some false else none
section
structure Fs (K : PySem.W.Frag) (mg : Str → Option Value) : Prop where
  f_is_integer : ∃ fd, FnP K "is_integer" s_is_integer (He.ga K "is_integer") fd
  g_is_integer : mg "is_integer" = some (.ref (He.ga K "is_integer"))
  f_is_name : ∃ fd, FnP K "is_name" s_is_name (He.ga K "is_name") fd
  g_is_name : mg "is_name" = some (.ref (He.ga K "is_name"))
  f_is_new : ∃ fd, FnP K "is_new" s_is_new (He.ga K "is_new") fd
  g_is_new : mg "is_new" = some (.ref (He.ga K "is_new"))
  f_is_place : ∃ fd, FnP K "is_place" s_is_place (He.ga K "is_place") fd
  g_is_place : mg "is_place" = some (.ref (He.ga K "is_place"))
  f_is_point : ∃ fd, FnP K "is_point" s_is_point (He.ga K "is_point") fd
  g_is_point : mg "is_point" = some (.ref (He.ga K "is_point"))
  f_is_difference : ∃ fd, FnP K "is_difference" s_is_difference (He.ga K "is_difference") fd
  g_is_difference : mg "is_difference" = some (.ref (He.ga K "is_difference"))
  f_require_differences : ∃ fd, FnP K "require_differences" s_require_differences (He.ga K "require_differences") fd
  g_require_differences : mg "require_differences" = some (.ref (He.ga K "require_differences"))
  f_require_point : ∃ fd, FnP K "require_point" s_require_point (He.ga K "require_point") fd
  g_require_point : mg "require_point" = some (.ref (He.ga K "require_point"))
  f_points_of : ∃ fd, FnP K "points_of" s_points_of (He.ga K "points_of") fd
  g_points_of : mg "points_of" = some (.ref (He.ga K "points_of"))
  f_improved : ∃ fd, FnP K "improved" s_improved (He.ga K "improved") fd
  g_improved : mg "improved" = some (.ref (He.ga K "improved"))
  f_settled : ∃ fd, FnP K "settled" s_settled (He.ga K "settled") fd
  g_settled : mg "settled" = some (.ref (He.ga K "settled"))
  f_ring_in : ∃ fd, FnP K "ring_in" s_ring_in (He.ga K "ring_in") fd
  g_ring_in : mg "ring_in" = some (.ref (He.ga K "ring_in"))
  f_ring_of : ∃ fd, FnP K "ring_of" s_ring_of (He.ga K "ring_of") fd
  g_ring_of : mg "ring_of" = some (.ref (He.ga K "ring_of"))
  f_fitted : ∃ fd, FnP K "fitted" s_fitted (He.ga K "fitted") fd
  g_fitted : mg "fitted" = some (.ref (He.ga K "fitted"))
  f_bound_of : ∃ fd, FnP K "bound_of" s_bound_of (He.ga K "bound_of") fd
  g_bound_of : mg "bound_of" = some (.ref (He.ga K "bound_of"))
  f_is_ring_of : ∃ fd, FnP K "is_ring_of" s_is_ring_of (He.ga K "is_ring_of") fd
  g_is_ring_of : mg "is_ring_of" = some (.ref (He.ga K "is_ring_of"))
  f_is_wide : ∃ fd, FnP K "is_wide" s_is_wide (He.ga K "is_wide") fd
  g_is_wide : mg "is_wide" = some (.ref (He.ga K "is_wide"))
  f_fitting : ∃ fd, FnP K "fitting" s_fitting (He.ga K "fitting") fd
  g_fitting : mg "fitting" = some (.ref (He.ga K "fitting"))
  f_is_fitting : ∃ fd, FnP K "is_fitting" s_is_fitting (He.ga K "is_fitting") fd
  g_is_fitting : mg "is_fitting" = some (.ref (He.ga K "is_fitting"))
  f_ring : ∃ fd, FnP K "ring" s_ring (He.ga K "ring") fd
  g_ring : mg "ring" = some (.ref (He.ga K "ring"))
  f_is_ring : ∃ fd, FnP K "is_ring" s_is_ring (He.ga K "is_ring") fd
  g_is_ring : mg "is_ring" = some (.ref (He.ga K "is_ring"))
  f_tightest : ∃ fd, FnP K "tightest" s_tightest (He.ga K "tightest") fd
  g_tightest : mg "tightest" = some (.ref (He.ga K "tightest"))
  f_law_dice : ∃ fd, FnP K "_law_dice" s_law_dice (He.ga K "_law_dice") fd
  g_law_dice : mg "_law_dice" = some (.ref (He.ga K "_law_dice"))
  f_law_roll : ∃ fd, FnP K "_law_roll" s_law_roll (He.ga K "_law_roll") fd
  g_law_roll : mg "_law_roll" = some (.ref (He.ga K "_law_roll"))
  f_law_pick : ∃ fd, FnP K "_law_pick" s_law_pick (He.ga K "_law_pick") fd
  g_law_pick : mg "_law_pick" = some (.ref (He.ga K "_law_pick"))
  f_law_points : ∃ fd, FnP K "_law_points" s_law_points (He.ga K "_law_points") fd
  g_law_points : mg "_law_points" = some (.ref (He.ga K "_law_points"))
  f_law_rows : ∃ fd, FnP K "_law_rows" s_law_rows (He.ga K "_law_rows") fd
  g_law_rows : mg "_law_rows" = some (.ref (He.ga K "_law_rows"))
  f_law_ends : ∃ fd, FnP K "_law_ends" s_law_ends (He.ga K "_law_ends") fd
  g_law_ends : mg "_law_ends" = some (.ref (He.ga K "_law_ends"))
  f_law_bounds : ∃ fd, FnP K "_law_bounds" s_law_bounds (He.ga K "_law_bounds") fd
  g_law_bounds : mg "_law_bounds" = some (.ref (He.ga K "_law_bounds"))
  f_law_is_order : ∃ fd, FnP K "_law_is_order" s_law_is_order (He.ga K "_law_is_order") fd
  g_law_is_order : mg "_law_is_order" = some (.ref (He.ga K "_law_is_order"))
  f_law_is_chain : ∃ fd, FnP K "_law_is_chain" s_law_is_chain (He.ga K "_law_is_chain") fd
  g_law_is_chain : mg "_law_is_chain" = some (.ref (He.ga K "_law_is_chain"))
  f_law_bound : ∃ fd, FnP K "_law_bound" s_law_bound (He.ga K "_law_bound") fd
  g_law_bound : mg "_law_bound" = some (.ref (He.ga K "_law_bound"))
  f_law_right : ∃ fd, FnP K "_law_right" s_law_right (He.ga K "_law_right") fd
  g_law_right : mg "_law_right" = some (.ref (He.ga K "_law_right"))
  f_law : ∃ fd, FnP K "law" s_law (He.ga K "law") fd
  g_law : mg "law" = some (.ref (He.ga K "law"))
  n_ValueError : mg "ValueError" = none
  n_abs : mg "abs" = none
  n_all : mg "all" = none
  n_bool : mg "bool" = none
  n_dict : mg "dict" = none
  n_enumerate : mg "enumerate" = none
  n_int : mg "int" = none
  n_isinstance : mg "isinstance" = none
  n_iter : mg "iter" = none
  n_len : mg "len" = none
  n_list : mg "list" = none
  n_max : mg "max" = none
  n_min : mg "min" = none
  n_next : mg "next" = none
  n_range : mg "range" = none
  n_sorted : mg "sorted" = none
  n_str : mg "str" = none
  n_sum : mg "sum" = none
  n_tuple : mg "tuple" = none
  c_MAX_NAME : ∃ t, mg "MAX_NAME" = some (.int (8) t)
  c_GREATEST : ∃ t, mg "GREATEST" = some (.int (1000000000000000000000000000000000000000000000000000000000000) t)
  c_LETTERS : ∃ t, mg "LETTERS" = some (.str "abcdefghijklmnopqrstuvwxyz" t)
  c_MAX_DIFFERENCES : ∃ t, mg "MAX_DIFFERENCES" = some (.int (60) t)
  c_ZERO : ∃ t, mg "ZERO" = some (.str "" t)
  c_NEW_MARK : ∃ t, mg "NEW_MARK" = some (.str "*" t)
  c_DIGITS : ∃ t, mg "DIGITS" = some (.str "0123456789" t)
  x_InvalidOperation : ExcK K (He.ga K "InvalidOperation")
  gx_InvalidOperation : mg "InvalidOperation" = some (.ref (He.ga K "InvalidOperation"))
  x_InvalidTerm : ExcK K (He.ga K "InvalidTerm")
  gx_InvalidTerm : mg "InvalidTerm" = some (.ref (He.ga K "InvalidTerm"))
  mx_InvalidOperation : ∀ x b, m_x_InvalidOperation x = some b → ∀ D, mg x = some (.ref D) → PySem.W.exmOne K (.ref D) (.ref (He.ga K "InvalidOperation")) = some b
end
section
variable {P₀ : Program} {w : World} {K : PySem.W.Frag} {mg : Str → Option Value} {base : Heap}
abbrev N_is_integer : List Str := ["value"]
noncomputable def m_is_integer : FS :=
  (sRet (eAnd (eArgs pIsi (aCons (eVar 0) (aCons (eC (.ty "int")) aNil))) (eAnd (eNot (eArgs pIsi (aCons (eVar 0) (aCons (eC (.ty "bool")) aNil)))) (eChain pLt pLt (eUn pNeg (eC (.int 1000000000000000000000000000000000000000000000000000000000000))) (eVar 0) (eC (.int 1000000000000000000000000000000000000000000000000000000000000))))))
noncomputable def F_is_integer : OpN := mkF 1 1 m_is_integer
theorem sc_is_integer : FnScope N_is_integer ["value"] (defScope s_is_integer) := ⟨rfl, rfl, rfl, by decide +kernel, rfl, by decide +kernel, by decide +kernel⟩
theorem h_is_integer (c : Fs K mg)  : Has P₀ w K mg base 1 "is_integer" ["value"] F_is_integer := by
  obtain ⟨fd, F⟩ := c.f_is_integer
  have sc := sc_is_integer
  refine ⟨fd, fn_t F sc fun cdv A outer s H E hr hgu => ?_, F.bindsN fun _ _ _ _ _ _ us hl => match us, hl with | [_], _ => rfl, F.kp, c.g_is_integer⟩
  exact (q_sone (q_ret (q_and (q_blt p_isi (by rfl) c.n_isinstance (by rfl) (q_cons (q_var (i := 0)) (q_cons (q_ty (by rfl) c.n_int (by rfl)) q_nil))) (q_and (q_not (q_blt p_isi (by rfl) c.n_isinstance (by rfl) (q_cons (q_var (i := 0)) (q_cons (q_ty (by rfl) c.n_bool (by rfl)) q_nil)))) (q_one (q_chain p_lt p_lt (q_un p_neg (q_gint (by rfl) c.c_GREATEST.choose_spec)) (q_var (i := 0)) (q_gint (by rfl) c.c_GREATEST.choose_spec)))))))
abbrev N_is_name : List Str := ["value", "letter"]
noncomputable def m_is_name : FS :=
  (sRet (eAnd (eArgs pIsi (aCons (eVar 0) (aCons (eC (.ty "str")) aNil))) (eAnd (eChain pLe pLe (eC (.int 1)) (eArgs pLen (aCons (eVar 0) aNil)) (eC (.int 8))) (eArgs pAll (aCons (eLc (iOver (eVar 0)) (gName 1) tYesF (eOp (pIn false) (eVar 1) (eC (.str "abcdefghijklmnopqrstuvwxyz"))) [1]) aNil)))))
noncomputable def F_is_name : OpN := mkF 1 2 m_is_name
theorem sc_is_name : FnScope N_is_name ["value"] (defScope s_is_name) := ⟨rfl, rfl, rfl, by decide +kernel, rfl, by decide +kernel, by decide +kernel⟩
theorem h_is_name (c : Fs K mg)  : Has P₀ w K mg base 1 "is_name" ["value"] F_is_name := by
  obtain ⟨fd, F⟩ := c.f_is_name
  have sc := sc_is_name
  refine ⟨fd, fn_t F sc fun cdv A outer s H E hr hgu => ?_, F.bindsN fun _ _ _ _ _ _ us hl => match us, hl with | [_], _ => rfl, F.kp, c.g_is_name⟩
  exact (q_sone (q_ret (q_and (q_blt p_isi (by rfl) c.n_isinstance (by rfl) (q_cons (q_var (i := 0)) (q_cons (q_ty (by rfl) c.n_str (by rfl)) q_nil))) (q_and (q_chain p_le p_le q_int (q_blt p_len (by rfl) c.n_len (by rfl) (q_cons (q_var (i := 0)) q_nil)) (q_gint (by rfl) c.c_MAX_NAME.choose_spec)) (q_one (q_blt (p_all rfl) (by rfl) c.n_all (by rfl) (q_cons (q_lc (own := [("letter", 1)]) rfl sc.nd (q_over (q_var (i := 0))) (blkOk_by (N := N_is_name) (sc := defScope s_is_name) (by decide +kernel)) tg_name (by decide) (fun _ _ _ _ _ => (pg_name (i := 1) sc.nd rfl (by first | exact Or.inl rfl | exact Or.inr rfl))) (fun _ _ _ _ _ => q_ifs0) (fun _ _ _ _ _ => (q_cmp (p_in (ru hr)) (q_var (i := 1)) (q_gstr (by rfl) c.c_LETTERS.choose_spec)))) q_nil)))))))
abbrev N_is_new : List Str := ["value", "digit"]
noncomputable def m_is_new : FS :=
  (sSeq (sIf (tOr (tNot (tVal (eArgs pIsi (aCons (eVar 0) (aCons (eC (.ty "str")) aNil))))) (tOr (tVal (eOp (pLt) (eArgs pLen (aCons (eVar 0) aNil)) (eC (.int 2)))) (tOr (tVal (eOp (pNe) (eOp pIx (eVar 0) (eC (.int 0))) (eC (.str "*")))) (tVal (eOp (pEq) (eOp pIx (eVar 0) (eC (.int 1))) (eC (.str "0"))))))) (sRet (eC (.bl false))) sNext)
    (sRet (eArgs pAll (aCons (eLc (iOver (eSl (eVar 0) (oSome (eC (.int 1))) oNone)) (gName 1) tYesF (eOp (pIn false) (eVar 1) (eC (.str "0123456789"))) [1]) aNil))))
noncomputable def F_is_new : OpN := mkF 1 2 m_is_new
theorem sc_is_new : FnScope N_is_new ["value"] (defScope s_is_new) := ⟨rfl, rfl, rfl, by decide +kernel, rfl, by decide +kernel, by decide +kernel⟩
theorem h_is_new (c : Fs K mg)  : Has P₀ w K mg base 1 "is_new" ["value"] F_is_new := by
  obtain ⟨fd, F⟩ := c.f_is_new
  have sc := sc_is_new
  refine ⟨fd, fn_t F sc fun cdv A outer s H E hr hgu => ?_, F.bindsN fun _ _ _ _ _ _ us hl => match us, hl with | [_], _ => rfl, F.kp, c.g_is_new⟩
  exact (q_scons (q_sif ((q_wor (q_tnot (q_tval (q_blt p_isi (by rfl) c.n_isinstance (by rfl) (q_cons (q_var (i := 0)) (q_cons (q_ty (by rfl) c.n_str (by rfl)) q_nil))))) (q_wor (q_tcmp p_lt (q_blt p_len (by rfl) c.n_len (by rfl) (q_cons (q_var (i := 0)) q_nil)) q_int) (q_wor (q_tcmp (p_ne (ru hr)) (q_ix (ru hr) (q_var (i := 0)) q_int) (q_gstr (by rfl) c.c_NEW_MARK.choose_spec)) (q_wor1 (q_tcmp (p_eq (ru hr)) (q_ix (ru hr) (q_var (i := 0)) q_int) q_str)))))).pt (q_sone (q_ret q_bl)) q_snil)
    (q_sone (q_ret (q_blt (p_all rfl) (by rfl) c.n_all (by rfl) (q_cons (q_lc (own := [("digit", 1)]) rfl sc.nd (q_over (q_slice (q_var (i := 0)) (q_osome q_int) q_onone)) (blkOk_by (N := N_is_new) (sc := defScope s_is_new) (by decide +kernel)) tg_name (by decide) (fun _ _ _ _ _ => (pg_name (i := 1) sc.nd rfl (by first | exact Or.inl rfl | exact Or.inr rfl))) (fun _ _ _ _ _ => q_ifs0) (fun _ _ _ _ _ => (q_cmp (p_in (ru hr)) (q_var (i := 1)) (q_gstr (by rfl) c.c_DIGITS.choose_spec)))) q_nil)))))
abbrev N_points_of : List Str := ["differences", "found", "one", "other", "number", "names", "point"]
noncomputable def m_points_of : FS :=
  (sSeq (sAsg (eDict (pCons (eC (.str "")) (eC (.bl true)) pNil)) (gName 1))
    (sSeq (sFor (iOver (eVar 0)) (gTup [(gName 2), (gName 3), (gName 4)]) (sSeq (sStore (eC (.bl true)) (eVar 1) (eVar 2))
    (sStore (eC (.bl true)) (eVar 1) (eVar 3))))
    (sSeq (sAsg (eArgs pSorted (aCons (eLc (iOver (eVar 1)) (gName 6) (tVal (eArgs pIsi (aCons (eVar 6) (aCons (eC (.ty "str")) aNil)))) (eVar 6) [6]) aNil)) (gName 5))
    (sRet (eOp pAdd (eVar 5) (eArgs pSorted (aCons (eLc (iOver (eVar 1)) (gName 6) (tVal (eArgs pIsi (aCons (eVar 6) (aCons (eC (.ty "tuple")) aNil)))) (eVar 6) [6]) aNil)))))))
noncomputable def F_points_of : OpN := mkF 1 7 m_points_of
theorem sc_points_of : FnScope N_points_of ["differences"] (defScope s_points_of) := ⟨rfl, rfl, rfl, by decide +kernel, rfl, by decide +kernel, by decide +kernel⟩
theorem h_points_of (c : Fs K mg)  : Has P₀ w K mg base 1 "points_of" ["differences"] F_points_of := by
  obtain ⟨fd, F⟩ := c.f_points_of
  have sc := sc_points_of
  refine ⟨fd, fn_t F sc fun cdv A outer s H E hr hgu => ?_, F.bindsN fun _ _ _ _ _ _ us hl => match us, hl with | [_], _ => rfl, F.kp, c.g_points_of⟩
  exact (q_scons (q_set (i := 1) (q_dict (ru hr) (q_pcons (q_gstr (by rfl) c.c_ZERO.choose_spec) q_bl q_pnil) rfl rfl (by simp) (by decide)) sc.nd)
    (q_scons (q_for (passes_of rfl) rfl (q_over (q_var (i := 0))) (pg_tup rfl (pgs_cons (pg_name (i := 2) sc.nd rfl (by first | exact Or.inl rfl | exact Or.inr rfl)) (pgs_cons (pg_name (i := 3) sc.nd rfl (by first | exact Or.inl rfl | exact Or.inr rfl)) (pgs_cons (pg_name (i := 4) sc.nd rfl (by first | exact Or.inl rfl | exact Or.inr rfl)) pgs_nil)))) (tg_tup (.cons tg_name (.cons tg_name (.cons tg_name .nil))) rfl) (q_scons (q_store (ru hr) q_bl (q_var (i := 1)) (q_var (i := 2)))
    (q_sone (q_store (ru hr) q_bl (q_var (i := 1)) (q_var (i := 3))))))
    (q_scons (q_set (i := 5) (q_blt (p_sorted (ru hr)) (by rfl) c.n_sorted (by rfl) (q_cons (q_lc (own := [("point", 6)]) rfl sc.nd (q_over (q_var (i := 1))) (blkOk_by (N := N_points_of) (sc := defScope s_points_of) (by decide +kernel)) tg_name (by decide) (fun _ _ _ _ _ => (pg_name (i := 6) sc.nd rfl (by first | exact Or.inl rfl | exact Or.inr rfl))) (fun _ _ _ _ _ => (q_ifs1 (q_tval (q_blt p_isi (by rfl) c.n_isinstance (by rfl) (q_cons (q_var (i := 6)) (q_cons (q_ty (by rfl) c.n_str (by rfl)) q_nil)))))) (fun _ _ _ _ _ => (q_var (i := 6)))) q_nil)) sc.nd)
    (q_sone (q_ret (q_bin p_add (q_var (i := 5)) (q_blt (p_sorted (ru hr)) (by rfl) c.n_sorted (by rfl) (q_cons (q_lc (own := [("point", 6)]) rfl sc.nd (q_over (q_var (i := 1))) (blkOk_by (N := N_points_of) (sc := defScope s_points_of) (by decide +kernel)) tg_name (by decide) (fun _ _ _ _ _ => (pg_name (i := 6) sc.nd rfl (by first | exact Or.inl rfl | exact Or.inr rfl))) (fun _ _ _ _ _ => (q_ifs1 (q_tval (q_blt p_isi (by rfl) c.n_isinstance (by rfl) (q_cons (q_var (i := 6)) (q_cons (q_ty (by rfl) c.n_tuple (by rfl)) q_nil)))))) (fun _ _ _ _ _ => (q_var (i := 6)))) q_nil))))))))
abbrev N_improved : List Str := ["differences", "numbers", "steps", "is_changed", "index", "row", "one", "other", "number"]
noncomputable def m_improved : FS :=
  (sSeq (sAsg (eC (.bl false)) (gName 3))
    (sSeq (sFor (iArgs enumI (aCons (eVar 0) aNil)) (gTup [(gName 4), (gName 5)]) (sSeq (sAsg (eVar 5) (gTup [(gName 6), (gName 7), (gName 8)]))
    (sIf (tAnd (tVal (eOp (pIn false) (eVar 7) (eVar 1))) (tOr (tVal (eOp (pIn true) (eVar 6) (eVar 1))) (tVal (eOp (pLt) (eOp pAdd (eOp pIx (eVar 1) (eVar 7)) (eVar 8)) (eOp pIx (eVar 1) (eVar 6)))))) (sSeq (sStore (eOp pAdd (eOp pIx (eVar 1) (eVar 7)) (eVar 8)) (eVar 1) (eVar 6))
    (sSeq (sStore (eVar 4) (eVar 2) (eVar 6))
    (sAsg (eC (.bl true)) (gName 3)))) sNext)))
    (sRet (eVar 3))))
noncomputable def F_improved : OpN := mkF 3 9 m_improved
theorem sc_improved : FnScope N_improved ["differences", "numbers", "steps"] (defScope s_improved) := ⟨rfl, rfl, rfl, by decide +kernel, rfl, by decide +kernel, by decide +kernel⟩
theorem h_improved (c : Fs K mg)  : Has P₀ w K mg base 1 "improved" ["differences", "numbers", "steps"] F_improved := by
  obtain ⟨fd, F⟩ := c.f_improved
  have sc := sc_improved
  refine ⟨fd, fn_t F sc fun cdv A outer s H E hr hgu => ?_, F.bindsN fun _ _ _ _ _ _ us hl => match us, hl with | [_, _, _], _ => rfl, F.kp, c.g_improved⟩
  exact (q_scons (q_set (i := 3) q_bl sc.nd)
    (q_scons (q_for (passes_of rfl) rfl (q_enum (by rfl) c.n_enumerate (q_cons (q_var (i := 0)) q_nil)) (pg_tup rfl (pgs_cons (pg_name (i := 4) sc.nd rfl (by first | exact Or.inl rfl | exact Or.inr rfl)) (pgs_cons (pg_name (i := 5) sc.nd rfl (by first | exact Or.inl rfl | exact Or.inr rfl)) pgs_nil))) (tg_tup (.cons tg_name (.cons tg_name .nil)) rfl) (q_scons (q_asg (q_var (i := 5)) (pg_tup rfl (pgs_cons (pg_name (i := 6) sc.nd rfl (by first | exact Or.inl rfl | exact Or.inr rfl)) (pgs_cons (pg_name (i := 7) sc.nd rfl (by first | exact Or.inl rfl | exact Or.inr rfl)) (pgs_cons (pg_name (i := 8) sc.nd rfl (by first | exact Or.inl rfl | exact Or.inr rfl)) pgs_nil)))) (tg_tup (.cons tg_name (.cons tg_name (.cons tg_name .nil))) rfl))
    (q_sone (q_sif ((q_wand (q_tcmp (p_in (ru hr)) (q_var (i := 7)) (q_var (i := 1))) (q_wand1 ((q_wor (q_tcmp (p_notin (ru hr)) (q_var (i := 6)) (q_var (i := 1))) (q_wor1 (q_tcmp p_lt (q_bin p_add (q_ix (ru hr) (q_var (i := 1)) (q_var (i := 7))) (q_var (i := 8))) (q_ix (ru hr) (q_var (i := 1)) (q_var (i := 6))))))).pt))).pt (q_scons (q_store (ru hr) (q_bin p_add (q_ix (ru hr) (q_var (i := 1)) (q_var (i := 7))) (q_var (i := 8))) (q_var (i := 1)) (q_var (i := 6)))
    (q_scons (q_store (ru hr) (q_var (i := 4)) (q_var (i := 2)) (q_var (i := 6)))
    (q_sone (q_set (i := 3) q_bl sc.nd)))) q_snil))))
    (q_sone (q_ret (q_var (i := 3))))))
abbrev N_ring_in : List Str := ["differences", "steps", "point", "start", "seen", "found", "here"]
noncomputable def m_ring_in : FS :=
  (sSeq (sAsg (eNextIter (eVar 1)) (gName 2))
    (sSeq (sFor (iOver (eVar 1)) (gName 3) (sSeq (sPar 4 2 eDict0 (eVar 3))
    (sSeq (sWhile (tAnd (tVal (eOp (pIn false) (eVar 2) (eVar 1))) (tVal (eOp (pIn true) (eVar 2) (eVar 4)))) (sSeq (sStore (eC (.bl true)) (eVar 4) (eVar 2))
    (sAsg (eOp pIx (eOp pIx (eVar 0) (eOp pIx (eVar 1) (eVar 2))) (eC (.int 1))) (gName 2))) 100)
    (sIf (tVal (eOp (pIn false) (eVar 2) (eVar 4))) sBreak sNext))))
    (sSeq (sPar 5 6 (eArgs gList aNil) (eVar 2))
    (sSeq (sWhile (tOr (tVal (eOp (pEq) (eArgs pLen (aCons (eVar 5) aNil)) (eC (.int 0)))) (tVal (eOp (pNe) (eVar 6) (eVar 2)))) (sSeq (sExpr (eApp (eVar 5) (eOp pIx (eVar 1) (eVar 6))))
    (sAsg (eOp pIx (eOp pIx (eVar 0) (eOp pIx (eVar 1) (eVar 6))) (eC (.int 1))) (gName 6))) 100)
    (sRet (eArgs pTupleOf (aCons (eVar 5) aNil)))))))
noncomputable def F_ring_in : OpN := mkF 2 7 m_ring_in
theorem sc_ring_in : FnScope N_ring_in ["differences", "steps"] (defScope s_ring_in) := ⟨rfl, rfl, rfl, by decide +kernel, rfl, by decide +kernel, by decide +kernel⟩
theorem h_ring_in (c : Fs K mg)  : Has P₀ w K mg base 1 "ring_in" ["differences", "steps"] F_ring_in := by
  obtain ⟨fd, F⟩ := c.f_ring_in
  have sc := sc_ring_in
  refine ⟨fd, fn_t F sc fun cdv A outer s H E hr hgu => ?_, F.bindsN fun _ _ _ _ _ _ us hl => match us, hl with | [_, _], _ => rfl, F.kp, c.g_ring_in⟩
  exact (q_scons (q_set (i := 2) (q_nextIter (by rfl) c.n_next (by rfl) c.n_iter (q_var (i := 1))) sc.nd)
    (q_scons (q_for (passes_of rfl) rfl (q_over (q_var (i := 1))) (pg_name (i := 3) sc.nd rfl (by first | exact Or.inl rfl | exact Or.inr rfl)) tg_name (q_scons (q_par (i := 4) (j := 2) q_dict0 (q_var (i := 3)) rfl sc.nd rfl rfl (by decide) rfl rfl (by rfl))
    (q_scons (q_while (passes_of rfl) ((q_wand (q_tcmp (p_in (ru hr)) (q_var (i := 2)) (q_var (i := 1))) (q_wand1 (q_tcmp (p_notin (ru hr)) (q_var (i := 2)) (q_var (i := 4)))))).pt (q_scons (q_store (ru hr) q_bl (q_var (i := 4)) (q_var (i := 2)))
    (q_sone (q_set (i := 2) (q_ix (ru hr) (q_ix (ru hr) (q_var (i := 0)) (q_ix (ru hr) (q_var (i := 1)) (q_var (i := 2)))) q_int) sc.nd))))
    (q_sone (q_sif (q_tcmp (p_in (ru hr)) (q_var (i := 2)) (q_var (i := 4))) (q_sone q_break) q_snil)))))
    (q_scons (q_par (i := 5) (j := 6) (q_list q_nil) (q_var (i := 2)) rfl sc.nd rfl rfl (by decide) rfl rfl (by rfl))
    (q_scons (q_while (passes_of rfl) ((q_wor (q_tcmp (p_eq (ru hr)) (q_blt p_len (by rfl) c.n_len (by rfl) (q_cons (q_var (i := 5)) q_nil)) q_int) (q_wor1 (q_tcmp (p_ne (ru hr)) (q_var (i := 6)) (q_var (i := 2)))))).pt (q_scons (q_expr (q_append (q_var (i := 5)) (q_ix (ru hr) (q_var (i := 1)) (q_var (i := 6)))))
    (q_sone (q_set (i := 6) (q_ix (ru hr) (q_ix (ru hr) (q_var (i := 0)) (q_ix (ru hr) (q_var (i := 1)) (q_var (i := 6)))) q_int) sc.nd))))
    (q_sone (q_ret (q_btyp p_tupleOf (by rfl) c.n_tuple (by rfl) (q_cons (q_var (i := 5)) q_nil))))))))
abbrev N_is_wide : List Str := ["value"]
noncomputable def m_is_wide : FS :=
  (sRet (eAnd (eArgs pIsi (aCons (eVar 0) (aCons (eC (.ty "int")) aNil))) (eNot (eArgs pIsi (aCons (eVar 0) (aCons (eC (.ty "bool")) aNil))))))
noncomputable def F_is_wide : OpN := mkF 1 1 m_is_wide
theorem sc_is_wide : FnScope N_is_wide ["value"] (defScope s_is_wide) := ⟨rfl, rfl, rfl, by decide +kernel, rfl, by decide +kernel, by decide +kernel⟩
theorem h_is_wide (c : Fs K mg)  : Has P₀ w K mg base 1 "is_wide" ["value"] F_is_wide := by
  obtain ⟨fd, F⟩ := c.f_is_wide
  have sc := sc_is_wide
  refine ⟨fd, fn_t F sc fun cdv A outer s H E hr hgu => ?_, F.bindsN fun _ _ _ _ _ _ us hl => match us, hl with | [_], _ => rfl, F.kp, c.g_is_wide⟩
  exact (q_sone (q_ret (q_and (q_blt p_isi (by rfl) c.n_isinstance (by rfl) (q_cons (q_var (i := 0)) (q_cons (q_ty (by rfl) c.n_int (by rfl)) q_nil))) (q_one (q_not (q_blt p_isi (by rfl) c.n_isinstance (by rfl) (q_cons (q_var (i := 0)) (q_cons (q_ty (by rfl) c.n_bool (by rfl)) q_nil))))))))
abbrev N_law_dice : List Str := ["_law_script", "_law_spot", "_law_cell", "_law_great"]
noncomputable def m_law_dice : FS :=
  (sSeq (sAsg (eIf (tVal (eOp (pLt) (eVar 1) (eArgs pLen (aCons (eVar 0) aNil)))) (eOp pIx (eVar 0) (eVar 1)) (eOp pAdd (eOp pMul (eC (.int 37)) (eVar 1)) (eC (.int 23)))) (gName 2))
    (sSeq (sAsg (eOp pMod (eArgs pAbs (aCons (eArgs pInt (aCons (eVar 2) aNil)) aNil)) (eOp pPow (eOp pPow (eC (.int 10)) (eC (.int 61))) (eC (.int 4)))) (gName 3))
    (sRet (eArgs gList (aCons (eArgs pMax2 (aCons (eC (.int 0)) (aCons (eOp pSub (eVar 3) (eOp pPow (eC (.int 10)) (eC (.int 15)))) aNil))) (aCons (eOp pAdd (eOp pAdd (eOp pAdd (eOp pMul (eOp pMod (eVar 3) (eC (.int 2147483543))) (eC (.int 59))) (eOp pMul (eC (.int 613)) (eVar 1))) (eOp pMul (eC (.int 17)) (eArgs pInt (aCons (eOp (pLt) (eVar 2) (eC (.int 0))) aNil)))) (eC (.int 9))) (aCons (eC (.int 0)) aNil)))))))
noncomputable def F_law_dice : OpN := mkF 2 4 m_law_dice
theorem sc_law_dice : FnScope N_law_dice ["_law_script", "_law_spot"] (defScope s_law_dice) := ⟨rfl, rfl, rfl, by decide +kernel, rfl, by decide +kernel, by decide +kernel⟩
theorem h_law_dice (c : Fs K mg)  : Has P₀ w K mg base 1 "_law_dice" ["_law_script", "_law_spot"] F_law_dice := by
  obtain ⟨fd, F⟩ := c.f_law_dice
  have sc := sc_law_dice
  refine ⟨fd, fn_t F sc fun cdv A outer s H E hr hgu => ?_, F.bindsN fun _ _ _ _ _ _ us hl => match us, hl with | [_, _], _ => rfl, F.kp, c.g_law_dice⟩
  exact (q_scons (q_set (i := 2) (q_if (q_tcmp p_lt (q_var (i := 1)) (q_blt p_len (by rfl) c.n_len (by rfl) (q_cons (q_var (i := 0)) q_nil))) (q_ix (ru hr) (q_var (i := 0)) (q_var (i := 1))) (q_bin p_add (q_bin p_mul q_int (q_var (i := 1))) q_int)) sc.nd)
    (q_scons (q_set (i := 3) (q_bin p_mod (q_blt p_abs (by rfl) c.n_abs (by rfl) (q_cons (q_btyp p_int (by rfl) c.n_int (by rfl) (q_cons (q_var (i := 2)) q_nil)) q_nil)) (q_bin p_pow (q_bin p_pow q_int q_int) q_int)) sc.nd)
    (q_sone (q_ret (q_list (q_cons (q_blt (p_max2 rfl) (by rfl) c.n_max (by rfl) (q_cons q_int (q_cons (q_bin p_sub (q_var (i := 3)) (q_bin p_pow q_int q_int)) q_nil))) (q_cons (q_bin p_add (q_bin p_add (q_bin p_add (q_bin p_mul (q_bin p_mod (q_var (i := 3)) q_int) q_int) (q_bin p_mul q_int (q_var (i := 1)))) (q_bin p_mul q_int (q_btyp p_int (by rfl) c.n_int (by rfl) (q_cons (q_cmp p_lt (q_var (i := 2)) q_int) q_nil)))) q_int) (q_cons q_int q_nil))))))))
abbrev N_law_roll : List Str := ["_law_dice_here", "_law_total", "_law_found", "_law_one", "_law_two"]
noncomputable def m_law_roll : FS :=
  (sSeq (sIf (tVal (eOp (pGt) (eOp pIx (eVar 0) (eC (.int 0))) (eC (.int 0)))) (sSeq (sAsg (eOp pMod (eArgs pInt (aCons (eOp pIx (eVar 0) (eC (.int 0))) aNil)) (eVar 1)) (gName 2))
    (sSeq (sStore (eOp pDiv (eOp pIx (eVar 0) (eC (.int 0))) (eVar 1)) (eVar 0) (eC (.int 0)))
    (sRet (eVar 2)))) sNext)
    (sSeq (sStore (eOp pAdd (eOp pIx (eVar 0) (eC (.int 2))) (eC (.int 1))) (eVar 0) (eC (.int 2)))
    (sSeq (sAsg (eOp pMod (eArgs pInt (aCons (eOp pAdd (eOp pIx (eVar 0) (eC (.int 1))) (eOp pMul (eC (.int 8209)) (eOp pIx (eVar 0) (eC (.int 2))))) aNil)) (eC (.int 2305843009213693907))) (gName 3))
    (sSeq (sAsg (eOp pAdd (eOp pMul (eOp pMod (eArgs pInt (aCons (eOp pAdd (eOp pMul (eVar 3) (eVar 3)) (eOp pMul (eC (.int 97)) (eOp pIx (eVar 0) (eC (.int 2))))) aNil)) (eC (.int 2305843009213693921))) (eC (.int 7368787))) (eVar 3)) (gName 4))
    (sRet (eOp pMod (eArgs pInt (aCons (eOp pDiv (eVar 4) (eC (.int 65536))) aNil)) (eVar 1)))))))
noncomputable def F_law_roll : OpN := mkF 2 5 m_law_roll
theorem sc_law_roll : FnScope N_law_roll ["_law_dice_here", "_law_total"] (defScope s_law_roll) := ⟨rfl, rfl, rfl, by decide +kernel, rfl, by decide +kernel, by decide +kernel⟩
theorem h_law_roll (c : Fs K mg)  : Has P₀ w K mg base 1 "_law_roll" ["_law_dice_here", "_law_total"] F_law_roll := by
  obtain ⟨fd, F⟩ := c.f_law_roll
  have sc := sc_law_roll
  refine ⟨fd, fn_t F sc fun cdv A outer s H E hr hgu => ?_, F.bindsN fun _ _ _ _ _ _ us hl => match us, hl with | [_, _], _ => rfl, F.kp, c.g_law_roll⟩
  exact (q_scons (q_sif (q_tcmp p_gt (q_ix (ru hr) (q_var (i := 0)) q_int) q_int) (q_scons (q_set (i := 2) (q_bin p_mod (q_btyp p_int (by rfl) c.n_int (by rfl) (q_cons (q_ix (ru hr) (q_var (i := 0)) q_int) q_nil)) (q_var (i := 1))) sc.nd)
    (q_scons (q_store (ru hr) (q_bin p_div (q_ix (ru hr) (q_var (i := 0)) q_int) (q_var (i := 1))) (q_var (i := 0)) q_int)
    (q_sone (q_ret (q_var (i := 2)))))) q_snil)
    (q_scons (q_store (ru hr) (q_bin p_add (q_ix (ru hr) (q_var (i := 0)) q_int) q_int) (q_var (i := 0)) q_int)
    (q_scons (q_set (i := 3) (q_bin p_mod (q_btyp p_int (by rfl) c.n_int (by rfl) (q_cons (q_bin p_add (q_ix (ru hr) (q_var (i := 0)) q_int) (q_bin p_mul q_int (q_ix (ru hr) (q_var (i := 0)) q_int))) q_nil)) q_int) sc.nd)
    (q_scons (q_set (i := 4) (q_bin p_add (q_bin p_mul (q_bin p_mod (q_btyp p_int (by rfl) c.n_int (by rfl) (q_cons (q_bin p_add (q_bin p_mul (q_var (i := 3)) (q_var (i := 3))) (q_bin p_mul q_int (q_ix (ru hr) (q_var (i := 0)) q_int))) q_nil)) q_int) q_int) (q_var (i := 3))) sc.nd)
    (q_sone (q_ret (q_bin p_mod (q_btyp p_int (by rfl) c.n_int (by rfl) (q_cons (q_bin p_div (q_var (i := 4)) q_int) q_nil)) (q_var (i := 1)))))))))
abbrev N_law_points : List Str := ["_law_found"]
noncomputable def m_law_points : FS :=
  (sSeq (sAsg (eArgs gList (aCons (eC (.str "")) (aCons (eC (.str "i")) (aCons (eC (.str "j")) (aCons (eC (.str "n")) (aCons (eC (.str "*2")) (aCons (eArgs gTuple (aCons (eC (.str "a")) (aCons (eC (.str "i")) (aCons (eC (.int 0)) aNil)))) (aCons (eArgs gTuple (aCons (eC (.str "a")) (aCons (eC (.str "")) (aCons (eC (.int 2)) aNil)))) (aCons (eC (.str "*10")) aNil))))))))) (gName 0))
    (sRet (eOp pAdd (eVar 0) (eArgs gList (aCons (eArgs gTuple (aCons (eC (.str "a")) (aCons (eC (.str "i")) (aCons (eUn pNeg (eC (.int 1))) aNil)))) (aCons (eC (.str "*1")) (aCons (eArgs gTuple (aCons (eC (.str "b")) (aCons (eC (.str "")) (aCons (eC (.int 0)) aNil)))) aNil)))))))
noncomputable def F_law_points : OpN := mkF 0 1 m_law_points
theorem sc_law_points : FnScope N_law_points [] (defScope s_law_points) := ⟨rfl, rfl, rfl, by decide +kernel, rfl, by decide +kernel, by decide +kernel⟩
theorem h_law_points (c : Fs K mg)  : Has P₀ w K mg base 1 "_law_points" [] F_law_points := by
  obtain ⟨fd, F⟩ := c.f_law_points
  have sc := sc_law_points
  refine ⟨fd, fn_t F sc fun cdv A outer s H E hr hgu => ?_, F.bindsN fun _ _ _ _ _ _ us hl => match us, hl with | [], _ => rfl, F.kp, c.g_law_points⟩
  exact (q_scons (q_set (i := 0) (q_list (q_cons q_str (q_cons q_str (q_cons q_str (q_cons q_str (q_cons q_str (q_cons (q_tuple (q_cons q_str (q_cons q_str (q_cons q_int q_nil)))) (q_cons (q_tuple (q_cons q_str (q_cons q_str (q_cons q_int q_nil)))) (q_cons q_str q_nil))))))))) sc.nd)
    (q_sone (q_ret (q_bin p_add (q_var (i := 0)) (q_list (q_cons (q_tuple (q_cons q_str (q_cons q_str (q_cons (q_un p_neg q_int) q_nil)))) (q_cons q_str (q_cons (q_tuple (q_cons q_str (q_cons q_str (q_cons q_int q_nil)))) q_nil))))))))
abbrev N_law_ends : List Str := ["_law_rows_here", "_law_found", "_law_one", "_law_other", "_law_most", "_law_point"]
noncomputable def m_law_ends : FS :=
  (sSeq (sAsg (eArgs gList (aCons (eC (.str "")) aNil)) (gName 1))
    (sSeq (sFor (iOver (eVar 0)) (gTup [(gName 2), (gName 3), (gName 4)]) (sAsg (eOp pAdd (eVar 1) (eLc (iOver (eOp pAdd (eArgs gList (aCons (eVar 2) aNil)) (eOp pMul (eArgs gList (aCons (eVar 3) aNil)) (eArgs pInt (aCons (eOp (pNe) (eVar 3) (eVar 2)) aNil))))) (gName 5) (tVal (eOp (pIn true) (eVar 5) (eVar 1))) (eVar 5) [5])) (gName 1)))
    (sRet (eVar 1))))
noncomputable def F_law_ends : OpN := mkF 1 6 m_law_ends
theorem sc_law_ends : FnScope N_law_ends ["_law_rows_here"] (defScope s_law_ends) := ⟨rfl, rfl, rfl, by decide +kernel, rfl, by decide +kernel, by decide +kernel⟩
theorem h_law_ends (c : Fs K mg)  : Has P₀ w K mg base 1 "_law_ends" ["_law_rows_here"] F_law_ends := by
  obtain ⟨fd, F⟩ := c.f_law_ends
  have sc := sc_law_ends
  refine ⟨fd, fn_t F sc fun cdv A outer s H E hr hgu => ?_, F.bindsN fun _ _ _ _ _ _ us hl => match us, hl with | [_], _ => rfl, F.kp, c.g_law_ends⟩
  exact (q_scons (q_set (i := 1) (q_list (q_cons q_str q_nil)) sc.nd)
    (q_scons (q_for (passes_of rfl) rfl (q_over (q_var (i := 0))) (pg_tup rfl (pgs_cons (pg_name (i := 2) sc.nd rfl (by first | exact Or.inl rfl | exact Or.inr rfl)) (pgs_cons (pg_name (i := 3) sc.nd rfl (by first | exact Or.inl rfl | exact Or.inr rfl)) (pgs_cons (pg_name (i := 4) sc.nd rfl (by first | exact Or.inl rfl | exact Or.inr rfl)) pgs_nil)))) (tg_tup (.cons tg_name (.cons tg_name (.cons tg_name .nil))) rfl) (q_sone (q_set (i := 1) (q_bin p_add (q_var (i := 1)) (q_lc (own := [("_law_point", 5)]) rfl sc.nd (q_over (q_bin p_add (q_list (q_cons (q_var (i := 2)) q_nil)) (q_bin p_mul (q_list (q_cons (q_var (i := 3)) q_nil)) (q_btyp p_int (by rfl) c.n_int (by rfl) (q_cons (q_cmp (p_ne (ru hr)) (q_var (i := 3)) (q_var (i := 2))) q_nil))))) (blkOk_by (N := N_law_ends) (sc := defScope s_law_ends) (by decide +kernel)) tg_name (by decide) (fun _ _ _ _ _ => (pg_name (i := 5) sc.nd rfl (by first | exact Or.inl rfl | exact Or.inr rfl))) (fun _ _ _ _ _ => (q_ifs1 (q_tcmp (p_notin (ru hr)) (q_var (i := 5)) (q_var (i := 1))))) (fun _ _ _ _ _ => (q_var (i := 5))))) sc.nd)))
    (q_sone (q_ret (q_var (i := 1))))))
abbrev N_law_is_order : List Str := ["_law_keys", "_law_words", "_law_key"]
noncomputable def m_law_is_order : FS :=
  (sSeq (sAsg (eLc (iOver (eVar 0)) (gName 2) (tNot (tVal (eArgs pIsi (aCons (eVar 2) (aCons (eC (.ty "tuple")) aNil))))) (eVar 2) [2]) (gName 1))
    (sRet (eAnd (eOp (pEq) (eSl (eVar 0) oNone (oSome (eC (.int 1)))) (eArgs gList (aCons (eC (.str "")) aNil))) (eOp (pEq) (eVar 0) (eOp pAdd (eArgs pSorted (aCons (eVar 1) aNil)) (eArgs pSorted (aCons (eLc (iOver (eVar 0)) (gName 2) (tVal (eArgs pIsi (aCons (eVar 2) (aCons (eC (.ty "tuple")) aNil)))) (eVar 2) [2]) aNil)))))))
noncomputable def F_law_is_order : OpN := mkF 1 3 m_law_is_order
theorem sc_law_is_order : FnScope N_law_is_order ["_law_keys"] (defScope s_law_is_order) := ⟨rfl, rfl, rfl, by decide +kernel, rfl, by decide +kernel, by decide +kernel⟩
theorem h_law_is_order (c : Fs K mg)  : Has P₀ w K mg base 1 "_law_is_order" ["_law_keys"] F_law_is_order := by
  obtain ⟨fd, F⟩ := c.f_law_is_order
  have sc := sc_law_is_order
  refine ⟨fd, fn_t F sc fun cdv A outer s H E hr hgu => ?_, F.bindsN fun _ _ _ _ _ _ us hl => match us, hl with | [_], _ => rfl, F.kp, c.g_law_is_order⟩
  exact (q_scons (q_setLc (i := 1) (own := [("_law_key", 2)]) rfl sc.nd rfl rfl (sw_true rfl rfl rfl (by decide +kernel)) (q_over (q_var (i := 0))) (blkOk_by (N := N_law_is_order) (sc := defScope s_law_is_order) (by decide +kernel)) tg_name (by decide) (fun _ _ _ _ _ => (pg_name (i := 2) sc.nd rfl (by first | exact Or.inl rfl | exact Or.inr rfl))) (fun _ _ _ _ _ => (q_ifs1 (q_tnot (q_tval (q_blt p_isi (by rfl) c.n_isinstance (by rfl) (q_cons (q_var (i := 2)) (q_cons (q_ty (by rfl) c.n_tuple (by rfl)) q_nil))))))) (fun _ _ _ _ _ => (q_var (i := 2))))
    (q_sone (q_ret (q_and (q_cmp (p_eq (ru hr)) (q_slice (q_var (i := 0)) q_onone (q_osome q_int)) (q_list (q_cons q_str q_nil))) (q_one (q_cmp (p_eq (ru hr)) (q_var (i := 0)) (q_bin p_add (q_blt (p_sorted (ru hr)) (by rfl) c.n_sorted (by rfl) (q_cons (q_var (i := 1)) q_nil)) (q_blt (p_sorted (ru hr)) (by rfl) c.n_sorted (by rfl) (q_cons (q_lc (own := [("_law_key", 2)]) rfl sc.nd (q_over (q_var (i := 0))) (blkOk_by (N := N_law_is_order) (sc := defScope s_law_is_order) (by decide +kernel)) tg_name (by decide) (fun _ _ _ _ _ => (pg_name (i := 2) sc.nd rfl (by first | exact Or.inl rfl | exact Or.inr rfl))) (fun _ _ _ _ _ => (q_ifs1 (q_tval (q_blt p_isi (by rfl) c.n_isinstance (by rfl) (q_cons (q_var (i := 2)) (q_cons (q_ty (by rfl) c.n_tuple (by rfl)) q_nil)))))) (fun _ _ _ _ _ => (q_var (i := 2)))) q_nil)))))))))
abbrev N_law_is_chain : List Str := ["_law_rows_here", "_law_indices", "_law_chosen", "_law_index", "_law_row", "_law_spot"]
noncomputable def m_law_is_chain : FS :=
  (sSeq (sAsg (eLc (iOver (eVar 1)) (gName 3) tYesF (eOp pIx (eVar 0) (eVar 3)) [3]) (gName 2))
    (sSeq (sIf (tOr (tVal (eOp (pEq) (eVar 2) (eArgs gList aNil))) (tVal (eOp (pGe) (eArgs pSum (aCons (eLc (iOver (eVar 2)) (gName 4) tYesF (eOp pIx (eVar 4) (eC (.int 2))) [4]) aNil)) (eC (.int 0))))) (sRet (eC (.bl false))) sNext)
    (sRet (eOp (pEq) (eLc (iArgs rng1 (aCons (eArgs pLen (aCons (eVar 2) aNil)) aNil)) (gName 5) (tVal (eOp (pNe) (eOp pIx (eOp pIx (eVar 2) (eVar 5)) (eC (.int 1))) (eOp pIx (eOp pIx (eVar 2) (eOp pMod (eOp pAdd (eVar 5) (eC (.int 1))) (eArgs pLen (aCons (eVar 2) aNil)))) (eC (.int 0))))) (eVar 5) [5]) (eArgs gList aNil)))))
noncomputable def F_law_is_chain : OpN := mkF 2 6 m_law_is_chain
theorem sc_law_is_chain : FnScope N_law_is_chain ["_law_rows_here", "_law_indices"] (defScope s_law_is_chain) := ⟨rfl, rfl, rfl, by decide +kernel, rfl, by decide +kernel, by decide +kernel⟩
theorem h_law_is_chain (c : Fs K mg)  : Has P₀ w K mg base 1 "_law_is_chain" ["_law_rows_here", "_law_indices"] F_law_is_chain := by
  obtain ⟨fd, F⟩ := c.f_law_is_chain
  have sc := sc_law_is_chain
  refine ⟨fd, fn_t F sc fun cdv A outer s H E hr hgu => ?_, F.bindsN fun _ _ _ _ _ _ us hl => match us, hl with | [_, _], _ => rfl, F.kp, c.g_law_is_chain⟩
  exact (q_scons (q_set (i := 2) (q_lc (own := [("_law_index", 3)]) rfl sc.nd (q_over (q_var (i := 1))) (blkOk_by (N := N_law_is_chain) (sc := defScope s_law_is_chain) (by decide +kernel)) tg_name (by decide) (fun _ _ _ _ _ => (pg_name (i := 3) sc.nd rfl (by first | exact Or.inl rfl | exact Or.inr rfl))) (fun _ _ _ _ _ => q_ifs0) (fun _ _ _ _ _ => (q_ix (ru hr) (q_var (i := 0)) (q_var (i := 3))))) sc.nd)
    (q_scons (q_sif ((q_wor (q_tcmp (p_eq (ru hr)) (q_var (i := 2)) (q_list q_nil)) (q_wor1 (q_tcmp p_ge (q_blt (p_sum rfl) (by rfl) c.n_sum (by rfl) (q_cons (q_lc (own := [("_law_row", 4)]) rfl sc.nd (q_over (q_var (i := 2))) (blkOk_by (N := N_law_is_chain) (sc := defScope s_law_is_chain) (by decide +kernel)) tg_name (by decide) (fun _ _ _ _ _ => (pg_name (i := 4) sc.nd rfl (by first | exact Or.inl rfl | exact Or.inr rfl))) (fun _ _ _ _ _ => q_ifs0) (fun _ _ _ _ _ => (q_ix (ru hr) (q_var (i := 4)) q_int))) q_nil)) q_int)))).pt (q_sone (q_ret q_bl)) q_snil)
    (q_sone (q_ret (q_cmp (p_eq (ru hr)) (q_lc (own := [("_law_spot", 5)]) rfl sc.nd (q_range1 (by rfl) c.n_range (q_cons (q_blt p_len (by rfl) c.n_len (by rfl) (q_cons (q_var (i := 2)) q_nil)) q_nil)) (blkOk_by (N := N_law_is_chain) (sc := defScope s_law_is_chain) (by decide +kernel)) tg_name (by decide) (fun _ _ _ _ _ => (pg_name (i := 5) sc.nd rfl (by first | exact Or.inl rfl | exact Or.inr rfl))) (fun _ _ _ _ _ => (q_ifs1 (q_tcmp (p_ne (ru hr)) (q_ix (ru hr) (q_ix (ru hr) (q_var (i := 2)) (q_var (i := 5))) q_int) (q_ix (ru hr) (q_ix (ru hr) (q_var (i := 2)) (q_bin p_mod (q_bin p_add (q_var (i := 5)) q_int) (q_blt p_len (by rfl) c.n_len (by rfl) (q_cons (q_var (i := 2)) q_nil)))) q_int)))) (fun _ _ _ _ _ => (q_var (i := 5)))) (q_list q_nil))))))
abbrev N_is_place : List Str := ["value"]
noncomputable def m_is_place : FS :=
  (sRet (eAnd (eArgs pIsi (aCons (eVar 0) (aCons (eC (.ty "str")) aNil))) (eOr (eOp (pEq) (eVar 0) (eC (.str ""))) (eOr (eArgs F_is_name (aCons (eVar 0) aNil)) (eArgs F_is_new (aCons (eVar 0) aNil))))))
noncomputable def F_is_place : OpN := mkF 1 1 m_is_place
theorem sc_is_place : FnScope N_is_place ["value"] (defScope s_is_place) := ⟨rfl, rfl, rfl, by decide +kernel, rfl, by decide +kernel, by decide +kernel⟩
theorem h_is_place (c : Fs K mg) (h_is_name : Has P₀ w K mg base 1 "is_name" ["value"] F_is_name) (h_is_new : Has P₀ w K mg base 1 "is_new" ["value"] F_is_new) : Has P₀ w K mg base 2 "is_place" ["value"] F_is_place := by
  obtain ⟨fd, F⟩ := c.f_is_place
  have sc := sc_is_place
  refine ⟨fd, fn_t F sc fun cdv A outer s H E hr hgu => ?_, F.bindsN fun _ _ _ _ _ _ us hl => match us, hl with | [_], _ => rfl, F.kp, c.g_is_place⟩
  exact (q_sone (q_ret (q_and (q_blt p_isi (by rfl) c.n_isinstance (by rfl) (q_cons (q_var (i := 0)) (q_cons (q_ty (by rfl) c.n_str (by rfl)) q_nil))) (q_one (q_or (q_cmp (p_eq (ru hr)) (q_var (i := 0)) (q_gstr (by rfl) c.c_ZERO.choose_spec)) (q_or (q_hcall h_is_name (by decide) hr hgu (by rfl) (takes_of rfl rfl rfl rfl) (q_cons (q_var (i := 0)) q_nil)) (q_one (q_hcall h_is_new (by decide) hr hgu (by rfl) (takes_of rfl rfl rfl rfl) (q_cons (q_var (i := 0)) q_nil)))))))))
abbrev N_settled : List Str := ["differences", "numbers", "steps", "points", "turn"]
noncomputable def m_settled : FS :=
  (sSeq (sPar 2 3 eDict0 (eArgs F_points_of (aCons (eVar 0) aNil)))
    (sSeq (sFor (iArgs rng1 (aCons (eOp pAdd (eOp pAdd (eArgs pLen (aCons (eVar 3) aNil)) (eArgs pLen (aCons (eVar 1) aNil))) (eC (.int 1))) aNil)) (gName 4) (sIf (tNot (tVal (eArgs F_improved (aCons (eVar 0) (aCons (eVar 1) (aCons (eVar 2) aNil)))))) (sRet (eArgs gTuple (aCons (eVar 2) (aCons (eC (.bl false)) aNil)))) sNext))
    (sRet (eArgs gTuple (aCons (eVar 2) (aCons (eC (.bl true)) aNil))))))
noncomputable def F_settled : OpN := mkF 2 5 m_settled
theorem sc_settled : FnScope N_settled ["differences", "numbers"] (defScope s_settled) := ⟨rfl, rfl, rfl, by decide +kernel, rfl, by decide +kernel, by decide +kernel⟩
theorem h_settled (c : Fs K mg) (h_improved : Has P₀ w K mg base 1 "improved" ["differences", "numbers", "steps"] F_improved) (h_points_of : Has P₀ w K mg base 1 "points_of" ["differences"] F_points_of) : Has P₀ w K mg base 2 "settled" ["differences", "numbers"] F_settled := by
  obtain ⟨fd, F⟩ := c.f_settled
  have sc := sc_settled
  refine ⟨fd, fn_t F sc fun cdv A outer s H E hr hgu => ?_, F.bindsN fun _ _ _ _ _ _ us hl => match us, hl with | [_, _], _ => rfl, F.kp, c.g_settled⟩
  exact (q_scons (q_par (i := 2) (j := 3) q_dict0 (q_hcall h_points_of (by decide) hr hgu (by rfl) (takes_of rfl rfl rfl rfl) (q_cons (q_var (i := 0)) q_nil)) rfl sc.nd rfl rfl (by decide) rfl rfl (by rfl))
    (q_scons (q_for (passes_of rfl) rfl (q_range1 (by rfl) c.n_range (q_cons (q_bin p_add (q_bin p_add (q_blt p_len (by rfl) c.n_len (by rfl) (q_cons (q_var (i := 3)) q_nil)) (q_blt p_len (by rfl) c.n_len (by rfl) (q_cons (q_var (i := 1)) q_nil))) q_int) q_nil)) (pg_name (i := 4) sc.nd rfl (by first | exact Or.inl rfl | exact Or.inr rfl)) tg_name (q_sone (q_sif (q_tnot (q_tval (q_hcall h_improved (by decide) hr hgu (by rfl) (takes_of rfl rfl rfl rfl) (q_cons (q_var (i := 0)) (q_cons (q_var (i := 1)) (q_cons (q_var (i := 2)) q_nil)))))) (q_sone (q_ret (q_tuple (q_cons (q_var (i := 2)) (q_cons q_bl q_nil))))) q_snil)))
    (q_sone (q_ret (q_tuple (q_cons (q_var (i := 2)) (q_cons q_bl q_nil)))))))
abbrev N_is_ring_of : List Str := ["differences", "value", "rows", "index", "at", "row", "one", "other", "number"]
noncomputable def m_is_ring_of : FS :=
  (sSeq (sIf (tOr (tNot (tVal (eArgs pIsi (aCons (eVar 1) (aCons (eC (.ty "tuple")) aNil))))) (tVal (eOp (pEq) (eArgs pLen (aCons (eVar 1) aNil)) (eC (.int 0))))) (sRet (eC (.bl false))) sNext)
    (sSeq (sIf (tNot (tVal (eArgs pAll (aCons (eLc (iOver (eVar 1)) (gName 3) tYesF (eAnd (eArgs F_is_integer (aCons (eVar 3) aNil)) (eChain pLe pLt (eC (.int 0)) (eVar 3) (eArgs pLen (aCons (eVar 0) aNil)))) [3]) aNil)))) (sRet (eC (.bl false))) sNext)
    (sSeq (sAsg (eLc (iOver (eVar 1)) (gName 3) tYesF (eOp pIx (eVar 0) (eVar 3)) [3]) (gName 2))
    (sSeq (sIf (tNot (tVal (eArgs pAll (aCons (eLc (iArgs enumI (aCons (eVar 2) aNil)) (gTup [(gName 4), (gName 5)]) tYesF (eOp (pEq) (eOp pIx (eVar 5) (eC (.int 1))) (eOp pIx (eOp pIx (eVar 2) (eOp pMod (eOp pAdd (eVar 4) (eC (.int 1))) (eArgs pLen (aCons (eVar 2) aNil)))) (eC (.int 0)))) [4, 5]) aNil)))) (sRet (eC (.bl false))) sNext)
    (sRet (eOp (pLt) (eArgs pSum (aCons (eLc (iOver (eVar 2)) (gTup [(gName 6), (gName 7), (gName 8)]) tYesF (eVar 8) [6, 7, 8]) aNil)) (eC (.int 0))))))))
noncomputable def F_is_ring_of : OpN := mkF 2 9 m_is_ring_of
theorem sc_is_ring_of : FnScope N_is_ring_of ["differences", "value"] (defScope s_is_ring_of) := ⟨rfl, rfl, rfl, by decide +kernel, rfl, by decide +kernel, by decide +kernel⟩
theorem h_is_ring_of (c : Fs K mg) (h_is_integer : Has P₀ w K mg base 1 "is_integer" ["value"] F_is_integer) : Has P₀ w K mg base 2 "is_ring_of" ["differences", "value"] F_is_ring_of := by
  obtain ⟨fd, F⟩ := c.f_is_ring_of
  have sc := sc_is_ring_of
  refine ⟨fd, fn_t F sc fun cdv A outer s H E hr hgu => ?_, F.bindsN fun _ _ _ _ _ _ us hl => match us, hl with | [_, _], _ => rfl, F.kp, c.g_is_ring_of⟩
  exact (q_scons (q_sif ((q_wor (q_tnot (q_tval (q_blt p_isi (by rfl) c.n_isinstance (by rfl) (q_cons (q_var (i := 1)) (q_cons (q_ty (by rfl) c.n_tuple (by rfl)) q_nil))))) (q_wor1 (q_tcmp (p_eq (ru hr)) (q_blt p_len (by rfl) c.n_len (by rfl) (q_cons (q_var (i := 1)) q_nil)) q_int)))).pt (q_sone (q_ret q_bl)) q_snil)
    (q_scons (q_sif (q_tnot (q_tval (q_blt (p_all rfl) (by rfl) c.n_all (by rfl) (q_cons (q_lc (own := [("index", 3)]) rfl sc.nd (q_over (q_var (i := 1))) (blkOk_by (N := N_is_ring_of) (sc := defScope s_is_ring_of) (by decide +kernel)) tg_name (by decide) (fun _ _ _ _ _ => (pg_name (i := 3) sc.nd rfl (by first | exact Or.inl rfl | exact Or.inr rfl))) (fun _ _ _ _ _ => q_ifs0) (fun _ _ _ _ _ => (q_and (q_hcall h_is_integer (by decide) hr hgu (by rfl) takes0 (q_cons (q_var (i := 3)) q_nil)) (q_one (q_chain p_le p_lt q_int (q_var (i := 3)) (q_blt p_len (by rfl) c.n_len (by rfl) (q_cons (q_var (i := 0)) q_nil))))))) q_nil)))) (q_sone (q_ret q_bl)) q_snil)
    (q_scons (q_set (i := 2) (q_lc (own := [("index", 3)]) rfl sc.nd (q_over (q_var (i := 1))) (blkOk_by (N := N_is_ring_of) (sc := defScope s_is_ring_of) (by decide +kernel)) tg_name (by decide) (fun _ _ _ _ _ => (pg_name (i := 3) sc.nd rfl (by first | exact Or.inl rfl | exact Or.inr rfl))) (fun _ _ _ _ _ => q_ifs0) (fun _ _ _ _ _ => (q_ix (ru hr) (q_var (i := 0)) (q_var (i := 3))))) sc.nd)
    (q_scons (q_sif (q_tnot (q_tval (q_blt (p_all rfl) (by rfl) c.n_all (by rfl) (q_cons (q_lc (own := [("at", 4), ("row", 5)]) rfl sc.nd (q_enum (by rfl) c.n_enumerate (q_cons (q_var (i := 2)) q_nil)) (blkOk_by (N := N_is_ring_of) (sc := defScope s_is_ring_of) (by decide +kernel)) (tg_tup (.cons tg_name (.cons tg_name .nil)) rfl) (by decide) (fun _ _ _ _ _ => (pg_tup rfl (pgs_cons (pg_name (i := 4) sc.nd rfl (by first | exact Or.inl rfl | exact Or.inr rfl)) (pgs_cons (pg_name (i := 5) sc.nd rfl (by first | exact Or.inl rfl | exact Or.inr rfl)) pgs_nil)))) (fun _ _ _ _ _ => q_ifs0) (fun _ _ _ _ _ => (q_cmp (p_eq (ru hr)) (q_ix (ru hr) (q_var (i := 5)) q_int) (q_ix (ru hr) (q_ix (ru hr) (q_var (i := 2)) (q_bin p_mod (q_bin p_add (q_var (i := 4)) q_int) (q_blt p_len (by rfl) c.n_len (by rfl) (q_cons (q_var (i := 2)) q_nil)))) q_int)))) q_nil)))) (q_sone (q_ret q_bl)) q_snil)
    (q_sone (q_ret (q_cmp p_lt (q_blt (p_sum rfl) (by rfl) c.n_sum (by rfl) (q_cons (q_lc (own := [("one", 6), ("other", 7), ("number", 8)]) rfl sc.nd (q_over (q_var (i := 2))) (blkOk_by (N := N_is_ring_of) (sc := defScope s_is_ring_of) (by decide +kernel)) (tg_tup (.cons tg_name (.cons tg_name (.cons tg_name .nil))) rfl) (by decide) (fun _ _ _ _ _ => (pg_tup rfl (pgs_cons (pg_name (i := 6) sc.nd rfl (by first | exact Or.inl rfl | exact Or.inr rfl)) (pgs_cons (pg_name (i := 7) sc.nd rfl (by first | exact Or.inl rfl | exact Or.inr rfl)) (pgs_cons (pg_name (i := 8) sc.nd rfl (by first | exact Or.inl rfl | exact Or.inr rfl)) pgs_nil))))) (fun _ _ _ _ _ => q_ifs0) (fun _ _ _ _ _ => (q_var (i := 8)))) q_nil)) q_int)))))))
abbrev N_law_pick : List Str := ["_law_dice_here", "_law_items"]
noncomputable def m_law_pick : FS :=
  (sRet (eOp pIx (eVar 1) (eArgs F_law_roll (aCons (eVar 0) (aCons (eArgs pLen (aCons (eVar 1) aNil)) aNil)))))
noncomputable def F_law_pick : OpN := mkF 2 2 m_law_pick
theorem sc_law_pick : FnScope N_law_pick ["_law_dice_here", "_law_items"] (defScope s_law_pick) := ⟨rfl, rfl, rfl, by decide +kernel, rfl, by decide +kernel, by decide +kernel⟩
theorem h_law_pick (c : Fs K mg) (h_law_roll : Has P₀ w K mg base 1 "_law_roll" ["_law_dice_here", "_law_total"] F_law_roll) : Has P₀ w K mg base 2 "_law_pick" ["_law_dice_here", "_law_items"] F_law_pick := by
  obtain ⟨fd, F⟩ := c.f_law_pick
  have sc := sc_law_pick
  refine ⟨fd, fn_t F sc fun cdv A outer s H E hr hgu => ?_, F.bindsN fun _ _ _ _ _ _ us hl => match us, hl with | [_, _], _ => rfl, F.kp, c.g_law_pick⟩
  exact (q_sone (q_ret (q_ix (ru hr) (q_var (i := 1)) (q_hcall h_law_roll (by decide) hr hgu (by rfl) (takes_of rfl rfl rfl rfl) (q_cons (q_var (i := 0)) (q_cons (q_blt p_len (by rfl) c.n_len (by rfl) (q_cons (q_var (i := 1)) q_nil)) q_nil))))))
abbrev N_law_bounds : List Str := ["_law_rows_here", "_law_points_here", "_law_found", "_law_point", "_law_one", "_law_other", "_law_most", "_law_middle", "_law_whole"]
noncomputable def m_law_bounds : FS :=
  (sSeq (sPar 1 2 (eArgs F_law_ends (aCons (eVar 0) aNil)) eDict0)
    (sSeq (sFor (iOver (eVar 1)) (gName 3) (sStore (eC (.int 0)) (eVar 2) (eArgs gTuple (aCons (eVar 3) (aCons (eVar 3) aNil)))))
    (sSeq (sFor (iOver (eVar 0)) (gTup [(gName 4), (gName 5), (gName 6)]) (sStore (eArgs pMinL (aCons (eOp pAdd (eArgs gList (aCons (eVar 6) aNil)) (eIf (tVal (eOp (pIn false) (eArgs gTuple (aCons (eVar 4) (aCons (eVar 5) aNil))) (eVar 2))) (eArgs gList (aCons (eOp pIx (eVar 2) (eArgs gTuple (aCons (eVar 4) (aCons (eVar 5) aNil)))) aNil)) (eArgs gList aNil))) aNil)) (eVar 2) (eArgs gTuple (aCons (eVar 4) (aCons (eVar 5) aNil)))))
    (sSeq (sFor (iOver (eVar 1)) (gName 7) (sFor (iOver (eVar 1)) (gName 4) (sFor (iOver (eVar 1)) (gName 5) (sIf (tAnd (tVal (eOp (pIn false) (eArgs gTuple (aCons (eVar 4) (aCons (eVar 7) aNil))) (eVar 2))) (tVal (eOp (pIn false) (eArgs gTuple (aCons (eVar 7) (aCons (eVar 5) aNil))) (eVar 2)))) (sSeq (sAsg (eOp pAdd (eOp pIx (eVar 2) (eArgs gTuple (aCons (eVar 4) (aCons (eVar 7) aNil)))) (eOp pIx (eVar 2) (eArgs gTuple (aCons (eVar 7) (aCons (eVar 5) aNil))))) (gName 8))
    (sStore (eArgs pMin2 (aCons (eVar 8) (aCons (eGet2 (eVar 2) (eArgs gTuple (aCons (eVar 4) (aCons (eVar 5) aNil))) (eVar 8)) aNil))) (eVar 2) (eArgs gTuple (aCons (eVar 4) (aCons (eVar 5) aNil))))) sNext))))
    (sRet (eVar 2))))))
noncomputable def F_law_bounds : OpN := mkF 1 9 m_law_bounds
theorem sc_law_bounds : FnScope N_law_bounds ["_law_rows_here"] (defScope s_law_bounds) := ⟨rfl, rfl, rfl, by decide +kernel, rfl, by decide +kernel, by decide +kernel⟩
theorem h_law_bounds (c : Fs K mg) (h_law_ends : Has P₀ w K mg base 1 "_law_ends" ["_law_rows_here"] F_law_ends) : Has P₀ w K mg base 2 "_law_bounds" ["_law_rows_here"] F_law_bounds := by
  obtain ⟨fd, F⟩ := c.f_law_bounds
  have sc := sc_law_bounds
  refine ⟨fd, fn_t F sc fun cdv A outer s H E hr hgu => ?_, F.bindsN fun _ _ _ _ _ _ us hl => match us, hl with | [_], _ => rfl, F.kp, c.g_law_bounds⟩
  exact (q_scons (q_par (i := 1) (j := 2) (q_hcall h_law_ends (by decide) hr hgu (by rfl) (takes_of rfl rfl rfl rfl) (q_cons (q_var (i := 0)) q_nil)) q_dict0 rfl sc.nd rfl rfl (by decide) rfl rfl (by rfl))
    (q_scons (q_for (passes_of rfl) rfl (q_over (q_var (i := 1))) (pg_name (i := 3) sc.nd rfl (by first | exact Or.inl rfl | exact Or.inr rfl)) tg_name (q_sone (q_store (ru hr) q_int (q_var (i := 2)) (q_tuple (q_cons (q_var (i := 3)) (q_cons (q_var (i := 3)) q_nil))))))
    (q_scons (q_for (passes_of rfl) rfl (q_over (q_var (i := 0))) (pg_tup rfl (pgs_cons (pg_name (i := 4) sc.nd rfl (by first | exact Or.inl rfl | exact Or.inr rfl)) (pgs_cons (pg_name (i := 5) sc.nd rfl (by first | exact Or.inl rfl | exact Or.inr rfl)) (pgs_cons (pg_name (i := 6) sc.nd rfl (by first | exact Or.inl rfl | exact Or.inr rfl)) pgs_nil)))) (tg_tup (.cons tg_name (.cons tg_name (.cons tg_name .nil))) rfl) (q_sone (q_store (ru hr) (q_blt (p_minL rfl) (by rfl) c.n_min (by rfl) (q_cons (q_bin p_add (q_list (q_cons (q_var (i := 6)) q_nil)) (q_if (q_tcmp (p_in (ru hr)) (q_tuple (q_cons (q_var (i := 4)) (q_cons (q_var (i := 5)) q_nil))) (q_var (i := 2))) (q_list (q_cons (q_ix (ru hr) (q_var (i := 2)) (q_tuple (q_cons (q_var (i := 4)) (q_cons (q_var (i := 5)) q_nil)))) q_nil)) (q_list q_nil))) q_nil)) (q_var (i := 2)) (q_tuple (q_cons (q_var (i := 4)) (q_cons (q_var (i := 5)) q_nil))))))
    (q_scons (q_for (passes_of rfl) rfl (q_over (q_var (i := 1))) (pg_name (i := 7) sc.nd rfl (by first | exact Or.inl rfl | exact Or.inr rfl)) tg_name (q_sone (q_for (passes_of rfl) rfl (q_over (q_var (i := 1))) (pg_name (i := 4) sc.nd rfl (by first | exact Or.inl rfl | exact Or.inr rfl)) tg_name (q_sone (q_for (passes_of rfl) rfl (q_over (q_var (i := 1))) (pg_name (i := 5) sc.nd rfl (by first | exact Or.inl rfl | exact Or.inr rfl)) tg_name (q_sone (q_sif ((q_wand (q_tcmp (p_in (ru hr)) (q_tuple (q_cons (q_var (i := 4)) (q_cons (q_var (i := 7)) q_nil))) (q_var (i := 2))) (q_wand1 (q_tcmp (p_in (ru hr)) (q_tuple (q_cons (q_var (i := 7)) (q_cons (q_var (i := 5)) q_nil))) (q_var (i := 2)))))).pt (q_scons (q_set (i := 8) (q_bin p_add (q_ix (ru hr) (q_var (i := 2)) (q_tuple (q_cons (q_var (i := 4)) (q_cons (q_var (i := 7)) q_nil)))) (q_ix (ru hr) (q_var (i := 2)) (q_tuple (q_cons (q_var (i := 7)) (q_cons (q_var (i := 5)) q_nil))))) sc.nd)
    (q_sone (q_store (ru hr) (q_blt (p_min2 rfl) (by rfl) c.n_min (by rfl) (q_cons (q_var (i := 8)) (q_cons (q_get2 (ru hr) (q_var (i := 2)) (q_tuple (q_cons (q_var (i := 4)) (q_cons (q_var (i := 5)) q_nil))) (q_var (i := 8)) ⟨by rfl, by rfl, by rfl, by rfl⟩) q_nil))) (q_var (i := 2)) (q_tuple (q_cons (q_var (i := 4)) (q_cons (q_var (i := 5)) q_nil)))))) q_snil)))))))
    (q_sone (q_ret (q_var (i := 2))))))))
abbrev N_is_point : List Str := ["value"]
noncomputable def m_is_point : FS :=
  (sSeq (sIf (tNot (tVal (eArgs pIsi (aCons (eVar 0) (aCons (eC (.ty "tuple")) aNil))))) (sRet (eArgs F_is_place (aCons (eVar 0) aNil))) sNext)
    (sRet (eAnd (eOp (pEq) (eArgs pLen (aCons (eVar 0) aNil)) (eC (.int 3))) (eAnd (eArgs F_is_name (aCons (eOp pIx (eVar 0) (eC (.int 0))) aNil)) (eAnd (eArgs F_is_place (aCons (eOp pIx (eVar 0) (eC (.int 1))) aNil)) (eArgs F_is_integer (aCons (eOp pIx (eVar 0) (eC (.int 2))) aNil)))))))
noncomputable def F_is_point : OpN := mkF 1 1 m_is_point
theorem sc_is_point : FnScope N_is_point ["value"] (defScope s_is_point) := ⟨rfl, rfl, rfl, by decide +kernel, rfl, by decide +kernel, by decide +kernel⟩
theorem h_is_point (c : Fs K mg) (h_is_integer : Has P₀ w K mg base 1 "is_integer" ["value"] F_is_integer) (h_is_name : Has P₀ w K mg base 1 "is_name" ["value"] F_is_name) (h_is_place : Has P₀ w K mg base 2 "is_place" ["value"] F_is_place) : Has P₀ w K mg base 3 "is_point" ["value"] F_is_point := by
  obtain ⟨fd, F⟩ := c.f_is_point
  have sc := sc_is_point
  refine ⟨fd, fn_t F sc fun cdv A outer s H E hr hgu => ?_, F.bindsN fun _ _ _ _ _ _ us hl => match us, hl with | [_], _ => rfl, F.kp, c.g_is_point⟩
  exact (q_scons (q_sif (q_tnot (q_tval (q_blt p_isi (by rfl) c.n_isinstance (by rfl) (q_cons (q_var (i := 0)) (q_cons (q_ty (by rfl) c.n_tuple (by rfl)) q_nil))))) (q_sone (q_ret (q_hcall h_is_place (by decide) hr hgu (by rfl) (takes_of rfl rfl rfl rfl) (q_cons (q_var (i := 0)) q_nil)))) q_snil)
    (q_sone (q_ret (q_and (q_cmp (p_eq (ru hr)) (q_blt p_len (by rfl) c.n_len (by rfl) (q_cons (q_var (i := 0)) q_nil)) q_int) (q_and (q_hcall h_is_name (by decide) hr hgu (by rfl) (takes_of rfl rfl rfl rfl) (q_cons (q_ix (ru hr) (q_var (i := 0)) q_int) q_nil)) (q_and (q_hcall h_is_place (by decide) hr hgu (by rfl) (takes_of rfl rfl rfl rfl) (q_cons (q_ix (ru hr) (q_var (i := 0)) q_int) q_nil)) (q_one (q_hcall h_is_integer (by decide) hr hgu (by rfl) (takes_of rfl rfl rfl rfl) (q_cons (q_ix (ru hr) (q_var (i := 0)) q_int) q_nil)))))))))
abbrev N_ring_of : List Str := ["differences", "steps", "has_ring", "point"]
noncomputable def m_ring_of : FS :=
  (sSeq (sAsg (eArgs F_settled (aCons (eVar 0) (aCons (eDc (iOver (eArgs F_points_of (aCons (eVar 0) aNil))) (gName 3) tYesF (eVar 3) (eC (.int 0)) [3]) aNil))) (gTup [(gName 1), (gName 2)]))
    (sRet (eIf (tVal (eVar 2)) (eArgs F_ring_in (aCons (eVar 0) (aCons (eVar 1) aNil))) (eC .non))))
noncomputable def F_ring_of : OpN := mkF 1 4 m_ring_of
theorem sc_ring_of : FnScope N_ring_of ["differences"] (defScope s_ring_of) := ⟨rfl, rfl, rfl, by decide +kernel, rfl, by decide +kernel, by decide +kernel⟩
theorem h_ring_of (c : Fs K mg) (h_points_of : Has P₀ w K mg base 1 "points_of" ["differences"] F_points_of) (h_ring_in : Has P₀ w K mg base 1 "ring_in" ["differences", "steps"] F_ring_in) (h_settled : Has P₀ w K mg base 2 "settled" ["differences", "numbers"] F_settled) : Has P₀ w K mg base 3 "ring_of" ["differences"] F_ring_of := by
  obtain ⟨fd, F⟩ := c.f_ring_of
  have sc := sc_ring_of
  refine ⟨fd, fn_t F sc fun cdv A outer s H E hr hgu => ?_, F.bindsN fun _ _ _ _ _ _ us hl => match us, hl with | [_], _ => rfl, F.kp, c.g_ring_of⟩
  exact (q_scons (q_asg (q_hcall h_settled (by decide) hr hgu (by rfl) (takes_of rfl rfl rfl rfl) (q_cons (q_var (i := 0)) (q_cons (q_dc (ru hr) (own := [("point", 3)]) rfl sc.nd (q_over (q_hcall h_points_of (by decide) hr hgu (by rfl) (takes_of rfl rfl rfl rfl) (q_cons (q_var (i := 0)) q_nil))) (blkOk_by (N := N_ring_of) (sc := defScope s_ring_of) (by decide +kernel)) tg_name (by decide) (fun _ _ _ _ _ => (pg_name (i := 3) sc.nd rfl (by first | exact Or.inl rfl | exact Or.inr rfl))) (fun _ _ _ _ _ => q_ifs0) (fun _ _ _ _ _ => (q_var (i := 3))) (fun _ _ _ _ _ => q_int)) q_nil))) (pg_tup rfl (pgs_cons (pg_name (i := 1) sc.nd rfl (by first | exact Or.inl rfl | exact Or.inr rfl)) (pgs_cons (pg_name (i := 2) sc.nd rfl (by first | exact Or.inl rfl | exact Or.inr rfl)) pgs_nil))) (tg_tup (.cons tg_name (.cons tg_name .nil)) rfl))
    (q_sone (q_ret (q_if (q_tval (q_var (i := 2))) (q_hcall h_ring_in (by decide) hr hgu (by rfl) (takes_of rfl rfl rfl rfl) (q_cons (q_var (i := 0)) (q_cons (q_var (i := 1)) q_nil))) q_non))))
abbrev N_fitted : List Str := ["differences", "points", "numbers", "point"]
noncomputable def m_fitted : FS :=
  (sSeq (sAsg (eArgs F_points_of (aCons (eVar 0) aNil)) (gName 1))
    (sSeq (sAsg (eDc (iOver (eVar 1)) (gName 3) tYesF (eVar 3) (eC (.int 0)) [3]) (gName 2))
    (sSeq (sIf (tVal (eOp pIx (eArgs F_settled (aCons (eVar 0) (aCons (eVar 2) aNil))) (eC (.int 1)))) (sRet (eC .non)) sNext)
    (sRet (eDc (iOver (eVar 1)) (gName 3) tYesF (eVar 3) (eOp pSub (eOp pIx (eVar 2) (eVar 3)) (eOp pIx (eVar 2) (eC (.str "")))) [3])))))
noncomputable def F_fitted : OpN := mkF 1 4 m_fitted
theorem sc_fitted : FnScope N_fitted ["differences"] (defScope s_fitted) := ⟨rfl, rfl, rfl, by decide +kernel, rfl, by decide +kernel, by decide +kernel⟩
theorem h_fitted (c : Fs K mg) (h_points_of : Has P₀ w K mg base 1 "points_of" ["differences"] F_points_of) (h_settled : Has P₀ w K mg base 2 "settled" ["differences", "numbers"] F_settled) : Has P₀ w K mg base 3 "fitted" ["differences"] F_fitted := by
  obtain ⟨fd, F⟩ := c.f_fitted
  have sc := sc_fitted
  refine ⟨fd, fn_t F sc fun cdv A outer s H E hr hgu => ?_, F.bindsN fun _ _ _ _ _ _ us hl => match us, hl with | [_], _ => rfl, F.kp, c.g_fitted⟩
  exact (q_scons (q_set (i := 1) (q_hcall h_points_of (by decide) hr hgu (by rfl) (takes_of rfl rfl rfl rfl) (q_cons (q_var (i := 0)) q_nil)) sc.nd)
    (q_scons (q_set (i := 2) (q_dc (ru hr) (own := [("point", 3)]) rfl sc.nd (q_over (q_var (i := 1))) (blkOk_by (N := N_fitted) (sc := defScope s_fitted) (by decide +kernel)) tg_name (by decide) (fun _ _ _ _ _ => (pg_name (i := 3) sc.nd rfl (by first | exact Or.inl rfl | exact Or.inr rfl))) (fun _ _ _ _ _ => q_ifs0) (fun _ _ _ _ _ => (q_var (i := 3))) (fun _ _ _ _ _ => q_int)) sc.nd)
    (q_scons (q_sif (q_tval (q_ix (ru hr) (q_hcall h_settled (by decide) hr hgu (by rfl) (takes_of rfl rfl rfl rfl) (q_cons (q_var (i := 0)) (q_cons (q_var (i := 2)) q_nil))) q_int)) (q_sone (q_ret q_non)) q_snil)
    (q_sone (q_ret (q_dc (ru hr) (own := [("point", 3)]) rfl sc.nd (q_over (q_var (i := 1))) (blkOk_by (N := N_fitted) (sc := defScope s_fitted) (by decide +kernel)) tg_name (by decide) (fun _ _ _ _ _ => (pg_name (i := 3) sc.nd rfl (by first | exact Or.inl rfl | exact Or.inr rfl))) (fun _ _ _ _ _ => q_ifs0) (fun _ _ _ _ _ => (q_var (i := 3))) (fun _ _ _ _ _ => (q_bin p_sub (q_ix (ru hr) (q_var (i := 2)) (q_var (i := 3))) (q_ix (ru hr) (q_var (i := 2)) (q_gstr (by rfl) c.c_ZERO.choose_spec))))))))))
abbrev N_bound_of : List Str := ["differences", "one", "other", "numbers"]
noncomputable def m_bound_of : FS :=
  (sSeq (sAsg (eDict (pCons (eVar 2) (eC (.int 0)) pNil)) (gName 3))
    (sSeq (sExpr (eArgs F_settled (aCons (eVar 0) (aCons (eVar 3) aNil))))
    (sRet (eGet1 (eVar 3) (eVar 1)))))
noncomputable def F_bound_of : OpN := mkF 3 4 m_bound_of
theorem sc_bound_of : FnScope N_bound_of ["differences", "one", "other"] (defScope s_bound_of) := ⟨rfl, rfl, rfl, by decide +kernel, rfl, by decide +kernel, by decide +kernel⟩
theorem h_bound_of (c : Fs K mg) (h_settled : Has P₀ w K mg base 2 "settled" ["differences", "numbers"] F_settled) : Has P₀ w K mg base 3 "bound_of" ["differences", "one", "other"] F_bound_of := by
  obtain ⟨fd, F⟩ := c.f_bound_of
  have sc := sc_bound_of
  refine ⟨fd, fn_t F sc fun cdv A outer s H E hr hgu => ?_, F.bindsN fun _ _ _ _ _ _ us hl => match us, hl with | [_, _, _], _ => rfl, F.kp, c.g_bound_of⟩
  exact (q_scons (q_set (i := 3) (q_dict (ru hr) (q_pcons (q_var (i := 2)) q_int q_pnil) rfl rfl (by simp) (by decide)) sc.nd)
    (q_scons (q_expr (q_hcall h_settled (by decide) hr hgu (by rfl) (takes_of rfl rfl rfl rfl) (q_cons (q_var (i := 0)) (q_cons (q_var (i := 3)) q_nil))))
    (q_sone (q_ret (q_get1 (ru hr) (q_var (i := 3)) (q_var (i := 1)) ⟨by rfl, by rfl, by rfl, by rfl⟩)))))
abbrev N_law_rows : List Str := ["_law_dice_here", "_law_points_here", "_law_found", "_law_times", "_law_turn", "_law_more"]
noncomputable def m_law_rows : FS :=
  (sSeq (sPar3 1 2 3 (eSl (eArgs F_law_points aNil) oNone (oSome (eArgs F_law_pick (aCons (eVar 0) (aCons (eArgs gList (aCons (eC (.int 3)) (aCons (eC (.int 4)) (aCons (eC (.int 8)) (aCons (eC (.int 11)) aNil))))) aNil))))) (eArgs gList aNil) (eArgs F_law_pick (aCons (eVar 0) (aCons (eArgs gList (aCons (eC (.int 1)) (aCons (eC (.int 1)) (aCons (eC (.int 1)) (aCons (eOp pPow (eC (.int 10)) (eC (.int 57))) aNil))))) aNil))))
    (sSeq (sFor (iArgs rng1 (aCons (eArgs F_law_roll (aCons (eVar 0) (aCons (eC (.int 9)) aNil))) aNil)) (gName 4) (sSeq (sAsg (eArgs F_law_pick (aCons (eVar 0) (aCons (eArgs gList (aCons (eC (.int 0)) (aCons (eC (.int 0)) (aCons (eC (.int 1)) (aCons (eUn pNeg (eC (.int 1))) (aCons (eC (.int 2)) (aCons (eUn pNeg (eC (.int 2))) (aCons (eC (.int 5)) (aCons (eUn pNeg (eC (.int 7))) aNil))))))))) aNil))) (gName 5))
    (sExpr (eApp (eVar 2) (eArgs gTuple (aCons (eArgs F_law_pick (aCons (eVar 0) (aCons (eVar 1) aNil))) (aCons (eArgs F_law_pick (aCons (eVar 0) (aCons (eVar 1) aNil))) (aCons (eOp pMul (eVar 5) (eVar 3)) aNil))))))))
    (sRet (eArgs pTupleOf (aCons (eVar 2) aNil)))))
noncomputable def F_law_rows : OpN := mkF 1 6 m_law_rows
theorem sc_law_rows : FnScope N_law_rows ["_law_dice_here"] (defScope s_law_rows) := ⟨rfl, rfl, rfl, by decide +kernel, rfl, by decide +kernel, by decide +kernel⟩
theorem h_law_rows (c : Fs K mg) (h_law_pick : Has P₀ w K mg base 2 "_law_pick" ["_law_dice_here", "_law_items"] F_law_pick) (h_law_points : Has P₀ w K mg base 1 "_law_points" [] F_law_points) (h_law_roll : Has P₀ w K mg base 1 "_law_roll" ["_law_dice_here", "_law_total"] F_law_roll) : Has P₀ w K mg base 3 "_law_rows" ["_law_dice_here"] F_law_rows := by
  obtain ⟨fd, F⟩ := c.f_law_rows
  have sc := sc_law_rows
  refine ⟨fd, fn_t F sc fun cdv A outer s H E hr hgu => ?_, F.bindsN fun _ _ _ _ _ _ us hl => match us, hl with | [_], _ => rfl, F.kp, c.g_law_rows⟩
  exact (q_scons (q_par3 (i := 1) (j := 2) (l := 3) (q_slice (q_hcall0 h_law_points (by decide) hr hgu (by rfl) (takes_of rfl rfl rfl rfl)) q_onone (q_osome (q_hcall h_law_pick (by decide) hr hgu (by rfl) (takes_of rfl rfl rfl rfl) (q_cons (q_var (i := 0)) (q_cons (q_list (q_cons q_int (q_cons q_int (q_cons q_int (q_cons q_int q_nil))))) q_nil))))) (q_list q_nil) (q_hcall h_law_pick (by decide) hr hgu (by rfl) (takes_of rfl rfl rfl rfl) (q_cons (q_var (i := 0)) (q_cons (q_list (q_cons q_int (q_cons q_int (q_cons q_int (q_cons (q_bin p_pow q_int q_int) q_nil))))) q_nil))) rfl sc.nd rfl rfl rfl (by decide) (by decide) (by decide) rfl rfl rfl (by rfl))
    (q_scons (q_for (passes_of rfl) rfl (q_range1 (by rfl) c.n_range (q_cons (q_hcall h_law_roll (by decide) hr hgu (by rfl) (takes_of rfl rfl rfl rfl) (q_cons (q_var (i := 0)) (q_cons q_int q_nil))) q_nil)) (pg_name (i := 4) sc.nd rfl (by first | exact Or.inl rfl | exact Or.inr rfl)) tg_name (q_scons (q_set (i := 5) (q_hcall h_law_pick (by decide) hr hgu (by rfl) (takes_of rfl rfl rfl rfl) (q_cons (q_var (i := 0)) (q_cons (q_list (q_cons q_int (q_cons q_int (q_cons q_int (q_cons (q_un p_neg q_int) (q_cons q_int (q_cons (q_un p_neg q_int) (q_cons q_int (q_cons (q_un p_neg q_int) q_nil))))))))) q_nil))) sc.nd)
    (q_sone (q_expr (q_append (q_var (i := 2)) (q_tuple (q_cons (q_hcall h_law_pick (by decide) hr hgu (by rfl) (takes_of rfl rfl rfl rfl) (q_cons (q_var (i := 0)) (q_cons (q_var (i := 1)) q_nil))) (q_cons (q_hcall h_law_pick (by decide) hr hgu (by rfl) (takes_of rfl rfl rfl rfl) (q_cons (q_var (i := 0)) (q_cons (q_var (i := 1)) q_nil))) (q_cons (q_bin p_mul (q_var (i := 5)) (q_var (i := 3))) q_nil)))))))))
    (q_sone (q_ret (q_btyp p_tupleOf (by rfl) c.n_tuple (by rfl) (q_cons (q_var (i := 2)) q_nil))))))
abbrev N_is_difference : List Str := ["value"]
noncomputable def m_is_difference : FS :=
  (sSeq (sIf (tOr (tNot (tVal (eArgs pIsi (aCons (eVar 0) (aCons (eC (.ty "tuple")) aNil))))) (tVal (eOp (pNe) (eArgs pLen (aCons (eVar 0) aNil)) (eC (.int 3))))) (sRet (eC (.bl false))) sNext)
    (sRet (eAnd (eArgs F_is_point (aCons (eOp pIx (eVar 0) (eC (.int 0))) aNil)) (eAnd (eArgs F_is_point (aCons (eOp pIx (eVar 0) (eC (.int 1))) aNil)) (eArgs F_is_integer (aCons (eOp pIx (eVar 0) (eC (.int 2))) aNil))))))
noncomputable def F_is_difference : OpN := mkF 1 1 m_is_difference
theorem sc_is_difference : FnScope N_is_difference ["value"] (defScope s_is_difference) := ⟨rfl, rfl, rfl, by decide +kernel, rfl, by decide +kernel, by decide +kernel⟩
theorem h_is_difference (c : Fs K mg) (h_is_integer : Has P₀ w K mg base 1 "is_integer" ["value"] F_is_integer) (h_is_point : Has P₀ w K mg base 3 "is_point" ["value"] F_is_point) : Has P₀ w K mg base 4 "is_difference" ["value"] F_is_difference := by
  obtain ⟨fd, F⟩ := c.f_is_difference
  have sc := sc_is_difference
  refine ⟨fd, fn_t F sc fun cdv A outer s H E hr hgu => ?_, F.bindsN fun _ _ _ _ _ _ us hl => match us, hl with | [_], _ => rfl, F.kp, c.g_is_difference⟩
  exact (q_scons (q_sif ((q_wor (q_tnot (q_tval (q_blt p_isi (by rfl) c.n_isinstance (by rfl) (q_cons (q_var (i := 0)) (q_cons (q_ty (by rfl) c.n_tuple (by rfl)) q_nil))))) (q_wor1 (q_tcmp (p_ne (ru hr)) (q_blt p_len (by rfl) c.n_len (by rfl) (q_cons (q_var (i := 0)) q_nil)) q_int)))).pt (q_sone (q_ret q_bl)) q_snil)
    (q_sone (q_ret (q_and (q_hcall h_is_point (by decide) hr hgu (by rfl) (takes_of rfl rfl rfl rfl) (q_cons (q_ix (ru hr) (q_var (i := 0)) q_int) q_nil)) (q_and (q_hcall h_is_point (by decide) hr hgu (by rfl) (takes_of rfl rfl rfl rfl) (q_cons (q_ix (ru hr) (q_var (i := 0)) q_int) q_nil)) (q_one (q_hcall h_is_integer (by decide) hr hgu (by rfl) (takes_of rfl rfl rfl rfl) (q_cons (q_ix (ru hr) (q_var (i := 0)) q_int) q_nil))))))))
abbrev N_require_point : List Str := ["value"]
noncomputable def m_require_point : FS :=
  (sIf (tNot (tVal (eArgs F_is_point (aCons (eVar 0) aNil)))) (sRaise "InvalidTerm") sNext)
noncomputable def F_require_point : OpN := mkF 1 1 m_require_point
theorem sc_require_point : FnScope N_require_point ["value"] (defScope s_require_point) := ⟨rfl, rfl, rfl, by decide +kernel, rfl, by decide +kernel, by decide +kernel⟩
theorem h_require_point (c : Fs K mg) (h_is_point : Has P₀ w K mg base 3 "is_point" ["value"] F_is_point) : Has P₀ w K mg base 4 "require_point" ["value"] F_require_point := by
  obtain ⟨fd, F⟩ := c.f_require_point
  have sc := sc_require_point
  refine ⟨fd, fn_t F sc fun cdv A outer s H E hr hgu => ?_, F.bindsN fun _ _ _ _ _ _ us hl => match us, hl with | [_], _ => rfl, F.kp, c.g_require_point⟩
  exact (q_sone (q_sif (q_tnot (q_tval (q_hcall h_is_point (by decide) hr hgu (by rfl) (takes_of rfl rfl rfl rfl) (q_cons (q_var (i := 0)) q_nil)))) (q_sone (q_raise rfl (takes_of rfl rfl rfl rfl) c.x_InvalidTerm c.gx_InvalidTerm (by rfl))) q_snil))
abbrev N_require_differences : List Str := ["value", "row"]
noncomputable def m_require_differences : FS :=
  (sIf (tOr (tNot (tVal (eArgs pIsi (aCons (eVar 0) (aCons (eC (.ty "tuple")) aNil))))) (tOr (tVal (eOp (pGt) (eArgs pLen (aCons (eVar 0) aNil)) (eC (.int 60)))) (tNot (tVal (eArgs pAll (aCons (eLc (iOver (eVar 0)) (gName 1) tYesF (eArgs F_is_difference (aCons (eVar 1) aNil)) [1]) aNil)))))) (sRaise "InvalidOperation") sNext)
noncomputable def F_require_differences : OpN := mkF 1 2 m_require_differences
theorem sc_require_differences : FnScope N_require_differences ["value"] (defScope s_require_differences) := ⟨rfl, rfl, rfl, by decide +kernel, rfl, by decide +kernel, by decide +kernel⟩
theorem h_require_differences (c : Fs K mg) (h_is_difference : Has P₀ w K mg base 4 "is_difference" ["value"] F_is_difference) : Has P₀ w K mg base 5 "require_differences" ["value"] F_require_differences := by
  obtain ⟨fd, F⟩ := c.f_require_differences
  have sc := sc_require_differences
  refine ⟨fd, fn_t F sc fun cdv A outer s H E hr hgu => ?_, F.bindsN fun _ _ _ _ _ _ us hl => match us, hl with | [_], _ => rfl, F.kp, c.g_require_differences⟩
  exact (q_sone (q_sif ((q_wor (q_tnot (q_tval (q_blt p_isi (by rfl) c.n_isinstance (by rfl) (q_cons (q_var (i := 0)) (q_cons (q_ty (by rfl) c.n_tuple (by rfl)) q_nil))))) (q_wor (q_tcmp p_gt (q_blt p_len (by rfl) c.n_len (by rfl) (q_cons (q_var (i := 0)) q_nil)) (q_gint (by rfl) c.c_MAX_DIFFERENCES.choose_spec)) (q_wor1 (q_tnot (q_tval (q_blt (p_all rfl) (by rfl) c.n_all (by rfl) (q_cons (q_lc (own := [("row", 1)]) rfl sc.nd (q_over (q_var (i := 0))) (blkOk_by (N := N_require_differences) (sc := defScope s_require_differences) (by decide +kernel)) tg_name (by decide) (fun _ _ _ _ _ => (pg_name (i := 1) sc.nd rfl (by first | exact Or.inl rfl | exact Or.inr rfl))) (fun _ _ _ _ _ => q_ifs0) (fun _ _ _ _ _ => (q_hcall h_is_difference (by decide) hr hgu (by rfl) takes0 (q_cons (q_var (i := 1)) q_nil)))) q_nil)))))))).pt (q_sone (q_raise rfl (takes_of rfl rfl rfl rfl) c.x_InvalidOperation c.gx_InvalidOperation (by rfl))) q_snil))
abbrev N_fitting : List Str := ["differences"]
noncomputable def m_fitting : FS :=
  (sSeq (sExpr (eArgs F_require_differences (aCons (eVar 0) aNil)))
    (sRet (eArgs F_fitted (aCons (eVar 0) aNil))))
noncomputable def F_fitting : OpN := mkF 1 1 m_fitting
theorem sc_fitting : FnScope N_fitting ["differences"] (defScope s_fitting) := ⟨rfl, rfl, rfl, by decide +kernel, rfl, by decide +kernel, by decide +kernel⟩
theorem h_fitting (c : Fs K mg) (h_fitted : Has P₀ w K mg base 3 "fitted" ["differences"] F_fitted) (h_require_differences : Has P₀ w K mg base 5 "require_differences" ["value"] F_require_differences) : Has P₀ w K mg base 6 "fitting" ["differences"] F_fitting := by
  obtain ⟨fd, F⟩ := c.f_fitting
  have sc := sc_fitting
  refine ⟨fd, fn_t F sc fun cdv A outer s H E hr hgu => ?_, F.bindsN fun _ _ _ _ _ _ us hl => match us, hl with | [_], _ => rfl, F.kp, c.g_fitting⟩
  exact (q_scons (q_expr (q_hcall h_require_differences (by decide) hr hgu (by rfl) (takes_of rfl rfl rfl rfl) (q_cons (q_var (i := 0)) q_nil)))
    (q_sone (q_ret (q_hcall h_fitted (by decide) hr hgu (by rfl) (takes_of rfl rfl rfl rfl) (q_cons (q_var (i := 0)) q_nil)))))
abbrev N_is_fitting : List Str := ["differences", "value", "points", "point", "one", "other", "number"]
noncomputable def m_is_fitting : FS :=
  (sSeq (sExpr (eArgs F_require_differences (aCons (eVar 0) aNil)))
    (sSeq (sAsg (eArgs F_points_of (aCons (eVar 0) aNil)) (gName 2))
    (sSeq (sIf (tOr (tNot (tVal (eArgs pIsi (aCons (eVar 1) (aCons (eC (.ty "dict")) aNil))))) (tOr (tVal (eOp (pNe) (eArgs pLen (aCons (eVar 1) aNil)) (eArgs pLen (aCons (eVar 2) aNil)))) (tNot (tVal (eArgs pAll (aCons (eLc (iOver (eVar 2)) (gName 3) tYesF (eOp (pIn false) (eVar 3) (eVar 1)) [3]) aNil)))))) (sRet (eC (.bl false))) sNext)
    (sSeq (sIf (tNot (tVal (eArgs pAll (aCons (eLc (iOver (eVar 1)) (gName 3) tYesF (eArgs F_is_point (aCons (eVar 3) aNil)) [3]) aNil)))) (sRet (eC (.bl false))) sNext)
    (sSeq (sIf (tOr (tNot (tVal (eArgs pAll (aCons (eLc (iOver (eVar 2)) (gName 3) tYesF (eArgs F_is_wide (aCons (eOp pIx (eVar 1) (eVar 3)) aNil)) [3]) aNil)))) (tVal (eOp (pNe) (eOp pIx (eVar 1) (eC (.str ""))) (eC (.int 0))))) (sRet (eC (.bl false))) sNext)
    (sRet (eArgs pAll (aCons (eLc (iOver (eVar 0)) (gTup [(gName 4), (gName 5), (gName 6)]) tYesF (eOp (pLe) (eOp pSub (eOp pIx (eVar 1) (eVar 4)) (eOp pIx (eVar 1) (eVar 5))) (eVar 6)) [4, 5, 6]) aNil))))))))
noncomputable def F_is_fitting : OpN := mkF 2 7 m_is_fitting
theorem sc_is_fitting : FnScope N_is_fitting ["differences", "value"] (defScope s_is_fitting) := ⟨rfl, rfl, rfl, by decide +kernel, rfl, by decide +kernel, by decide +kernel⟩
theorem h_is_fitting (c : Fs K mg) (h_is_point : Has P₀ w K mg base 3 "is_point" ["value"] F_is_point) (h_is_wide : Has P₀ w K mg base 1 "is_wide" ["value"] F_is_wide) (h_points_of : Has P₀ w K mg base 1 "points_of" ["differences"] F_points_of) (h_require_differences : Has P₀ w K mg base 5 "require_differences" ["value"] F_require_differences) : Has P₀ w K mg base 6 "is_fitting" ["differences", "value"] F_is_fitting := by
  obtain ⟨fd, F⟩ := c.f_is_fitting
  have sc := sc_is_fitting
  refine ⟨fd, fn_t F sc fun cdv A outer s H E hr hgu => ?_, F.bindsN fun _ _ _ _ _ _ us hl => match us, hl with | [_, _], _ => rfl, F.kp, c.g_is_fitting⟩
  exact (q_scons (q_expr (q_hcall h_require_differences (by decide) hr hgu (by rfl) (takes_of rfl rfl rfl rfl) (q_cons (q_var (i := 0)) q_nil)))
    (q_scons (q_set (i := 2) (q_hcall h_points_of (by decide) hr hgu (by rfl) (takes_of rfl rfl rfl rfl) (q_cons (q_var (i := 0)) q_nil)) sc.nd)
    (q_scons (q_sif ((q_wor (q_tnot (q_tval (q_blt p_isi (by rfl) c.n_isinstance (by rfl) (q_cons (q_var (i := 1)) (q_cons (q_ty (by rfl) c.n_dict (by rfl)) q_nil))))) (q_wor (q_tcmp (p_ne (ru hr)) (q_blt p_len (by rfl) c.n_len (by rfl) (q_cons (q_var (i := 1)) q_nil)) (q_blt p_len (by rfl) c.n_len (by rfl) (q_cons (q_var (i := 2)) q_nil))) (q_wor1 (q_tnot (q_tval (q_blt (p_all rfl) (by rfl) c.n_all (by rfl) (q_cons (q_lc (own := [("point", 3)]) rfl sc.nd (q_over (q_var (i := 2))) (blkOk_by (N := N_is_fitting) (sc := defScope s_is_fitting) (by decide +kernel)) tg_name (by decide) (fun _ _ _ _ _ => (pg_name (i := 3) sc.nd rfl (by first | exact Or.inl rfl | exact Or.inr rfl))) (fun _ _ _ _ _ => q_ifs0) (fun _ _ _ _ _ => (q_cmp (p_in (ru hr)) (q_var (i := 3)) (q_var (i := 1))))) q_nil)))))))).pt (q_sone (q_ret q_bl)) q_snil)
    (q_scons (q_sif (q_tnot (q_tval (q_blt (p_all rfl) (by rfl) c.n_all (by rfl) (q_cons (q_lc (own := [("point", 3)]) rfl sc.nd (q_over (q_var (i := 1))) (blkOk_by (N := N_is_fitting) (sc := defScope s_is_fitting) (by decide +kernel)) tg_name (by decide) (fun _ _ _ _ _ => (pg_name (i := 3) sc.nd rfl (by first | exact Or.inl rfl | exact Or.inr rfl))) (fun _ _ _ _ _ => q_ifs0) (fun _ _ _ _ _ => (q_hcall h_is_point (by decide) hr hgu (by rfl) takes0 (q_cons (q_var (i := 3)) q_nil)))) q_nil)))) (q_sone (q_ret q_bl)) q_snil)
    (q_scons (q_sif ((q_wor (q_tnot (q_tval (q_blt (p_all rfl) (by rfl) c.n_all (by rfl) (q_cons (q_lc (own := [("point", 3)]) rfl sc.nd (q_over (q_var (i := 2))) (blkOk_by (N := N_is_fitting) (sc := defScope s_is_fitting) (by decide +kernel)) tg_name (by decide) (fun _ _ _ _ _ => (pg_name (i := 3) sc.nd rfl (by first | exact Or.inl rfl | exact Or.inr rfl))) (fun _ _ _ _ _ => q_ifs0) (fun _ _ _ _ _ => (q_hcall h_is_wide (by decide) hr hgu (by rfl) takes0 (q_cons (q_ix (ru hr) (q_var (i := 1)) (q_var (i := 3))) q_nil)))) q_nil)))) (q_wor1 (q_tcmp (p_ne (ru hr)) (q_ix (ru hr) (q_var (i := 1)) (q_gstr (by rfl) c.c_ZERO.choose_spec)) q_int)))).pt (q_sone (q_ret q_bl)) q_snil)
    (q_sone (q_ret (q_blt (p_all rfl) (by rfl) c.n_all (by rfl) (q_cons (q_lc (own := [("one", 4), ("other", 5), ("number", 6)]) rfl sc.nd (q_over (q_var (i := 0))) (blkOk_by (N := N_is_fitting) (sc := defScope s_is_fitting) (by decide +kernel)) (tg_tup (.cons tg_name (.cons tg_name (.cons tg_name .nil))) rfl) (by decide) (fun _ _ _ _ _ => (pg_tup rfl (pgs_cons (pg_name (i := 4) sc.nd rfl (by first | exact Or.inl rfl | exact Or.inr rfl)) (pgs_cons (pg_name (i := 5) sc.nd rfl (by first | exact Or.inl rfl | exact Or.inr rfl)) (pgs_cons (pg_name (i := 6) sc.nd rfl (by first | exact Or.inl rfl | exact Or.inr rfl)) pgs_nil))))) (fun _ _ _ _ _ => q_ifs0) (fun _ _ _ _ _ => (q_cmp p_le (q_bin p_sub (q_ix (ru hr) (q_var (i := 1)) (q_var (i := 4))) (q_ix (ru hr) (q_var (i := 1)) (q_var (i := 5)))) (q_var (i := 6))))) q_nil)))))))))
abbrev N_ring : List Str := ["differences"]
noncomputable def m_ring : FS :=
  (sSeq (sExpr (eArgs F_require_differences (aCons (eVar 0) aNil)))
    (sRet (eArgs F_ring_of (aCons (eVar 0) aNil))))
noncomputable def F_ring : OpN := mkF 1 1 m_ring
theorem sc_ring : FnScope N_ring ["differences"] (defScope s_ring) := ⟨rfl, rfl, rfl, by decide +kernel, rfl, by decide +kernel, by decide +kernel⟩
theorem h_ring (c : Fs K mg) (h_require_differences : Has P₀ w K mg base 5 "require_differences" ["value"] F_require_differences) (h_ring_of : Has P₀ w K mg base 3 "ring_of" ["differences"] F_ring_of) : Has P₀ w K mg base 6 "ring" ["differences"] F_ring := by
  obtain ⟨fd, F⟩ := c.f_ring
  have sc := sc_ring
  refine ⟨fd, fn_t F sc fun cdv A outer s H E hr hgu => ?_, F.bindsN fun _ _ _ _ _ _ us hl => match us, hl with | [_], _ => rfl, F.kp, c.g_ring⟩
  exact (q_scons (q_expr (q_hcall h_require_differences (by decide) hr hgu (by rfl) (takes_of rfl rfl rfl rfl) (q_cons (q_var (i := 0)) q_nil)))
    (q_sone (q_ret (q_hcall h_ring_of (by decide) hr hgu (by rfl) (takes_of rfl rfl rfl rfl) (q_cons (q_var (i := 0)) q_nil)))))
abbrev N_is_ring : List Str := ["differences", "value"]
noncomputable def m_is_ring : FS :=
  (sSeq (sExpr (eArgs F_require_differences (aCons (eVar 0) aNil)))
    (sRet (eArgs F_is_ring_of (aCons (eVar 0) (aCons (eVar 1) aNil)))))
noncomputable def F_is_ring : OpN := mkF 2 2 m_is_ring
theorem sc_is_ring : FnScope N_is_ring ["differences", "value"] (defScope s_is_ring) := ⟨rfl, rfl, rfl, by decide +kernel, rfl, by decide +kernel, by decide +kernel⟩
theorem h_is_ring (c : Fs K mg) (h_is_ring_of : Has P₀ w K mg base 2 "is_ring_of" ["differences", "value"] F_is_ring_of) (h_require_differences : Has P₀ w K mg base 5 "require_differences" ["value"] F_require_differences) : Has P₀ w K mg base 6 "is_ring" ["differences", "value"] F_is_ring := by
  obtain ⟨fd, F⟩ := c.f_is_ring
  have sc := sc_is_ring
  refine ⟨fd, fn_t F sc fun cdv A outer s H E hr hgu => ?_, F.bindsN fun _ _ _ _ _ _ us hl => match us, hl with | [_, _], _ => rfl, F.kp, c.g_is_ring⟩
  exact (q_scons (q_expr (q_hcall h_require_differences (by decide) hr hgu (by rfl) (takes_of rfl rfl rfl rfl) (q_cons (q_var (i := 0)) q_nil)))
    (q_sone (q_ret (q_hcall h_is_ring_of (by decide) hr hgu (by rfl) (takes_of rfl rfl rfl rfl) (q_cons (q_var (i := 0)) (q_cons (q_var (i := 1)) q_nil))))))
abbrev N_tightest : List Str := ["differences", "one", "other"]
noncomputable def m_tightest : FS :=
  (sSeq (sExpr (eArgs F_require_differences (aCons (eVar 0) aNil)))
    (sSeq (sExpr (eArgs F_require_point (aCons (eVar 1) aNil)))
    (sSeq (sExpr (eArgs F_require_point (aCons (eVar 2) aNil)))
    (sSeq (sIf (tVal (eOp (pIs false) (eArgs F_fitted (aCons (eVar 0) aNil)) (eC .non))) (sRaise "InvalidOperation") sNext)
    (sRet (eArgs F_bound_of (aCons (eVar 0) (aCons (eVar 1) (aCons (eVar 2) aNil)))))))))
noncomputable def F_tightest : OpN := mkF 3 3 m_tightest
theorem sc_tightest : FnScope N_tightest ["differences", "one", "other"] (defScope s_tightest) := ⟨rfl, rfl, rfl, by decide +kernel, rfl, by decide +kernel, by decide +kernel⟩
theorem h_tightest (c : Fs K mg) (h_bound_of : Has P₀ w K mg base 3 "bound_of" ["differences", "one", "other"] F_bound_of) (h_fitted : Has P₀ w K mg base 3 "fitted" ["differences"] F_fitted) (h_require_differences : Has P₀ w K mg base 5 "require_differences" ["value"] F_require_differences) (h_require_point : Has P₀ w K mg base 4 "require_point" ["value"] F_require_point) : Has P₀ w K mg base 6 "tightest" ["differences", "one", "other"] F_tightest := by
  obtain ⟨fd, F⟩ := c.f_tightest
  have sc := sc_tightest
  refine ⟨fd, fn_t F sc fun cdv A outer s H E hr hgu => ?_, F.bindsN fun _ _ _ _ _ _ us hl => match us, hl with | [_, _, _], _ => rfl, F.kp, c.g_tightest⟩
  exact (q_scons (q_expr (q_hcall h_require_differences (by decide) hr hgu (by rfl) (takes_of rfl rfl rfl rfl) (q_cons (q_var (i := 0)) q_nil)))
    (q_scons (q_expr (q_hcall h_require_point (by decide) hr hgu (by rfl) (takes_of rfl rfl rfl rfl) (q_cons (q_var (i := 1)) q_nil)))
    (q_scons (q_expr (q_hcall h_require_point (by decide) hr hgu (by rfl) (takes_of rfl rfl rfl rfl) (q_cons (q_var (i := 2)) q_nil)))
    (q_scons (q_sif (q_tcmp p_is (q_hcall h_fitted (by decide) hr hgu (by rfl) (takes_of rfl rfl rfl rfl) (q_cons (q_var (i := 0)) q_nil)) q_non) (q_sone (q_raise rfl (takes_of rfl rfl rfl rfl) c.x_InvalidOperation c.gx_InvalidOperation (by rfl))) q_snil)
    (q_sone (q_ret (q_hcall h_bound_of (by decide) hr hgu (by rfl) (takes_of rfl rfl rfl rfl) (q_cons (q_var (i := 0)) (q_cons (q_var (i := 1)) (q_cons (q_var (i := 2)) q_nil))))))))))
abbrev N_law_bound : List Str := ["_law_rows_here", "_law_one", "_law_other"]
noncomputable def m_law_bound : FS :=
  (sTry (sRet (eArgs F_tightest (aCons (eVar 0) (aCons (eVar 1) (aCons (eVar 2) aNil))))) m_x_InvalidOperation (sRet (eC (.str "operation"))))
noncomputable def F_law_bound : OpN := mkF 3 3 m_law_bound
theorem sc_law_bound : FnScope N_law_bound ["_law_rows_here", "_law_one", "_law_other"] (defScope s_law_bound) := ⟨rfl, rfl, rfl, by decide +kernel, rfl, by decide +kernel, by decide +kernel⟩
theorem h_law_bound (c : Fs K mg) (h_tightest : Has P₀ w K mg base 6 "tightest" ["differences", "one", "other"] F_tightest) : Has P₀ w K mg base 7 "_law_bound" ["_law_rows_here", "_law_one", "_law_other"] F_law_bound := by
  obtain ⟨fd, F⟩ := c.f_law_bound
  have sc := sc_law_bound
  refine ⟨fd, fn_t F sc fun cdv A outer s H E hr hgu => ?_, F.bindsN fun _ _ _ _ _ _ us hl => match us, hl with | [_, _, _], _ => rfl, F.kp, c.g_law_bound⟩
  exact (q_sone (q_try rfl rfl (by rfl) c.gx_InvalidOperation (takes_of rfl rfl rfl rfl) c.mx_InvalidOperation (fun W' pn xe tk _ => (q_sone (q_ret (q_hcall h_tightest (by decide) hr hgu (by rfl) tk (q_cons (q_var (i := 0)) (q_cons (q_var (i := 1)) (q_cons (q_var (i := 2)) q_nil))))))) (fun _ _ _ _ _ _ _ => (q_sone (q_ret q_str)))))
abbrev N_law_right : List Str := ["_law_dice_here", "_law_rows_here", "_law_bounds_here", "_law_points_here", "_law_fits", "_law_told", "_law_met", "_law_one", "_law_other", "_law_due", "_law_near", "_law_point", "_law_key", "_law_row"]
noncomputable def m_law_right : FS :=
  (sSeq (sAsg (eArgs F_law_rows (aCons (eVar 0) aNil)) (gName 1))
    (sSeq (sAsg (eArgs gTuple (aCons (eArgs F_law_bounds (aCons (eVar 1) aNil)) (aCons (eArgs F_law_ends (aCons (eVar 1) aNil)) aNil))) (gTup [(gName 2), (gName 3)]))
    (sSeq (sAsg (eOp (pEq) (eLc (iOver (eVar 3)) (gName 11) (tVal (eOp (pLt) (eOp pIx (eVar 2) (eArgs gTuple (aCons (eVar 11) (aCons (eVar 11) aNil)))) (eC (.int 0)))) (eVar 11) [11]) (eArgs gList aNil)) (gName 4))
    (sSeq (sAsg (eArgs gTuple (aCons (eArgs F_fitting (aCons (eVar 1) aNil)) (aCons (eArgs F_ring (aCons (eVar 1) aNil)) aNil))) (gTup [(gName 5), (gName 6)]))
    (sSeq (sIf (tOr (tVal (eOp (pEq) (eOp (pIs false) (eVar 5) (eC .non)) (eVar 4))) (tVal (eOp (pNe) (eOp (pIs false) (eVar 6) (eC .non)) (eVar 4)))) (sRet (eC (.bl false))) sNext)
    (sSeq (sPar 7 8 (eArgs F_law_pick (aCons (eVar 0) (aCons (eOp pAdd (eVar 3) (eArgs gList (aCons (eC (.str "far")) aNil))) aNil))) (eArgs F_law_pick (aCons (eVar 0) (aCons (eOp pAdd (eVar 3) (eArgs gList (aCons (eC (.str "far")) aNil))) aNil))))
    (sSeq (sAsg (eIf (tVal (eVar 4)) (eGet2 (eVar 2) (eArgs gTuple (aCons (eVar 7) (aCons (eVar 8) aNil))) (eIf (tVal (eOp (pEq) (eVar 7) (eVar 8))) (eC (.int 0)) (eC .non))) (eC (.str "operation"))) (gName 9))
    (sSeq (sIf (tVal (eOp (pNe) (eArgs F_law_bound (aCons (eVar 1) (aCons (eVar 7) (aCons (eVar 8) aNil)))) (eVar 9))) (sRet (eC (.bl false))) sNext)
    (sSeq (sIf (tNot (tVal (eVar 4))) (sRet (eAnd (eArgs F_law_is_chain (aCons (eVar 1) (aCons (eVar 6) aNil))) (eArgs F_is_ring (aCons (eVar 1) (aCons (eVar 6) aNil))))) sNext)
    (sSeq (sIf (tOr (tVal (eOp (pNe) (eArgs pSorted (aCons (eLc (iOver (eVar 5)) (gName 12) tYesF (eArgs pStr (aCons (eVar 12) aNil)) [12]) aNil)) (eArgs pSorted (aCons (eLc (iOver (eVar 3)) (gName 12) tYesF (eArgs pStr (aCons (eVar 12) aNil)) [12]) aNil)))) (tNot (tVal (eArgs F_law_is_order (aCons (eArgs pListOf (aCons (eVar 5) aNil)) aNil))))) (sRet (eC (.bl false))) sNext)
    (sSeq (sIf (tOr (tVal (eOp (pNe) (eOp pIx (eVar 5) (eC (.str ""))) (eC (.int 0)))) (tVal (eOp (pNe) (eLc (iOver (eVar 1)) (gName 13) (tVal (eOp (pGt) (eOp pSub (eOp pIx (eVar 5) (eOp pIx (eVar 13) (eC (.int 0)))) (eOp pIx (eVar 5) (eOp pIx (eVar 13) (eC (.int 1))))) (eOp pIx (eVar 13) (eC (.int 2))))) (eVar 13) [13]) (eArgs gList aNil)))) (sRet (eC (.bl false))) sNext)
    (sSeq (sIf (tOr (tVal (eOp (pIs false) (eVar 9) (eC .non))) (tOr (tVal (eOp (pEq) (eVar 7) (eC (.str "far")))) (tVal (eOp (pEq) (eVar 8) (eC (.str "far")))))) (sRet (eArgs F_is_fitting (aCons (eVar 1) (aCons (eVar 5) aNil)))) sNext)
    (sSeq (sAsg (eArgs F_fitting (aCons (eOp pAdd (eVar 1) (eArgs gTuple (aCons (eArgs gTuple (aCons (eVar 8) (aCons (eVar 7) (aCons (eOp pSub (eC (.int 0)) (eVar 9)) aNil)))) aNil))) aNil)) (gName 10))
    (sRet (eAnd (eArgs F_is_fitting (aCons (eVar 1) (aCons (eVar 5) aNil))) (eAnd (eOp (pIs true) (eVar 10) (eC .non)) (eOp (pIs false) (eArgs F_fitting (aCons (eOp pAdd (eVar 1) (eArgs gTuple (aCons (eArgs gTuple (aCons (eVar 8) (aCons (eVar 7) (aCons (eOp pSub (eUn pNeg (eC (.int 1))) (eVar 9)) aNil)))) aNil))) aNil)) (eC .non))))))))))))))))))
noncomputable def F_law_right : OpN := mkF 1 14 m_law_right
theorem sc_law_right : FnScope N_law_right ["_law_dice_here"] (defScope s_law_right) := ⟨rfl, rfl, rfl, by decide +kernel, rfl, by decide +kernel, by decide +kernel⟩
theorem h_law_right (c : Fs K mg) (h_law_bound : Has P₀ w K mg base 7 "_law_bound" ["_law_rows_here", "_law_one", "_law_other"] F_law_bound) (h_law_bounds : Has P₀ w K mg base 2 "_law_bounds" ["_law_rows_here"] F_law_bounds) (h_law_ends : Has P₀ w K mg base 1 "_law_ends" ["_law_rows_here"] F_law_ends) (h_law_is_chain : Has P₀ w K mg base 1 "_law_is_chain" ["_law_rows_here", "_law_indices"] F_law_is_chain) (h_law_is_order : Has P₀ w K mg base 1 "_law_is_order" ["_law_keys"] F_law_is_order) (h_law_pick : Has P₀ w K mg base 2 "_law_pick" ["_law_dice_here", "_law_items"] F_law_pick) (h_law_rows : Has P₀ w K mg base 3 "_law_rows" ["_law_dice_here"] F_law_rows) (h_fitting : Has P₀ w K mg base 6 "fitting" ["differences"] F_fitting) (h_is_fitting : Has P₀ w K mg base 6 "is_fitting" ["differences", "value"] F_is_fitting) (h_is_ring : Has P₀ w K mg base 6 "is_ring" ["differences", "value"] F_is_ring) (h_ring : Has P₀ w K mg base 6 "ring" ["differences"] F_ring) : Has P₀ w K mg base 8 "_law_right" ["_law_dice_here"] F_law_right := by
  obtain ⟨fd, F⟩ := c.f_law_right
  have sc := sc_law_right
  refine ⟨fd, fn_t F sc fun cdv A outer s H E hr hgu => ?_, F.bindsN fun _ _ _ _ _ _ us hl => match us, hl with | [_], _ => rfl, F.kp, c.g_law_right⟩
  exact (q_scons (q_set (i := 1) (q_hcall h_law_rows (by decide) hr hgu (by rfl) (takes_of rfl rfl rfl rfl) (q_cons (q_var (i := 0)) q_nil)) sc.nd)
    (q_scons (q_asg (q_tuple (q_cons (q_hcall h_law_bounds (by decide) hr hgu (by rfl) (takes_of rfl rfl rfl rfl) (q_cons (q_var (i := 1)) q_nil)) (q_cons (q_hcall h_law_ends (by decide) hr hgu (by rfl) (takes_of rfl rfl rfl rfl) (q_cons (q_var (i := 1)) q_nil)) q_nil))) (pg_tup rfl (pgs_cons (pg_name (i := 2) sc.nd rfl (by first | exact Or.inl rfl | exact Or.inr rfl)) (pgs_cons (pg_name (i := 3) sc.nd rfl (by first | exact Or.inl rfl | exact Or.inr rfl)) pgs_nil))) (tg_tup (.cons tg_name (.cons tg_name .nil)) rfl))
    (q_scons (q_set (i := 4) (q_cmp (p_eq (ru hr)) (q_lc (own := [("_law_point", 11)]) rfl sc.nd (q_over (q_var (i := 3))) (blkOk_by (N := N_law_right) (sc := defScope s_law_right) (by decide +kernel)) tg_name (by decide) (fun _ _ _ _ _ => (pg_name (i := 11) sc.nd rfl (by first | exact Or.inl rfl | exact Or.inr rfl))) (fun _ _ _ _ _ => (q_ifs1 (q_tcmp p_lt (q_ix (ru hr) (q_var (i := 2)) (q_tuple (q_cons (q_var (i := 11)) (q_cons (q_var (i := 11)) q_nil)))) q_int))) (fun _ _ _ _ _ => (q_var (i := 11)))) (q_list q_nil)) sc.nd)
    (q_scons (q_asg (q_tuple (q_cons (q_hcall h_fitting (by decide) hr hgu (by rfl) (takes_of rfl rfl rfl rfl) (q_cons (q_var (i := 1)) q_nil)) (q_cons (q_hcall h_ring (by decide) hr hgu (by rfl) (takes_of rfl rfl rfl rfl) (q_cons (q_var (i := 1)) q_nil)) q_nil))) (pg_tup rfl (pgs_cons (pg_name (i := 5) sc.nd rfl (by first | exact Or.inl rfl | exact Or.inr rfl)) (pgs_cons (pg_name (i := 6) sc.nd rfl (by first | exact Or.inl rfl | exact Or.inr rfl)) pgs_nil))) (tg_tup (.cons tg_name (.cons tg_name .nil)) rfl))
    (q_scons (q_sif ((q_wor (q_tcmp (p_eq (ru hr)) (q_cmp p_is (q_var (i := 5)) q_non) (q_var (i := 4))) (q_wor1 (q_tcmp (p_ne (ru hr)) (q_cmp p_is (q_var (i := 6)) q_non) (q_var (i := 4)))))).pt (q_sone (q_ret q_bl)) q_snil)
    (q_scons (q_par (i := 7) (j := 8) (q_hcall h_law_pick (by decide) hr hgu (by rfl) (takes_of rfl rfl rfl rfl) (q_cons (q_var (i := 0)) (q_cons (q_bin p_add (q_var (i := 3)) (q_list (q_cons q_str q_nil))) q_nil))) (q_hcall h_law_pick (by decide) hr hgu (by rfl) (takes_of rfl rfl rfl rfl) (q_cons (q_var (i := 0)) (q_cons (q_bin p_add (q_var (i := 3)) (q_list (q_cons q_str q_nil))) q_nil))) rfl sc.nd rfl rfl (by decide) rfl rfl (by rfl))
    (q_scons (q_set (i := 9) (q_if (q_tval (q_var (i := 4))) (q_get2 (ru hr) (q_var (i := 2)) (q_tuple (q_cons (q_var (i := 7)) (q_cons (q_var (i := 8)) q_nil))) (q_if (q_tcmp (p_eq (ru hr)) (q_var (i := 7)) (q_var (i := 8))) q_int q_non) ⟨by rfl, by rfl, by rfl, by rfl⟩) q_str) sc.nd)
    (q_scons (q_sif (q_tcmp (p_ne (ru hr)) (q_hcall h_law_bound (by decide) hr hgu (by rfl) (takes_of rfl rfl rfl rfl) (q_cons (q_var (i := 1)) (q_cons (q_var (i := 7)) (q_cons (q_var (i := 8)) q_nil)))) (q_var (i := 9))) (q_sone (q_ret q_bl)) q_snil)
    (q_scons (q_sif (q_tnot (q_tval (q_var (i := 4)))) (q_sone (q_ret (q_and (q_hcall h_law_is_chain (by decide) hr hgu (by rfl) (takes_of rfl rfl rfl rfl) (q_cons (q_var (i := 1)) (q_cons (q_var (i := 6)) q_nil))) (q_one (q_hcall h_is_ring (by decide) hr hgu (by rfl) (takes_of rfl rfl rfl rfl) (q_cons (q_var (i := 1)) (q_cons (q_var (i := 6)) q_nil))))))) q_snil)
    (q_scons (q_sif ((q_wor (q_tcmp (p_ne (ru hr)) (q_blt (p_sorted (ru hr)) (by rfl) c.n_sorted (by rfl) (q_cons (q_lc (own := [("_law_key", 12)]) rfl sc.nd (q_over (q_var (i := 5))) (blkOk_by (N := N_law_right) (sc := defScope s_law_right) (by decide +kernel)) tg_name (by decide) (fun _ _ _ _ _ => (pg_name (i := 12) sc.nd rfl (by first | exact Or.inl rfl | exact Or.inr rfl))) (fun _ _ _ _ _ => q_ifs0) (fun _ _ _ _ _ => (q_btyp (p_str (ru hr) hgu) (by rfl) c.n_str (by rfl) (q_cons (q_var (i := 12)) q_nil)))) q_nil)) (q_blt (p_sorted (ru hr)) (by rfl) c.n_sorted (by rfl) (q_cons (q_lc (own := [("_law_key", 12)]) rfl sc.nd (q_over (q_var (i := 3))) (blkOk_by (N := N_law_right) (sc := defScope s_law_right) (by decide +kernel)) tg_name (by decide) (fun _ _ _ _ _ => (pg_name (i := 12) sc.nd rfl (by first | exact Or.inl rfl | exact Or.inr rfl))) (fun _ _ _ _ _ => q_ifs0) (fun _ _ _ _ _ => (q_btyp (p_str (ru hr) hgu) (by rfl) c.n_str (by rfl) (q_cons (q_var (i := 12)) q_nil)))) q_nil))) (q_wor1 (q_tnot (q_tval (q_hcall h_law_is_order (by decide) hr hgu (by rfl) (takes_of rfl rfl rfl rfl) (q_cons (q_btyp (p_listOf rfl) (by rfl) c.n_list (by rfl) (q_cons (q_var (i := 5)) q_nil)) q_nil))))))).pt (q_sone (q_ret q_bl)) q_snil)
    (q_scons (q_sif ((q_wor (q_tcmp (p_ne (ru hr)) (q_ix (ru hr) (q_var (i := 5)) q_str) q_int) (q_wor1 (q_tcmp (p_ne (ru hr)) (q_lc (own := [("_law_row", 13)]) rfl sc.nd (q_over (q_var (i := 1))) (blkOk_by (N := N_law_right) (sc := defScope s_law_right) (by decide +kernel)) tg_name (by decide) (fun _ _ _ _ _ => (pg_name (i := 13) sc.nd rfl (by first | exact Or.inl rfl | exact Or.inr rfl))) (fun _ _ _ _ _ => (q_ifs1 (q_tcmp p_gt (q_bin p_sub (q_ix (ru hr) (q_var (i := 5)) (q_ix (ru hr) (q_var (i := 13)) q_int)) (q_ix (ru hr) (q_var (i := 5)) (q_ix (ru hr) (q_var (i := 13)) q_int))) (q_ix (ru hr) (q_var (i := 13)) q_int)))) (fun _ _ _ _ _ => (q_var (i := 13)))) (q_list q_nil))))).pt (q_sone (q_ret q_bl)) q_snil)
    (q_scons (q_sif ((q_wor (q_tcmp p_is (q_var (i := 9)) q_non) (q_wor (q_tcmp (p_eq (ru hr)) (q_var (i := 7)) q_str) (q_wor1 (q_tcmp (p_eq (ru hr)) (q_var (i := 8)) q_str))))).pt (q_sone (q_ret (q_hcall h_is_fitting (by decide) hr hgu (by rfl) (takes_of rfl rfl rfl rfl) (q_cons (q_var (i := 1)) (q_cons (q_var (i := 5)) q_nil))))) q_snil)
    (q_scons (q_set (i := 10) (q_hcall h_fitting (by decide) hr hgu (by rfl) (takes_of rfl rfl rfl rfl) (q_cons (q_bin p_add (q_var (i := 1)) (q_tuple (q_cons (q_tuple (q_cons (q_var (i := 8)) (q_cons (q_var (i := 7)) (q_cons (q_bin p_sub q_int (q_var (i := 9))) q_nil)))) q_nil))) q_nil)) sc.nd)
    (q_sone (q_ret (q_and (q_hcall h_is_fitting (by decide) hr hgu (by rfl) (takes_of rfl rfl rfl rfl) (q_cons (q_var (i := 1)) (q_cons (q_var (i := 5)) q_nil))) (q_and (q_cmp p_isnot (q_var (i := 10)) q_non) (q_one (q_cmp p_is (q_hcall h_fitting (by decide) hr hgu (by rfl) (takes_of rfl rfl rfl rfl) (q_cons (q_bin p_add (q_var (i := 1)) (q_tuple (q_cons (q_tuple (q_cons (q_var (i := 8)) (q_cons (q_var (i := 7)) (q_cons (q_bin p_sub (q_un p_neg q_int) (q_var (i := 9))) q_nil)))) q_nil))) q_nil)) q_non)))))))))))))))))))
abbrev N_law : List Str := ["_law_script", "_law_spot", "_law_dice_here", "_law_turn", "_law_rows_here"]
noncomputable def m_law : FS :=
  (sSeq (sFor (iArgs rng1 (aCons (eArgs pMax2 (aCons (eC (.int 1)) (aCons (eArgs pMin2 (aCons (eC (.int 3)) (aCons (eArgs pLen (aCons (eVar 0) aNil)) aNil))) aNil))) aNil)) (gName 1) (sSeq (sAsg (eArgs F_law_dice (aCons (eVar 0) (aCons (eVar 1) aNil))) (gName 2))
    (sFor (iArgs rng1 (aCons (eC (.int 3)) aNil)) (gName 3) (sIf (tNot (tVal (eArgs F_law_right (aCons (eVar 2) aNil)))) (sRet (eC (.bl false))) sNext))))
    (sSeq (sAsg (eArgs gTuple (aCons (eArgs gTuple (aCons (eC (.str "i")) (aCons (eC (.str "")) (aCons (eC (.int 4)) aNil)))) (aCons (eArgs gTuple (aCons (eC (.str "j")) (aCons (eC (.str "i")) (aCons (eUn pNeg (eC (.int 2))) aNil)))) (aCons (eArgs gTuple (aCons (eC (.str "")) (aCons (eC (.str "j")) (aCons (eC (.int 1)) aNil)))) aNil)))) (gName 4))
    (sSeq (sIf (tOr (tVal (eOp (pNe) (eArgs F_tightest (aCons (eVar 4) (aCons (eC (.str "j")) (aCons (eC (.str "")) aNil)))) (eC (.int 2)))) (tOr (tVal (eOp (pNe) (eArgs F_tightest (aCons (eVar 4) (aCons (eC (.str "")) (aCons (eC (.str "i")) aNil)))) (eUn pNeg (eC (.int 1))))) (tVal (eOp (pNe) (eArgs F_tightest (aCons (eVar 4) (aCons (eC (.str "i")) (aCons (eC (.str "")) aNil)))) (eC (.int 4)))))) (sRet (eC (.bl false))) sNext)
    (sRet (eAnd (eOp (pIs true) (eArgs F_ring (aCons (eOp pAdd (eVar 4) (eArgs gTuple (aCons (eArgs gTuple (aCons (eC (.str "")) (aCons (eC (.str "i")) (aCons (eUn pNeg (eC (.int 5))) aNil)))) aNil))) aNil)) (eC .non)) (eAnd (eOp (pEqDict) (eArgs F_fitting (aCons (eArgs gTuple aNil) aNil)) (eDict (pCons (eC (.str "")) (eC (.int 0)) pNil))) (eOp (pIs false) (eArgs F_ring (aCons (eArgs gTuple aNil) aNil)) (eC .non))))))))
noncomputable def F_law : OpN := mkF 1 5 m_law
theorem sc_law : FnScope N_law ["_law_script"] (defScope s_law) := ⟨rfl, rfl, rfl, by decide +kernel, rfl, by decide +kernel, by decide +kernel⟩
theorem t_law {fd : FuncData} (c : Fs K mg) (F : FnP K "law" s_law (He.ga K "law") fd) (h_law_dice : Has P₀ w K mg base 1 "_law_dice" ["_law_script", "_law_spot"] F_law_dice) (h_law_right : Has P₀ w K mg base 8 "_law_right" ["_law_dice_here"] F_law_right) (h_fitting : Has P₀ w K mg base 6 "fitting" ["differences"] F_fitting) (h_ring : Has P₀ w K mg base 6 "ring" ["differences"] F_ring) (h_tightest : Has P₀ w K mg base 6 "tightest" ["differences", "one", "other"] F_tightest) : FnT P₀ w K mg base 9 (He.ga K "law") fd ["_law_script"] F_law := by
  have sc := sc_law
  refine fn_t F sc fun cdv A outer s H E hr hgu => ?_
  exact (q_scons (q_for (passes_of rfl) rfl (q_range1 (by rfl) c.n_range (q_cons (q_blt (p_max2 rfl) (by rfl) c.n_max (by rfl) (q_cons q_int (q_cons (q_blt (p_min2 rfl) (by rfl) c.n_min (by rfl) (q_cons q_int (q_cons (q_blt p_len (by rfl) c.n_len (by rfl) (q_cons (q_var (i := 0)) q_nil)) q_nil))) q_nil))) q_nil)) (pg_name (i := 1) sc.nd rfl (by first | exact Or.inl rfl | exact Or.inr rfl)) tg_name (q_scons (q_set (i := 2) (q_hcall h_law_dice (by decide) hr hgu (by rfl) (takes_of rfl rfl rfl rfl) (q_cons (q_var (i := 0)) (q_cons (q_var (i := 1)) q_nil))) sc.nd)
    (q_sone (q_for (passes_of rfl) rfl (q_range1 (by rfl) c.n_range (q_cons q_int q_nil)) (pg_name (i := 3) sc.nd rfl (by first | exact Or.inl rfl | exact Or.inr rfl)) tg_name (q_sone (q_sif (q_tnot (q_tval (q_hcall h_law_right (by decide) hr hgu (by rfl) (takes_of rfl rfl rfl rfl) (q_cons (q_var (i := 2)) q_nil)))) (q_sone (q_ret q_bl)) q_snil))))))
    (q_scons (q_set (i := 4) (q_tuple (q_cons (q_tuple (q_cons q_str (q_cons q_str (q_cons q_int q_nil)))) (q_cons (q_tuple (q_cons q_str (q_cons q_str (q_cons (q_un p_neg q_int) q_nil)))) (q_cons (q_tuple (q_cons q_str (q_cons q_str (q_cons q_int q_nil)))) q_nil)))) sc.nd)
    (q_scons (q_sif ((q_wor (q_tcmp (p_ne (ru hr)) (q_hcall h_tightest (by decide) hr hgu (by rfl) (takes_of rfl rfl rfl rfl) (q_cons (q_var (i := 4)) (q_cons q_str (q_cons q_str q_nil)))) q_int) (q_wor (q_tcmp (p_ne (ru hr)) (q_hcall h_tightest (by decide) hr hgu (by rfl) (takes_of rfl rfl rfl rfl) (q_cons (q_var (i := 4)) (q_cons q_str (q_cons q_str q_nil)))) (q_un p_neg q_int)) (q_wor1 (q_tcmp (p_ne (ru hr)) (q_hcall h_tightest (by decide) hr hgu (by rfl) (takes_of rfl rfl rfl rfl) (q_cons (q_var (i := 4)) (q_cons q_str (q_cons q_str q_nil)))) q_int))))).pt (q_sone (q_ret q_bl)) q_snil)
    (q_sone (q_ret (q_and (q_cmp p_isnot (q_hcall h_ring (by decide) hr hgu (by rfl) (takes_of rfl rfl rfl rfl) (q_cons (q_bin p_add (q_var (i := 4)) (q_tuple (q_cons (q_tuple (q_cons q_str (q_cons q_str (q_cons (q_un p_neg q_int) q_nil)))) q_nil))) q_nil)) q_non) (q_and (q_cmp (p_eqDict (ru hr)) (q_hcall h_fitting (by decide) hr hgu (by rfl) (takes_of rfl rfl rfl rfl) (q_cons (q_tuple q_nil) q_nil)) (q_dict (ru hr) (q_pcons q_str q_int q_pnil) rfl rfl (by simp) (by decide))) (q_one (q_cmp p_is (q_hcall h_ring (by decide) hr hgu (by rfl) (takes_of rfl rfl rfl rfl) (q_cons (q_tuple q_nil) q_nil)) q_non)))))))))
end

end Hd
end
section
set_option linter.all false
set_option maxRecDepth 100000
set_option maxHeartbeats 1000000
set_option autoImplicit false
namespace TV
open PySem
section
variable {α β : Type} {M : Mem} {ρ : Rho}
@[simp] theorem b_ok (a : α) (k : α → Mem → Res β) : (Res.ok a M).bind k = k a M := rfl
@[simp] theorem b_bad (k : α → Mem → Res β) : (Res.bad : Res α).bind k = .bad := rfl
@[simp] theorem b_ite (c : Prop) [Decidable c] (x y : Res α) (k : α → Mem → Res β) : (if c then x else y).bind k = if c then x.bind k else y.bind k := by split <;> rfl
@[simp] theorem s_ok (a : α) (k : α → Mem → ResS) : bindS (Res.ok a M) ρ k = k a M := rfl
@[simp] theorem s_bad (k : α → Mem → ResS) : bindS (Res.bad : Res α) ρ k = .bad := rfl
@[simp] theorem s_ite (c : Prop) [Decidable c] (x y : Res α) (k : α → Mem → ResS) : bindS (if c then x else y) ρ k = if c then bindS x ρ k else bindS y ρ k := by split <;> rfl
@[simp] theorem t_next (g : FS) : sThen (.next ρ M) g = g ρ M := rfl
@[simp] theorem t_ret (g : FS) (p : P) : sThen (.ret p M) g = .ret p M := rfl
@[simp] theorem t_brk (g : FS) : sThen (.brk ρ M) g = .brk ρ M := rfl
@[simp] theorem t_cont (g : FS) : sThen (.cont ρ M) g = .cont ρ M := rfl
@[simp] theorem t_bad (g : FS) : sThen .bad g = .bad := rfl
@[simp] theorem t_ite (c : Prop) [Decidable c] (x y : ResS) (g : FS) : sThen (if c then x else y) g = if c then sThen x g else sThen y g := by split <;> rfl
@[simp] theorem l_next (go : Rho → Mem → ResS) : loopBody (.next ρ M) go = go ρ M := rfl
@[simp] theorem l_cont (go : Rho → Mem → ResS) : loopBody (.cont ρ M) go = go ρ M := rfl
@[simp] theorem l_brk (go : Rho → Mem → ResS) : loopBody (.brk ρ M) go = .next ρ M := rfl
@[simp] theorem l_ret (go : Rho → Mem → ResS) (p : P) : loopBody (.ret p M) go = .ret p M := rfl
@[simp] theorem l_bad (go : Rho → Mem → ResS) : loopBody .bad go = .bad := rfl
@[simp] theorem l_ite (c : Prop) [Decidable c] (x y : ResS) (go : Rho → Mem → ResS) : loopBody (if c then x else y) go = if c then loopBody x go else loopBody y go := by split <;> rfl
@[simp] theorem f_next : fin (.next ρ M) = .ok .non M := rfl
@[simp] theorem f_ret (p : P) : fin (.ret p M) = .ok p M := rfl
@[simp] theorem f_bad : fin .bad = .bad := rfl
@[simp] theorem f_ite (c : Prop) [Decidable c] (x y : ResS) : fin (if c then x else y) = if c then fin x else fin y := by split <;> rfl
@[simp] theorem g_ite (c : Prop) [Decidable c] (x y : Res P) : gc M (if c then x else y) = if c then gc M x else gc M y := by split <;> rfl
theorem g_same {r : P} (h : ∀ k ∈ r.locs, k < M.length) : gc M (.ok r M) = .ok r M := by
  have := gc_app (M := M) (G := []) (r := r) h
  rwa [List.append_nil] at this
@[simp] theorem g_bl (b : Bool) : gc M (.ok (.bl b) M) = .ok (.bl b) M := g_same (fun k h => by simp [P.locs] at h)
@[simp] theorem g_int (b : Int) : gc M (.ok (.int b) M) = .ok (.int b) M := g_same (fun k h => by simp [P.locs] at h)
@[simp] theorem g_non : gc M (.ok .non M) = .ok .non M := g_same (fun k h => by simp [P.locs] at h)
@[simp] theorem g_blA (b : Bool) (G : Mem) : gc M (.ok (.bl b) (M ++ G)) = .ok (.bl b) M := gc_app (fun k h => by simp [P.locs] at h)
@[simp] theorem g_intA (b : Int) (G : Mem) : gc M (.ok (.int b) (M ++ G)) = .ok (.int b) M := gc_app (fun k h => by simp [P.locs] at h)
@[simp] theorem g_nonA (G : Mem) : gc M (.ok .non (M ++ G)) = .ok .non M := gc_app (fun k h => by simp [P.locs] at h)
/-! expressions -/
variable {fa fb fc : FE} {p : P} {b : Bool}
@[simp] theorem x_C : eC p ρ M = .ok p M := rfl
theorem x_var {i : Nat} (h : ρ[i]? = some (some p)) : eVar i ρ M = .ok p M := by unfold eVar; rw [h]
@[simp] theorem x_v0 (r : Rho) : eVar 0 (some p :: r) M = .ok p M := rfl
@[simp] theorem x_v1 (a : Option P) (r : Rho) : eVar 1 (a :: some p :: r) M = .ok p M := rfl
@[simp] theorem x_v2 (a b : Option P) (r : Rho) : eVar 2 (a :: b :: some p :: r) M = .ok p M := rfl
@[simp] theorem x_v3 (a b c : Option P) (r : Rho) : eVar 3 (a :: b :: c :: some p :: r) M = .ok p M := rfl
@[simp] theorem x_v4 (a b c d : Option P) (r : Rho) : eVar 4 (a :: b :: c :: d :: some p :: r) M = .ok p M := rfl
@[simp] theorem x_v5 (a b c d e : Option P) (r : Rho) : eVar 5 (a :: b :: c :: d :: e :: some p :: r) M = .ok p M := rfl
@[simp] theorem x_v6 (a b c d e f : Option P) (r : Rho) : eVar 6 (a :: b :: c :: d :: e :: f :: some p :: r) M = .ok p M := rfl
@[simp] theorem x_v7 (a b c d e f g : Option P) (r : Rho) : eVar 7 (a :: b :: c :: d :: e :: f :: g :: some p :: r) M = .ok p M := rfl
@[simp] theorem x_v8 (a b c d e f g h : Option P) (r : Rho) : eVar 8 (a :: b :: c :: d :: e :: f :: g :: h :: some p :: r) M = .ok p M := rfl
@[simp] theorem x_op (g : Op2) : eOp g fa fb ρ M = (fa ρ M).bind fun p M1 => (fb ρ M1).bind fun q M2 => g p q M2 := rfl
@[simp] theorem x_un (g : P → Mem → Res P) : eUn g fa ρ M = (fa ρ M).bind fun p M1 => g p M1 := rfl
@[simp] theorem x_nil : aNil ρ M = .ok [] M := rfl
@[simp] theorem x_cons (fr : FA) : aCons fa fr ρ M = (fa ρ M).bind fun p M1 => (fr ρ M1).bind fun ps M2 => .ok (p :: ps) M2 := rfl
@[simp] theorem x_args (g : OpN) (fr : FA) : eArgs g fr ρ M = (fr ρ M).bind g := rfl
def cAnd (p : P) (M : Mem) (k : Mem → Res P) : Res P := match p with
  | .bl true => k M
  | .bl false => .ok (.bl false) M
  | _ => .bad
def cOr (p : P) (M : Mem) (k : Mem → Res P) : Res P := match p with
  | .bl true => .ok (.bl true) M
  | .bl false => k M
  | _ => .bad
@[simp] theorem cAnd_bl (k : Mem → Res P) : cAnd (.bl b) M k = if b = true then k M else .ok (.bl false) M := by cases b <;> rfl
@[simp] theorem cOr_bl (k : Mem → Res P) : cOr (.bl b) M k = if b = true then .ok (.bl true) M else k M := by cases b <;> rfl
@[simp] theorem x_and : eAnd fa fb ρ M = (fa ρ M).bind fun p M1 => cAnd p M1 (fb ρ) := by
  unfold eAnd
  congr 1
@[simp] theorem x_or : eOr fa fb ρ M = (fa ρ M).bind fun p M1 => cOr p M1 (fb ρ) := by
  unfold eOr
  congr 1
def cNot (p : P) (M : Mem) : Res P := match p with
  | .bl b => .ok (.bl (!b)) M
  | _ => .bad
@[simp] theorem cNot_bl : cNot (.bl b) M = .ok (.bl (!b)) M := rfl
@[simp] theorem x_not : eNot fa ρ M = (fa ρ M).bind cNot := rfl
@[simp] theorem x_if (t : FT) : eIf t fa fb ρ M = (t ρ M).bind fun b M1 => if b = true then fa ρ M1 else fb ρ M1 := rfl
@[simp] theorem x_chain (g g' : Op2) : eChain g g' fa fb fc ρ M = (fa ρ M).bind fun p M1 => (fb ρ M1).bind fun q M2 => (g p q M2).bind fun z M3 => cAnd z M3 fun M3 => (fc ρ M3).bind fun r M4 => g' q r M4 := by
  unfold eChain
  congr 1
def cVal (p : P) (M : Mem) : Res Bool := match p with
  | .bl b => .ok b M
  | _ => .bad
@[simp] theorem cVal_bl : cVal (.bl b) M = .ok b M := rfl
@[simp] theorem x_val : tVal fa ρ M = (fa ρ M).bind cVal := rfl
@[simp] theorem x_tand (s t : FT) : tAnd s t ρ M = (s ρ M).bind fun b M1 => if b = true then t ρ M1 else .ok false M1 := rfl
@[simp] theorem x_tor (s t : FT) : tOr s t ρ M = (s ρ M).bind fun b M1 => if b = true then .ok true M1 else t ρ M1 := rfl
@[simp] theorem x_tnot (s : FT) : tNot s ρ M = (s ρ M).bind fun b M1 => .ok (!b) M1 := rfl
/-! statements -/
@[simp] theorem z_next : sNext ρ M = .next ρ M := rfl
@[simp] theorem z_brk : sBreak ρ M = .brk ρ M := rfl
@[simp] theorem z_seq (g h : FS) : sSeq g h ρ M = sThen (g ρ M) h := rfl
@[simp] theorem z_expr : sExpr fa ρ M = bindS (fa ρ M) ρ fun _ M1 => .next ρ M1 := rfl
@[simp] theorem z_ret : sRet fa ρ M = bindS (fa ρ M) ρ fun p M1 => .ret p M1 := rfl
@[simp] theorem z_if (t : FT) (g h : FS) : sIf t g h ρ M = bindS (t ρ M) ρ fun b M1 => if b = true then g ρ M1 else h ρ M1 := rfl
@[simp] theorem z_asg (i : Nat) : sAsg fa (gName i) ρ M = bindS (fa ρ M) ρ fun p M1 => .next (ρ.set i (some p)) M1 := rfl
@[simp] theorem z_par (i j : Nat) : sPar i j fa fb ρ M = bindS (fa ρ M) ρ fun p M1 => bindS (fb ρ M1) ρ fun q M2 => .next ((ρ.set i (some p)).set j (some q)) M2 := rfl
@[simp] theorem z_for (it : FI) (tg : FG) (g : FS) : sFor it tg g ρ M = bindS (it ρ M) ρ fun I M1 => loopF I.guard tg g I.items ρ M1 := rfl
/-! operations -/
@[simp] theorem o_lt (i j : Int) : pLt (.int i) (.int j) M = .ok (.bl (decide (i < j))) M := rfl
@[simp] theorem o_le (i j : Int) : pLe (.int i) (.int j) M = .ok (.bl (decide (i ≤ j))) M := rfl
@[simp] theorem o_gt (i j : Int) : pGt (.int i) (.int j) M = .ok (.bl (decide (j < i))) M := rfl
@[simp] theorem o_ge (i j : Int) : pGe (.int i) (.int j) M = .ok (.bl (decide (j ≤ i))) M := rfl
@[simp] theorem o_neg (i : Int) : pNeg (.int i) M = .ok (.int (-i)) M := rfl
@[simp] theorem o_add (i j : Int) : pAdd (.int i) (.int j) M = .ok (.int (i + j)) M := rfl
@[simp] theorem o_sub (i j : Int) : pSub (.int i) (.int j) M = .ok (.int (i - j)) M := rfl
end
end TV
end
section
set_option linter.all false
set_option maxRecDepth 100000
set_option maxHeartbeats 1000000
namespace Hd
open PySem PySem.Spec PyProof.Rows L2 TV
def isIntB : P → Bool
  | .int i => decide (-1000000000000000000000000000000000000000000000000000000000000 < i) && decide (i < 1000000000000000000000000000000000000000000000000000000000000)
  | _ => false
/-- a value that isinstance serves -/
def Seen (p : P) (M : Mem) : Prop := ∃ t, tyName p M = some t ∧ ((∃ i, p = .int i ∧ t = "int") ∨ (∃ b, p = .bl b ∧ t = "bool") ∨ (∃ z, p = .str z ∧ t = "str") ∨ (∃ qs, p = .tup qs ∧ t = "tuple") ∨ (p = .non ∧ t = "NoneType") ∨ (∃ l, p = .loc l ∧ (t = "list" ∨ t = "dict")))
theorem seen_of {p : P} {M : Mem} (h : (tyName p M).isSome = true) : Seen p M := by
  cases p with
  | non => exact ⟨_, rfl, by simp⟩
  | bl b => exact ⟨_, rfl, by simp⟩
  | int i => exact ⟨_, rfl, by simp⟩
  | str z => exact ⟨_, rfl, by simp⟩
  | tup qs => exact ⟨_, rfl, by simp⟩
  | ty t => simp [tyName] at h
  | loc l =>
    cases e : M[l]? with
    | none => simp [tyName, e] at h
    | some o => cases o <;> exact ⟨_, by simp [tyName, e]; rfl, by simp⟩
theorem isi_of {p : P} {M : Mem} {T t : String} {b : Bool} (h : tyName p M = some t) (hb : isT t T = some b) : pIsi [p, .ty T] M = .ok (.bl b) M := by
  simp [pIsi, h, hb]
theorem is_integer_spec (p : P) (M : Mem) (h : Seen p M) : F_is_integer [p] M = .ok (.bl (isIntB p)) M := by
  unfold F_is_integer mkF m_is_integer
  obtain ⟨t, ht, hc⟩ := h
  rcases hc with ⟨i, rfl, rfl⟩ | ⟨i, rfl, rfl⟩ | ⟨i, rfl, rfl⟩ | ⟨i, rfl, rfl⟩ | ⟨rfl, rfl⟩ | ⟨l, rfl, rfl | rfl⟩
  · simp [startR, isi_of ht (show isT "int" "int" = some true from rfl), isi_of ht (show isT "int" "bool" = some false from rfl), isIntB]
    split
    · simp_all
    · simp_all
      omega
  · simp [startR, isi_of ht (show isT "bool" "int" = some true from rfl), isi_of ht (show isT "bool" "bool" = some true from rfl), isIntB]
  · simp [startR, isi_of ht (show isT "str" "int" = some false from rfl), isIntB]
  · simp [startR, isi_of ht (show isT "tuple" "int" = some false from rfl), isIntB]
  · simp [startR, isi_of ht (show isT "NoneType" "int" = some false from rfl), isIntB]
  · simp [startR, isi_of ht (show isT "list" "int" = some false from rfl), isIntB]
  · simp [startR, isi_of ht (show isT "dict" "int" = some false from rfl), isIntB]
def isWideB : P → Bool
  | .int _ => true
  | _ => false
theorem is_wide_spec (p : P) (M : Mem) (h : Seen p M) : F_is_wide [p] M = .ok (.bl (isWideB p)) M := by
  unfold F_is_wide mkF m_is_wide
  obtain ⟨t, ht, hc⟩ := h
  rcases hc with ⟨i, rfl, rfl⟩ | ⟨i, rfl, rfl⟩ | ⟨i, rfl, rfl⟩ | ⟨i, rfl, rfl⟩ | ⟨rfl, rfl⟩ | ⟨l, rfl, rfl | rfl⟩
  · simp [startR, isi_of ht (show isT "int" "int" = some true from rfl), isi_of ht (show isT "int" "bool" = some false from rfl), isWideB]
  · simp [startR, isi_of ht (show isT "bool" "int" = some true from rfl), isi_of ht (show isT "bool" "bool" = some true from rfl), isWideB]
  · simp [startR, isi_of ht (show isT "str" "int" = some false from rfl), isWideB]
  · simp [startR, isi_of ht (show isT "tuple" "int" = some false from rfl), isWideB]
  · simp [startR, isi_of ht (show isT "NoneType" "int" = some false from rfl), isWideB]
  · simp [startR, isi_of ht (show isT "list" "int" = some false from rfl), isWideB]
  · simp [startR, isi_of ht (show isT "dict" "int" = some false from rfl), isWideB]
end Hd
end
section
set_option linter.all false
set_option maxRecDepth 100000
set_option maxHeartbeats 1000000
set_option autoImplicit false
namespace TV
open PySem
/-! ### list comprehensions whose bodies only read -/
theorem lc_run {guard : Mem → Bool} {gt : FG} {ft : FT} {fe : FE} {ρ : Rho} {M : Mem} {c : P → Bool} {f : P → P} (hg : ∀ acc, guard (M ++ [.lst acc]) = true) : ∀ (ps acc : List P),
    (∀ p ∈ ps, ∃ ρ1, gt p ρ = some ρ1 ∧ ∀ acc, ft ρ1 (M ++ [.lst acc]) = .ok (c p) (M ++ [.lst acc]) ∧ (c p = true → fe ρ1 (M ++ [.lst acc]) = .ok (f p) (M ++ [.lst acc]))) → acc.length + ps.length ≤ sizeLine →
    lcLoop guard gt ft fe M.length ρ ps (M ++ [.lst acc]) = .ok (.loc M.length) (M ++ [.lst (acc ++ (ps.filter c).map f)])
  | [], acc, _, _ => by
    unfold lcLoop
    rw [if_pos (hg acc)]
    simp
  | p :: ps, acc, hb, hl => by
    obtain ⟨ρ1, h1, h2⟩ := hb p List.mem_cons_self
    obtain ⟨h3, h4⟩ := h2 acc
    unfold lcLoop
    rw [if_pos (hg acc), h1]
    dsimp only
    unfold lcItem
    rw [h3]
    simp only [List.length_cons] at hl
    have hget : (M ++ [MO.lst acc])[M.length]? = some (.lst acc) := by simp
    have hset : ∀ x, (M ++ [MO.lst acc]).set M.length (.lst x) = M ++ [.lst x] := fun x => by simp
    cases e : c p with
    | true =>
      dsimp only
      rw [h4 e]
      dsimp only
      rw [hget]
      dsimp only
      rw [if_pos (by omega), hset, lc_run hg ps _ (fun q hq => hb q (List.mem_cons_of_mem _ hq)) (by simp; omega)]
      simp [e]
    | false =>
      dsimp only
      rw [lc_run hg ps _ (fun q hq => hb q (List.mem_cons_of_mem _ hq)) (by omega)]
      simp [e]
theorem x_lc {fi : FI} {gt : FG} {ft : FT} {fe : FE} {own : List Nat} {ρ : Rho} {M : Mem} {I : Iter} {c : P → Bool} {f : P → P} (hi : fi ρ M = .ok I M) (hg : ∀ acc, I.guard (M ++ [.lst acc]) = true) (hl : I.items.length ≤ sizeLine)
    (hb : ∀ p ∈ I.items, ∃ ρ1, gt p (wipeR ρ own) = some ρ1 ∧ ∀ acc, ft ρ1 (M ++ [.lst acc]) = .ok (c p) (M ++ [.lst acc]) ∧ (c p = true → fe ρ1 (M ++ [.lst acc]) = .ok (f p) (M ++ [.lst acc]))) :
    eLc fi gt ft fe own ρ M = .ok (.loc M.length) (M ++ [.lst ((I.items.filter c).map f)]) := by
  unfold eLc
  rw [hi]
  have := lc_run (c := c) (f := f) hg I.items [] hb (by simpa using hl)
  simpa using this
/-- what a walk over a value sees -/
theorem over_tup {fa : FE} {ρ : Rho} {M : Mem} {ps : List P} (h : fa ρ M = .ok (.tup ps) M) : iOver fa ρ M = .ok ⟨ps, fun _ => true⟩ M := by
  unfold iOver; rw [h]; rfl
theorem over_str {fa : FE} {ρ : Rho} {M : Mem} {z : Str} (h : fa ρ M = .ok (.str z) M) : iOver fa ρ M = .ok ⟨z.cps.toList.map fun c => P.str ⟨#[c]⟩, fun _ => true⟩ M := by
  unfold iOver; rw [h]; rfl
end TV
end
section
set_option linter.all false
set_option maxRecDepth 100000
set_option maxHeartbeats 1000000
namespace Hd
open PySem PySem.Spec PyProof.Rows L2 TV
def letters : Str := "abcdefghijklmnopqrstuvwxyz"
def digits : Str := "0123456789"
def isNameB : P → Bool
  | .str z => decide (1 ≤ (z.length : Int)) && (decide ((z.length : Int) ≤ 8) && z.cps.toList.all fun c => decide (c ∈ letters.cps.toList))
  | _ => false
theorem in_sign (c : Nat) (w : Str) (M : Mem) : pIn false (.str ⟨#[c]⟩) (.str w) M = .ok (.bl (decide (c ∈ w.cps.toList))) M := by
  have : (⟨#[c]⟩ : Str).length = 1 := rfl
  simp [pIn, pInB, this]
theorem all_bl (l : List Bool) (M : Mem) : pAll [.loc M.length] (M ++ [.lst (l.map P.bl)]) = .ok (.bl (l.all id)) (M ++ [.lst (l.map P.bl)]) := by
  have h : seqM (M ++ [.lst (l.map P.bl)]) M.length = some (l.map P.bl) := by simp [seqM]
  have h2 : allBl (l.map P.bl) = some l := by
    induction l with
    | nil => rfl
    | cons b l ih => simp [allBl]; exact ih (by simp [seqM])
  simp [pAll, h, h2]
theorem signs_all (w : Str) (z : List Nat) (M : Mem) (fi : FI) (ρ : Rho) (hi : fi ρ M = .ok ⟨z.map fun c => P.str ⟨#[c]⟩, fun _ => true⟩ M) (a : Option P) (hw : wipeR ρ [1] = [a, none]) (hz : z.length ≤ sizeLine) :
    ((eLc fi (gName 1) tYesF (eOp (pIn false) (eVar 1) (eC (.str w))) [1] ρ M).bind fun p M1 => .ok [p] M1).bind pAll = .ok (.bl (z.all fun c => decide (c ∈ w.cps.toList))) (M ++ [.lst ((z.map fun c => decide (c ∈ w.cps.toList)).map P.bl)]) := by
  let f : P → P := fun p => match p with | .str c => .bl (decide (c.cps.getD 0 0 ∈ w.cps.toList)) | _ => .non
  have key := x_lc (fi := fi) (gt := gName 1) (ft := tYesF) (fe := eOp (pIn false) (eVar 1) (eC (.str w))) (own := [1]) (c := fun _ => true) (f := f) hi (fun _ => rfl) (by simpa using hz) (by
    intro p hp
    obtain ⟨c, hc, rfl⟩ := List.mem_map.mp hp
    refine ⟨[a, some (.str ⟨#[c]⟩)], by rw [hw]; rfl, fun acc => ⟨rfl, fun _ => ?_⟩⟩
    simp only [x_op, x_v1, b_ok, x_C, in_sign]
    rfl)
  rw [key]
  have e : ((List.filter (fun _ => true) (z.map fun c => P.str ⟨#[c]⟩)).map f) = (z.map fun c => decide (c ∈ w.cps.toList)).map P.bl := by
    rw [List.filter_eq_self.mpr (fun _ _ => rfl), List.map_map, List.map_map]
    rfl
  simp only [e, b_ok, all_bl]
  congr 2
  rw [List.all_map]
  rfl
theorem is_name_spec (p : P) (M : Mem) (h : Seen p M) (hz : ∀ z, p = .str z → z.length ≤ sizeLine) : F_is_name [p] M = .ok (.bl (isNameB p)) M := by
  unfold F_is_name mkF m_is_name
  obtain ⟨t, ht, hc⟩ := h
  rcases hc with ⟨i, rfl, rfl⟩ | ⟨i, rfl, rfl⟩ | ⟨z, rfl, rfl⟩ | ⟨i, rfl, rfl⟩ | ⟨rfl, rfl⟩ | ⟨l, rfl, rfl | rfl⟩
  · simp [startR, isi_of ht (show isT "int" "str" = some false from rfl), isNameB]
  · simp [startR, isi_of ht (show isT "bool" "str" = some false from rfl), isNameB]
  · have hl := hz z rfl
    have hlen : pLen [.str z] M = .ok (.int (z.length : Nat)) M := by simp [pLen, lenOf, hl]
    have ss := signs_all letters z.cps.toList M (iOver (eVar 0)) [some (.str z), none] (over_str rfl) (some (.str z)) rfl (by rw [Array.length_toList]; exact hl)
    have e1 : ∀ b : Bool, gc M (fin (bindS (Res.ok (P.bl b) (M ++ [.lst ((z.cps.toList.map fun c => decide (c ∈ letters.cps.toList)).map P.bl)])) [some (P.str z), none] fun p M1 => ResS.ret p M1)) = .ok (.bl b) M := fun b => by simp
    unfold letters at ss e1
    simp only [startR, sRet, x_and, x_args, x_cons, x_nil, x_C, b_ok, x_v0, List.map_cons, List.map_nil, List.cons_append, List.nil_append, isi_of ht (show isT "str" "str" = some true from rfl), cAnd_bl, x_chain, hlen, o_le, if_true, b_ite, s_ite, f_ite, g_ite, List.length_cons, List.length_nil, List.replicate]
    simp only [List.replicate, ss, e1]
    unfold isNameB letters
    simp only [s_ok, f_ret, g_bl]
    cases decide (1 ≤ (z.length : Int)) <;> cases decide ((z.length : Int) ≤ 8) <;> simp
  · simp [startR, isi_of ht (show isT "tuple" "str" = some false from rfl), isNameB]
  · simp [startR, isi_of ht (show isT "NoneType" "str" = some false from rfl), isNameB]
  · simp [startR, isi_of ht (show isT "list" "str" = some false from rfl), isNameB]
  · simp [startR, isi_of ht (show isT "dict" "str" = some false from rfl), isNameB]
/-! ### the points of the law's rows -/
def ptL : List P := [.str "", .str "i", .str "j", .str "n", .str "*2", .tup [.str "a", .str "i", .int 0], .tup [.str "a", .str "", .int 2], .str "*10", .tup [.str "a", .str "i", .int (-1)], .str "*1", .tup [.str "b", .str "", .int 0], .str "far"]
def pt (j : Nat) : P := ptL.getD j (.str "")
theorem pt_mem (j : Nat) : pt j ∈ ptL := by
  unfold pt
  rw [List.getD_eq_getElem?_getD]
  cases e : ptL[j]? with
  | none => simp [ptL]
  | some p => exact List.mem_of_getElem? e
theorem pt_all {Q : P → Prop} (h : ∀ p ∈ ptL, Q p) (j : Nat) : Q (pt j) := h _ (pt_mem j)
theorem ptL_all {Q : P → Prop} (h0 : Q (.str "")) (h1 : Q (.str "i")) (h2 : Q (.str "j")) (h3 : Q (.str "n")) (h4 : Q (.str "*2")) (h5 : Q (.tup [.str "a", .str "i", .int 0])) (h6 : Q (.tup [.str "a", .str "", .int 2])) (h7 : Q (.str "*10")) (h8 : Q (.tup [.str "a", .str "i", .int (-1)])) (h9 : Q (.str "*1")) (h10 : Q (.tup [.str "b", .str "", .int 0])) (h11 : Q (.str "far")) (j : Nat) : Q (pt j) := by
  refine pt_all (fun p hp => ?_) j
  simp only [ptL, List.mem_cons, List.not_mem_nil, or_false] at hp
  rcases hp with rfl | rfl | rfl | rfl | rfl | rfl | rfl | rfl | rfl | rfl | rfl | rfl <;> assumption
theorem seen_str (z : Str) (M : Mem) : Seen (.str z) M := ⟨_, rfl, by simp⟩
theorem seen_int (z : Int) (M : Mem) : Seen (.int z) M := ⟨_, rfl, by simp⟩
theorem name_of {z : Str} {b : Bool} (hz : z.length ≤ sizeLine) (h : isNameB (.str z) = b) (M : Mem) : F_is_name [.str z] M = .ok (.bl b) M := by
  rw [is_name_spec _ M (seen_str _ M) (by intro z' h'; cases h'; exact hz), h]
theorem name_i (M : Mem) : F_is_name [.str "i"] M = .ok (.bl true) M := name_of (by decide) (by decide +kernel) M
theorem name_j (M : Mem) : F_is_name [.str "j"] M = .ok (.bl true) M := name_of (by decide) (by decide +kernel) M
theorem name_n (M : Mem) : F_is_name [.str "n"] M = .ok (.bl true) M := name_of (by decide) (by decide +kernel) M
theorem name_a (M : Mem) : F_is_name [.str "a"] M = .ok (.bl true) M := name_of (by decide) (by decide +kernel) M
theorem name_b (M : Mem) : F_is_name [.str "b"] M = .ok (.bl true) M := name_of (by decide) (by decide +kernel) M
theorem name_far (M : Mem) : F_is_name [.str "far"] M = .ok (.bl true) M := name_of (by decide) (by decide +kernel) M
theorem name_2 (M : Mem) : F_is_name [.str "*2"] M = .ok (.bl false) M := name_of (by decide) (by decide +kernel) M
theorem name_10 (M : Mem) : F_is_name [.str "*10"] M = .ok (.bl false) M := name_of (by decide) (by decide +kernel) M
theorem name_1 (M : Mem) : F_is_name [.str "*1"] M = .ok (.bl false) M := name_of (by decide) (by decide +kernel) M
theorem shaped_str (a : Str) (h : PyData.strOk a = true) : SeqAt.shaped (.str a) = true := by
  unfold SeqAt.shaped
  simp [PyData.canLay0, PyData.depth, h]
theorem eqv_str (a b : Str) : PyData.eqv (.str a) (.str b) = decide (a = b) := by
  unfold PyData.eqv
  rw [Bool.eq_iff_iff]
  simp
theorem eq_str (a b : Str) (M : Mem) (ha : PyData.strOk a = true) (hb : PyData.strOk b = true) : pEq (.str a) (.str b) M = .ok (.bl (decide (a = b))) M := by
  rfl
theorem ne_str (a b : Str) (M : Mem) (ha : PyData.strOk a = true) (hb : PyData.strOk b = true) : pNe (.str a) (.str b) M = .ok (.bl (!decide (a = b))) M := by
  rfl
theorem new_of {z : Str} {cs : List Nat} {d : Nat} (M : Mem) (ss : iOver (eSl (eVar 0) (oSome (eC (P.int 1))) oNone) [some (.str z), none] M = .ok ⟨cs.map fun c => P.str ⟨#[c]⟩, fun _ => true⟩ M) (hl : cs.length ≤ sizeLine) (e0 : pIx (.str z) (.int 0) M = .ok (.str "*") M) (e1 : pIx (.str z) (.int 1) M = .ok (.str ⟨#[d]⟩) M)
    (e2 : pLen [.str z] M = .ok (.int (cs.length + 1 : Nat)) M) (hd : (⟨#[d]⟩ : Str) ≠ Str.ofString "0") (h2 : 2 ≤ cs.length + 1) (ha : (cs.all fun c => decide (c ∈ digits.cps.toList)) = true) : F_is_new [.str z] M = .ok (.bl true) M := by
  unfold F_is_new mkF m_is_new
  have ss := signs_all digits cs M (iOver (eSl (eVar 0) (oSome (eC (P.int 1))) oNone)) [some (.str z), none] ss (some (.str z)) rfl hl
  rw [ha] at ss
  unfold digits at ss
  have e3 : pNe (.str "*") (.str "*") M = .ok (.bl false) M := by
    show Res.ok (P.bl (!decide (Str.ofString "*" = Str.ofString "*"))) M = _
    simp
  have e4 : pEq (.str ⟨#[d]⟩) (.str "0") M = .ok (.bl false) M := by
    show Res.ok (P.bl (decide ((⟨#[d]⟩ : Str) = Str.ofString "0"))) M = _
    simp [hd]
  have e5 : pIsi [.str z, .ty "str"] M = .ok (.bl true) M := rfl
  have h3 : ¬ ((cs.length + 1 : Nat) : Int) < 2 := by omega
  have h4 : ¬ ((cs.length : Int) + 1 < 2) := by omega
  simp [startR, e0, e1, e2, e3, e4, e5, ss, h3, h4]
theorem new_1 (M : Mem) : F_is_new [.str "*1"] M = .ok (.bl true) M := new_of (cs := [49]) (d := 49) M rfl (by decide) rfl rfl rfl (by decide) (by decide) (by decide +kernel)
theorem new_2 (M : Mem) : F_is_new [.str "*2"] M = .ok (.bl true) M := new_of (cs := [50]) (d := 50) M rfl (by decide) rfl rfl rfl (by decide) (by decide) (by decide +kernel)
theorem new_10 (M : Mem) : F_is_new [.str "*10"] M = .ok (.bl true) M := new_of (cs := [49, 48]) (d := 49) M rfl (by decide) rfl rfl rfl (by decide) (by decide) (by decide +kernel)
theorem isi_str_str (z : Str) (M : Mem) : pIsi [.str z, .ty "str"] M = .ok (.bl true) M := rfl
theorem isi_str_tup (z : Str) (M : Mem) : pIsi [.str z, .ty "tuple"] M = .ok (.bl false) M := rfl
theorem isi_tup_tup (z : List P) (M : Mem) : pIsi [.tup z, .ty "tuple"] M = .ok (.bl true) M := rfl
theorem o_eqs (a b : Str) (M : Mem) : pEq (.str a) (.str b) M = .ok (.bl (decide (a = b))) M := rfl
theorem o_nes (a b : Str) (M : Mem) : pNe (.str a) (.str b) M = .ok (.bl (!decide (a = b))) M := rfl
theorem place_0 (M : Mem) : F_is_place [.str ""] M = .ok (.bl true) M := by
  unfold F_is_place mkF m_is_place
  simp [startR, isi_str_str, o_eqs]
theorem place_name {z : Str} (M : Mem) (hz : ¬ z = Str.ofString "") (h : ∀ M, F_is_name [.str z] M = .ok (.bl true) M) : F_is_place [.str z] M = .ok (.bl true) M := by
  unfold F_is_place mkF m_is_place
  simp [startR, isi_str_str, o_eqs, h, hz]
theorem place_new {z : Str} (M : Mem) (hz : ¬ z = Str.ofString "") (h : ∀ M, F_is_name [.str z] M = .ok (.bl false) M) (h2 : ∀ M, F_is_new [.str z] M = .ok (.bl true) M) : F_is_place [.str z] M = .ok (.bl true) M := by
  unfold F_is_place mkF m_is_place
  simp [startR, isi_str_str, o_eqs, h, h2, hz]
theorem place_i (M : Mem) : F_is_place [.str "i"] M = .ok (.bl true) M := place_name M (by decide) name_i
theorem point_str {z : Str} (h : ∀ M, F_is_place [.str z] M = .ok (.bl true) M) (M : Mem) : F_is_point [.str z] M = .ok (.bl true) M := by
  unfold F_is_point mkF m_is_point
  simp [startR, isi_str_tup, h]
theorem ix_tup3_0 (a b c : P) (M : Mem) : pIx (.tup [a, b, c]) (.int 0) M = .ok a M := rfl
theorem ix_tup3_1 (a b c : P) (M : Mem) : pIx (.tup [a, b, c]) (.int 1) M = .ok b M := rfl
theorem ix_tup3_2 (a b c : P) (M : Mem) : pIx (.tup [a, b, c]) (.int 2) M = .ok c M := rfl
theorem len_tup3 (a b c : P) (M : Mem) : pLen [.tup [a, b, c]] M = .ok (.int 3) M := rfl
theorem eq_int (a b : Int) (M : Mem) : pEq (.int a) (.int b) M = .ok (.bl (decide (a = b))) M := by
  have h : ∀ i : Int, SeqAt.shaped (.int i) = true := fun i => by unfold SeqAt.shaped; simp [PyData.canLay0, PyData.depth]
  have e : PyData.eqv (.int a) (.int b) = decide (a = b) := by unfold PyData.eqv; rw [Bool.eq_iff_iff]; simp
  exact (eqv_go (d := .int a) (e := .int b) rfl rfl (h a) (h b)).trans (by simp [e])
theorem point_tup {x y : Str} {n : Int} (hx : ∀ M, F_is_name [.str x] M = .ok (.bl true) M) (hy : ∀ M, F_is_place [.str y] M = .ok (.bl true) M) (hn : isIntB (.int n) = true) (M : Mem) : F_is_point [.tup [.str x, .str y, .int n]] M = .ok (.bl true) M := by
  unfold F_is_point mkF m_is_point
  simp [startR, isi_tup_tup, len_tup3, eq_int, ix_tup3_0, ix_tup3_1, ix_tup3_2, hx, hy, is_integer_spec _ _ (seen_int _ _), hn]
theorem point_ok (j : Nat) : ∀ M : Mem, F_is_point [pt j] M = .ok (.bl true) M := by
  refine ptL_all (Q := fun p => ∀ M : Mem, F_is_point [p] M = .ok (.bl true) M) ?_ ?_ ?_ ?_ ?_ ?_ ?_ ?_ ?_ ?_ ?_ ?_ j
  · exact point_str place_0
  · exact point_str place_i
  · exact point_str fun M => place_name M (by decide) name_j
  · exact point_str fun M => place_name M (by decide) name_n
  · exact point_str fun M => place_new M (by decide) name_2 new_2
  · exact point_tup name_a place_i (by decide)
  · exact point_tup name_a place_0 (by decide)
  · exact point_str fun M => place_new M (by decide) name_10 new_10
  · exact point_tup name_a place_i (by decide)
  · exact point_str fun M => place_new M (by decide) name_1 new_1
  · exact point_tup name_b place_0 (by decide)
  · exact point_str fun M => place_name M (by decide) name_far
end Hd
end
section
set_option linter.all false
set_option autoImplicit false
/-! Rows as weighted edges: walks, potentials, simple walks; plain Lean. -/
namespace Hd
abbrev Row := Nat × Nat × Int
/-- a walk from u to v over rows, with its sum and the points it leaves, in order -/
inductive Wk (rs : List Row) : Nat → Nat → Int → List Nat → Prop
  | nil (u : Nat) : Wk rs u u 0 []
  | cons {u v x : Nat} {w k : Int} {l : List Nat} : (u, v, w) ∈ rs → Wk rs v x k l → Wk rs u x (w + k) (u :: l)
theorem Wk.append {rs : List Row} {u v x : Nat} {a b : Int} {l m : List Nat} (h : Wk rs u v a l) (g : Wk rs v x b m) : Wk rs u x (a + b) (l ++ m) := by
  induction h with
  | nil u => simpa using g
  | @cons u v' y w k l hr h ih =>
    have := Wk.cons hr (ih g)
    rwa [← Int.add_assoc] at this
theorem Wk.one {rs : List Row} {u v : Nat} {w : Int} (h : (u, v, w) ∈ rs) : Wk rs u v w [u] := by
  have := Wk.cons h (Wk.nil v)
  rwa [Int.add_zero] at this
theorem Wk.sub {rs rs' : List Row} {u v : Nat} {a : Int} {l : List Nat} (h : Wk rs u v a l) (hs : ∀ r ∈ rs, r ∈ rs') : Wk rs' u v a l := by
  induction h with
  | nil u => exact .nil u
  | cons hr _ ih => exact .cons (hs _ hr) ih
/-- a fitting: numbers for which all rows are true -/
def Fits (rs : List Row) (N : Nat → Int) : Prop := ∀ r ∈ rs, N r.1 - N r.2.1 ≤ r.2.2
theorem Wk.fits {rs : List Row} {u v : Nat} {a : Int} {l : List Nat} {N : Nat → Int} (h : Wk rs u v a l) (hf : Fits rs N) : N u - N v ≤ a := by
  induction h with
  | nil u => omega
  | @cons u v x w k l hr _ ih =>
    have : N u - N v ≤ w := hf _ hr
    omega
/-- a walk can be cut where a point stands -/
theorem Wk.cut {rs : List Row} {u v x : Nat} {a : Int} {l : List Nat} (h : Wk rs u v a l) (hx : x ∈ l) : ∃ b c l1 l2, Wk rs u x b l1 ∧ Wk rs x v c l2 ∧ a = b + c ∧ l = l1 ++ l2 ∧ x ∉ l1 := by
  induction h with
  | nil u => cases hx
  | @cons u v y w k l hr h ih =>
    by_cases e : x = u
    · subst e
      exact ⟨0, w + k, [], x :: l, .nil x, .cons hr h, by omega, rfl, by simp⟩
    · have hx' : x ∈ l := by
        rcases List.mem_cons.mp hx with z | z
        · exact absurd z e
        · exact z
      obtain ⟨b, c, l1, l2, h1, h2, h3, h4, h5⟩ := ih hx'
      exact ⟨w + b, c, u :: l1, l2, .cons hr h1, h2, by omega, by rw [h4]; rfl, by simp [e, h5]⟩
theorem Wk.points {rs : List Row} {u v : Nat} {a : Int} {l : List Nat} (h : Wk rs u v a l) : ∀ x ∈ l, ∃ r ∈ rs, r.1 = x := by
  induction h with
  | nil u => intro x hx; cases hx
  | @cons u v y w k l hr _ ih =>
    intro x hx
    rcases List.mem_cons.mp hx with rfl | z
    · exact ⟨_, hr, rfl⟩
    · exact ih x z
/-- where numbers fit, each walk is at least as long as one without repetition -/
theorem Wk.simple {rs : List Row} {N : Nat → Int} (hf : Fits rs N) : ∀ (n : Nat) {u v : Nat} {a : Int} {l : List Nat}, l.length ≤ n → Wk rs u v a l → ∃ b m, Wk rs u v b m ∧ b ≤ a ∧ m.Nodup ∧ v ∉ m
  | 0, u, v, a, l, hl, h => by
    have : l = [] := List.length_eq_zero_iff.mp (by omega)
    subst this
    cases h
    exact ⟨0, [], .nil u, Int.le_refl _, List.nodup_nil, by simp⟩
  | n + 1, u, v, a, l, hl, h => by
    by_cases hv : v ∈ l
    · -- the walk up to the first v
      obtain ⟨b, c, l1, l2, h1, h2, h3, h4, h5⟩ := h.cut hv
      have hc : 0 ≤ c := by have := h2.fits hf; omega
      have hl1 : l1.length ≤ n := by
        have : 0 < l2.length := by
          cases l2 with
          | nil =>
            rw [h4, List.append_nil] at hv
            exact absurd hv h5
          | cons _ _ => simp
        rw [h4, List.length_append] at hl
        omega
      obtain ⟨b', m, w, hle, nd, hn⟩ := Wk.simple hf n hl1 h1
      exact ⟨b', m, w, by omega, nd, hn⟩
    · cases h with
      | nil => exact ⟨0, [], .nil u, Int.le_refl _, List.nodup_nil, by simp⟩
      | @cons _ y _ w k l' hr h' =>
        simp only [List.length_cons] at hl
        obtain ⟨b, m, wm, hle, nd, hn⟩ := Wk.simple hf n (by omega) h'
        by_cases hu : u ∈ m
        · obtain ⟨b1, c, l1, l2, h1, h2, h3, h4, h5⟩ := wm.cut hu
          have h6 : 0 ≤ w + b1 := by
            have := (Wk.cons hr h1).fits hf
            omega
          refine ⟨c, l2, h2, by omega, ?_, ?_⟩
          · rw [h4] at nd; exact (List.nodup_append.mp nd).2.1
          · rw [h4] at hn; exact fun z => hn (List.mem_append_right _ z)
        · refine ⟨w + b, u :: m, .cons hr wm, by omega, List.nodup_cons.mpr ⟨hu, nd⟩, ?_⟩
          intro z
          rcases List.mem_cons.mp z with e | e
          · exact hv (by rw [e]; exact List.mem_cons_self)
          · exact hn e
end Hd
end
section
set_option linter.all false
set_option autoImplicit false
/-! Floyd and Warshall, in place, over a table of pairs. -/
namespace Hd
abbrev Tab := Nat → Nat → Option Int
def put2 (d : Tab) (i j : Nat) (c : Int) : Tab := fun x y => if x = i ∧ y = j then some c else d x y
/-- found[(one, other)] = min([most] + ([found[..]] if there)) -/
def edge (d : Tab) (r : Row) : Tab := put2 d r.1 r.2.1 (match d r.1 r.2.1 with | some c => if r.2.2 ≤ c then r.2.2 else c | none => r.2.2)
def relax (d : Tab) (k i j : Nat) : Tab := match d i k, d k j with
  | some a, some b => put2 d i j (match d i j with | some c => if c < a + b then c else a + b | none => a + b)
  | _, _ => d
def fwRow (d : Tab) (k i : Nat) (js : List Nat) : Tab := js.foldl (fun d j => relax d k i j) d
def fwMid (d : Tab) (k : Nat) (is js : List Nat) : Tab := is.foldl (fun d i => fwRow d k i js) d
def fwAll (d : Tab) (ks js : List Nat) : Tab := ks.foldl (fun d k => fwMid d k js js) d
def zeros (ps : List Nat) : Tab := ps.foldl (fun d p => put2 d p p 0) (fun _ _ => none)
def edges (rs : List Row) (d : Tab) : Tab := rs.foldl edge d
def Snd (rs : List Row) (d : Tab) : Prop := ∀ i j c, d i j = some c → ∃ l, Wk rs i j c l
def Lee (d d' : Tab) : Prop := ∀ i j c, d i j = some c → ∃ c', d' i j = some c' ∧ c' ≤ c
theorem Lee.refl (d : Tab) : Lee d d := fun _ _ c h => ⟨c, h, Int.le_refl _⟩
theorem Lee.trans {a b c : Tab} (h : Lee a b) (g : Lee b c) : Lee a c := fun i j x hx => by
  obtain ⟨y, hy, l1⟩ := h i j x hx
  obtain ⟨z, hz, l2⟩ := g i j y hy
  exact ⟨z, hz, Int.le_trans l2 l1⟩
theorem put2_at (d : Tab) (i j : Nat) (c : Int) : put2 d i j c i j = some c := if_pos ⟨rfl, rfl⟩
theorem lee_put {d : Tab} {i j : Nat} {c : Int} (h : ∀ c', d i j = some c' → c ≤ c') : Lee d (put2 d i j c) := by
  intro x y z hz
  unfold put2
  by_cases e : x = i ∧ y = j
  · obtain ⟨rfl, rfl⟩ := e
    exact ⟨c, if_pos ⟨rfl, rfl⟩, h z hz⟩
  · exact ⟨z, by rw [if_neg e]; exact hz, Int.le_refl _⟩
theorem edge_le (d : Tab) (r : Row) : Lee d (edge d r) ∧ ∃ c, edge d r r.1 r.2.1 = some c ∧ c ≤ r.2.2 := by
  unfold edge
  cases e : d r.1 r.2.1 with
  | none => exact ⟨lee_put (fun c' h => by rw [e] at h; cases h), _, put2_at _ _ _ _, Int.le_refl _⟩
  | some c =>
    dsimp only
    split
    · rename_i hl
      exact ⟨lee_put (fun c' h => by rw [e] at h; cases h; exact hl), _, put2_at _ _ _ _, Int.le_refl _⟩
    · exact ⟨lee_put (fun c' h => by rw [e] at h; cases h; exact Int.le_refl _), _, put2_at _ _ _ _, by omega⟩
theorem edge_snd {rs : List Row} {d : Tab} {r : Row} (h : Snd rs d) (hr : r ∈ rs) : Snd rs (edge d r) := by
  intro i j c hc
  unfold edge put2 at hc
  by_cases e : i = r.1 ∧ j = r.2.1
  · rw [if_pos e] at hc
    obtain ⟨rfl, rfl⟩ := e
    have hw : ∃ l, Wk rs r.1 r.2.1 r.2.2 l := ⟨_, Wk.one hr⟩
    cases q : d r.1 r.2.1 with
    | none => rw [q] at hc; cases hc; exact hw
    | some c' =>
      rw [q] at hc
      dsimp only at hc
      split at hc
      · cases hc; exact hw
      · cases hc; exact h _ _ _ q
  · rw [if_neg e] at hc
    exact h i j c hc
theorem edges_spec {rs : List Row} : ∀ (qs : List Row) (d : Tab), (∀ r ∈ qs, r ∈ rs) → Snd rs d → Snd rs (edges qs d) ∧ Lee d (edges qs d) ∧ ∀ r ∈ qs, ∃ c, edges qs d r.1 r.2.1 = some c ∧ c ≤ r.2.2
  | [], d, _, h => ⟨h, Lee.refl d, fun r hr => (by cases hr)⟩
  | q :: qs, d, hq, h => by
    obtain ⟨e1, c, e2, e3⟩ := edge_le d q
    obtain ⟨h1, h2, h3⟩ := edges_spec qs (edge d q) (fun r hr => hq r (List.mem_cons_of_mem _ hr)) (edge_snd h (hq q List.mem_cons_self))
    refine ⟨h1, e1.trans h2, fun r hr => ?_⟩
    rcases List.mem_cons.mp hr with rfl | z
    · obtain ⟨c', h4, h5⟩ := h2 _ _ _ e2
      exact ⟨c', h4, Int.le_trans h5 e3⟩
    · exact h3 r z
theorem zeros_spec (rs : List Row) : ∀ (ps : List Nat) (d : Tab), Snd rs d → (∀ i c, d i i = some c → c = 0) → Snd rs (ps.foldl (fun d p => put2 d p p 0) d) ∧ (∀ p ∈ ps, ps.foldl (fun d p => put2 d p p 0) d p p = some 0) ∧ Lee d (ps.foldl (fun d p => put2 d p p 0) d) ∧ (∀ i c, ps.foldl (fun d p => put2 d p p 0) d i i = some c → c = 0)
  | [], d, h, hz => ⟨h, (fun p hp => (by cases hp)), Lee.refl d, hz⟩
  | p :: ps, d, h, hz => by
    have s1 : Snd rs (put2 d p p 0) := by
      intro i j c hc
      unfold put2 at hc
      by_cases e : i = p ∧ j = p
      · rw [if_pos e] at hc
        cases hc
        obtain ⟨rfl, rfl⟩ := e
        exact ⟨[], .nil _⟩
      · rw [if_neg e] at hc; exact h i j c hc
    have z1 : ∀ i c, put2 d p p 0 i i = some c → c = 0 := by
      intro i c hc
      unfold put2 at hc
      split at hc
      · cases hc; rfl
      · exact hz i c hc
    obtain ⟨h1, h2, h3, h4⟩ := zeros_spec rs ps (put2 d p p 0) s1 z1
    refine ⟨h1, fun q hq => ?_, (lee_put (fun c' hc => by rw [hz p c' hc]; exact Int.le_refl _)).trans h3, h4⟩
    by_cases hq' : q ∈ ps
    · exact h2 q hq'
    · have e : q = p := by
        rcases List.mem_cons.mp hq with z | z
        · exact z
        · exact absurd z hq'
      subst e
      obtain ⟨c, hc, _⟩ := h3 q q 0 (put2_at _ _ _ _)
      have := h4 q c hc
      rw [this] at hc
      exact hc
theorem relax_lee (d : Tab) (k i j : Nat) : Lee d (relax d k i j) := by
  unfold relax
  split
  · apply lee_put
    intro c' hc
    rw [hc]
    dsimp only
    split <;> omega
  · exact Lee.refl d
theorem relax_snd {rs : List Row} {d : Tab} (h : Snd rs d) (k i j : Nat) : Snd rs (relax d k i j) := by
  unfold relax
  split
  · rename_i a b ha hb
    intro x y c hc
    unfold put2 at hc
    by_cases e : x = i ∧ y = j
    · rw [if_pos e] at hc
      obtain ⟨rfl, rfl⟩ := e
      obtain ⟨l1, w1⟩ := h _ _ _ ha
      obtain ⟨l2, w2⟩ := h _ _ _ hb
      have hw : ∃ l, Wk rs x y (a + b) l := ⟨_, w1.append w2⟩
      cases q : d x y with
      | none => rw [q] at hc; cases hc; exact hw
      | some c' =>
        rw [q] at hc
        dsimp only at hc
        split at hc
        · cases hc; exact h _ _ _ q
        · cases hc; exact hw
    · rw [if_neg e] at hc; exact h x y c hc
  · exact h
theorem relax_post {d : Tab} {k i j : Nat} {a b : Int} (ha : d i k = some a) (hb : d k j = some b) : ∃ c, relax d k i j i j = some c ∧ c ≤ a + b := by
  unfold relax
  rw [ha, hb]
  dsimp only
  refine ⟨_, put2_at _ _ _ _, ?_⟩
  split
  · split <;> omega
  · exact Int.le_refl _
theorem row_spec {rs : List Row} (k i : Nat) : ∀ (js : List Nat) (d : Tab), Snd rs d → Snd rs (fwRow d k i js) ∧ Lee d (fwRow d k i js) ∧ ∀ j ∈ js, ∀ a b, d i k = some a → d k j = some b → ∃ c, fwRow d k i js i j = some c ∧ c ≤ a + b
  | [], d, h => ⟨h, Lee.refl d, fun j hj => (by cases hj)⟩
  | j :: js, d, h => by
    obtain ⟨h1, h2, h3⟩ := row_spec k i js (relax d k i j) (relax_snd h k i j)
    have l1 := relax_lee d k i j
    refine ⟨h1, l1.trans h2, fun j' hj' a b ha hb => ?_⟩
    rcases List.mem_cons.mp hj' with rfl | z
    · obtain ⟨c, hc, hl⟩ := relax_post ha hb
      obtain ⟨c', hc', hl'⟩ := h2 _ _ _ hc
      exact ⟨c', hc', Int.le_trans hl' hl⟩
    · obtain ⟨a', ha', la⟩ := l1 _ _ _ ha
      obtain ⟨b', hb', lb⟩ := l1 _ _ _ hb
      obtain ⟨c, hc, hl⟩ := h3 j' z a' b' ha' hb'
      exact ⟨c, hc, by omega⟩
theorem mid_spec {rs : List Row} (k : Nat) (js : List Nat) : ∀ (is : List Nat) (d : Tab), Snd rs d → Snd rs (fwMid d k is js) ∧ Lee d (fwMid d k is js) ∧ ∀ i ∈ is, ∀ j ∈ js, ∀ a b, d i k = some a → d k j = some b → ∃ c, fwMid d k is js i j = some c ∧ c ≤ a + b
  | [], d, h => ⟨h, Lee.refl d, fun j hj => (by cases hj)⟩
  | i :: is, d, h => by
    obtain ⟨s1, l1, p1⟩ := row_spec k i js d h
    obtain ⟨h1, h2, h3⟩ := mid_spec k js is (fwRow d k i js) s1
    refine ⟨h1, l1.trans h2, fun i' hi' j hj a b ha hb => ?_⟩
    rcases List.mem_cons.mp hi' with rfl | z
    · obtain ⟨c, hc, hl⟩ := p1 j hj a b ha hb
      obtain ⟨c', hc', hl'⟩ := h2 _ _ _ hc
      exact ⟨c', hc', Int.le_trans hl' hl⟩
    · obtain ⟨a', ha', la⟩ := l1 _ _ _ ha
      obtain ⟨b', hb', lb⟩ := l1 _ _ _ hb
      obtain ⟨c, hc, hl⟩ := h3 i' z j hj a' b' ha' hb'
      exact ⟨c, hc, by omega⟩
/-- below all walks whose inner points are among ms, each once -/
def Und (rs : List Row) (ps ms : List Nat) (d : Tab) : Prop := ∀ i j w l, i ∈ ps → j ∈ ps → Wk rs i j w (i :: l) → l.Nodup → (∀ x ∈ l, x ∈ ms) → ∃ c, d i j = some c ∧ c ≤ w
theorem und_step {rs : List Row} {ps ms : List Nat} {d : Tab} {k : Nat} (hk : k ∈ ps) (hs : Snd rs d) (h : Und rs ps ms d) : Und rs ps (ms ++ [k]) (fwMid d k ps ps) := by
  obtain ⟨_, l1, p1⟩ := mid_spec (rs := rs) k ps ps d hs
  intro i j w l hi hj hw nd hin
  by_cases hkl : k ∈ l
  · cases hw with
    | @cons _ y _ w1 w2 _ hr h' =>
      obtain ⟨b, c, l1', l2', h1, h2, h3, h4, h5⟩ := h'.cut hkl
      cases h2 with
      | nil =>
        rw [h4, List.append_nil] at hkl
        exact absurd hkl h5
      | @cons _ z _ w3 w4 l3 hr3 h3' =>
        rw [h4] at nd hin
        have nd1 := List.nodup_append.mp nd
        have nd2 := List.nodup_cons.mp nd1.2.1
        have in1 : ∀ x ∈ l1', x ∈ ms := fun x hx => by
          rcases List.mem_append.mp (hin x (List.mem_append_left _ hx)) with q | q
          · exact q
          · rw [List.mem_singleton.mp q] at hx; exact absurd hx h5
        have in2 : ∀ x ∈ l3, x ∈ ms := fun x hx => by
          rcases List.mem_append.mp (hin x (List.mem_append_right _ (List.mem_cons_of_mem _ hx))) with q | q
          · exact q
          · rw [List.mem_singleton.mp q] at hx; exact absurd hx nd2.1
        obtain ⟨c1, e1, f1⟩ := h i k (w1 + b) l1' hi hk (.cons hr h1) nd1.1 in1
        obtain ⟨c2, e2, f2⟩ := h k j (w3 + w4) l3 hk hj (.cons hr3 h3') nd2.2 in2
        obtain ⟨c3, e3, f3⟩ := p1 i hi j hj c1 c2 e1 e2
        exact ⟨c3, e3, by omega⟩
  · obtain ⟨c, e, f⟩ := h i j w l hi hj hw nd (fun x hx => by
      rcases List.mem_append.mp (hin x hx) with q | q
      · exact q
      · rw [List.mem_singleton.mp q] at hx; exact absurd hx hkl)
    obtain ⟨c', e', f'⟩ := l1 i j c e
    exact ⟨c', e', Int.le_trans f' f⟩
theorem und_all {rs : List Row} {ps : List Nat} : ∀ (ks ms : List Nat) (d : Tab), (∀ k ∈ ks, k ∈ ps) → Snd rs d → Und rs ps ms d → Und rs ps (ms ++ ks) (fwAll d ks ps) ∧ Snd rs (fwAll d ks ps) ∧ Lee d (fwAll d ks ps)
  | [], ms, d, _, hs, h => ⟨by rw [List.append_nil]; exact h, hs, Lee.refl d⟩
  | k :: ks, ms, d, hk, hs, h => by
    obtain ⟨s1, l1, _⟩ := mid_spec (rs := rs) k ps ps d hs
    obtain ⟨h1, h2, h3⟩ := und_all ks (ms ++ [k]) (fwMid d k ps ps) (fun x hx => hk x (List.mem_cons_of_mem _ hx)) s1 (und_step (hk k List.mem_cons_self) hs h)
    rw [List.append_assoc] at h1
    exact ⟨h1, h2, l1.trans h3⟩
/-- the law's table -/
def bounds (rs : List Row) (ps : List Nat) : Tab := fwAll (edges rs (zeros ps)) ps ps
theorem bounds_spec {rs : List Row} {ps : List Nat} (hp : ∀ r ∈ rs, r.1 ∈ ps ∧ r.2.1 ∈ ps) : Snd rs (bounds rs ps) ∧ (∀ p ∈ ps, ∃ c, bounds rs ps p p = some c ∧ c ≤ 0) ∧ ∀ i j w l, i ∈ ps → j ∈ ps → Wk rs i j w (i :: l) → l.Nodup → ∃ c, bounds rs ps i j = some c ∧ c ≤ w := by
  obtain ⟨z1, z2, _, _⟩ := zeros_spec rs ps (fun _ _ => none) (fun i j c h => (by cases h)) (fun i c h => (by cases h))
  obtain ⟨e1, e2, e3⟩ := edges_spec (rs := rs) rs (zeros ps) (fun _ h => h) z1
  have base : Und rs ps [] (edges rs (zeros ps)) := by
    intro i j w l hi hj hw nd hin
    cases hw with
    | @cons _ y _ w1 w2 _ hr h' =>
      cases h' with
      | nil =>
        obtain ⟨c, hc, hl⟩ := e3 _ hr
        have hl : c ≤ w1 := hl
        exact ⟨c, hc, by omega⟩
      | cons hr2 h2 => exact absurd (hin _ List.mem_cons_self) (by simp)
  obtain ⟨u1, u2, u3⟩ := und_all (rs := rs) (ps := ps) ps [] _ (fun _ h => h) e1 base
  refine ⟨u2, fun p hp' => ?_, fun i j w l hi hj hw nd => ?_⟩
  · obtain ⟨c, hc, hl⟩ := (e2.trans u3) p p 0 (z2 p hp')
    exact ⟨c, hc, hl⟩
  · refine u1 i j w l hi hj hw nd (fun x hx => ?_)
    rw [List.nil_append]
    obtain ⟨r, hr, rfl⟩ := hw.points x (List.mem_cons_of_mem _ hx)
    exact (hp r hr).1
end Hd
end
section
set_option linter.all false
set_option maxRecDepth 100000
set_option maxHeartbeats 1000000
namespace Hd
open PySem PySem.Spec PyProof.Rows L2 TV
theorem all_list (l : List Bool) (M : Mem) (xs : List P) (hx : xs = l.map P.bl) : pAll [.loc M.length] (M ++ [.lst xs]) = .ok (.bl (l.all id)) (M ++ [.lst xs]) := by
  subst hx
  exact all_bl l M
theorem all_lc {fi : FI} {gt : FG} {fe : FE} {own : List Nat} {ρ : Rho} {M : Mem} {I : Iter} {g : P → Bool} (hi : fi ρ M = .ok I M) (hg : ∀ acc, I.guard (M ++ [.lst acc]) = true) (hl : I.items.length ≤ sizeLine)
    (hb : ∀ p ∈ I.items, ∃ ρ1, gt p (wipeR ρ own) = some ρ1 ∧ ∀ acc, fe ρ1 (M ++ [.lst acc]) = .ok (.bl (g p)) (M ++ [.lst acc])) :
    ((eLc fi gt tYesF fe own ρ M).bind fun p M1 => .ok [p] M1).bind pAll = .ok (.bl (I.items.all g)) (M ++ [.lst (I.items.map fun p => .bl (g p))]) := by
  have key := x_lc (fi := fi) (gt := gt) (ft := tYesF) (fe := fe) (own := own) (c := fun _ => true) (f := fun p => .bl (g p)) hi hg hl (by
    intro p hp
    obtain ⟨ρ1, h1, h2⟩ := hb p hp
    exact ⟨ρ1, h1, fun acc => ⟨rfl, fun _ => h2 acc⟩⟩)
  rw [key, List.filter_eq_self.mpr (fun _ _ => rfl)]
  simp only [b_ok]
  rw [all_list (I.items.map g) M _ (by rw [List.map_map]; rfl)]
  rw [List.all_map]
  rfl
/-! ### rows -/
def rowP (r : Row) : P := .tup [pt r.1, pt r.2.1, .int r.2.2]
def small (i : Int) : Prop := -1000000000000000000000000000000000000000000000000000000000000 < i ∧ i < 1000000000000000000000000000000000000000000000000000000000000
theorem int_ok (i : Int) (h : small i) (M : Mem) : F_is_integer [.int i] M = .ok (.bl true) M := by
  rw [is_integer_spec _ M (seen_int i M)]
  unfold small at h
  simp [isIntB, h.1, h.2]
theorem ne_int (a b : Int) (M : Mem) : pNe (.int a) (.int b) M = .ok (.bl (!decide (a = b))) M := by
  have h : ∀ i : Int, SeqAt.shaped (.int i) = true := fun i => by unfold SeqAt.shaped; simp [PyData.canLay0, PyData.depth]
  have e : PyData.eqv (.int a) (.int b) = decide (a = b) := by unfold PyData.eqv; rw [Bool.eq_iff_iff]; simp
  exact (eqv_go (d := .int a) (e := .int b) rfl rfl (h a) (h b)).trans (by simp [e])
theorem difference_ok (r : Row) (h : small r.2.2) (M : Mem) : F_is_difference [rowP r] M = .ok (.bl true) M := by
  unfold F_is_difference mkF m_is_difference rowP
  simp [startR, isi_tup_tup, len_tup3, ne_int, ix_tup3_0, ix_tup3_1, ix_tup3_2, point_ok, int_ok _ h]
theorem require_ok (rs : List Row) (h : ∀ r ∈ rs, small r.2.2) (hl : rs.length ≤ 60) (M : Mem) : F_require_differences [.tup (rs.map rowP)] M = .ok .non M := by
  unfold F_require_differences mkF m_require_differences
  have e2 : pLen [.tup (rs.map rowP)] M = .ok (.int (rs.length : Nat)) M := by simp [pLen, lenOf]
  have z := all_lc (fi := iOver (eVar 0)) (gt := gName 1) (fe := eArgs F_is_difference (aCons (eVar 1) aNil)) (own := [1]) (ρ := [some (.tup (rs.map rowP)), none]) (M := M) (g := fun _ => true) (over_tup rfl) (fun _ => rfl) (by simp; exact Nat.le_trans hl (by decide)) (by
    intro p hp
    obtain ⟨r, hr, rfl⟩ := List.mem_map.mp hp
    exact ⟨[some (.tup (rs.map rowP)), some (rowP r)], rfl, fun acc => by simp [difference_ok r (h r hr)]⟩)
  have hl' : ¬ (60 : Int) < (rs.length : Nat) := by omega
  simp only [startR, z_if, x_tor, x_tnot, x_val, x_args, x_cons, x_nil, x_C, b_ok, x_v0, List.map_cons, List.map_nil, List.cons_append, List.nil_append, isi_tup_tup, cVal_bl, x_op, e2, o_gt, List.length_cons, List.length_nil, List.replicate, z]
  simp [hl']
end Hd
end
section
set_option linter.all false
set_option maxRecDepth 100000
set_option maxHeartbeats 1000000
namespace Hd
open PySem PySem.Spec PyProof.Rows L2 TV
/-! ### dicts over the five points -/
def key (j : Nat) : NestedKey := (keyOf (pt j)).getD (.text "")
theorem key_pt (j : Nat) : keyOf (pt j) = some (key j) := by
  unfold key
  have : (keyOf (pt j)).isSome = true := pt_all (Q := fun p => (keyOf p).isSome = true) (by decide +kernel) j
  cases e : keyOf (pt j) with
  | none => rw [e] at this; cases this
  | some k => rfl
theorem key_dep (j : Nat) : (key j).depth ≤ 8 := by
  unfold key
  exact pt_all (Q := fun p => ((keyOf p).getD (.text "")).depth ≤ 8) (by decide +kernel) j
theorem key_inj : ∀ i j : Fin 12, key i = key j → i = j := by decide +kernel
theorem key_ne {i j : Nat} (hi : i < 12) (hj : j < 12) (h : i ≠ j) : key i ≠ key j := fun z => h (congrArg Fin.val (key_inj ⟨i, hi⟩ ⟨j, hj⟩ z))
/-- the dict with the points ks, and f of each -/
def dm (ks : List Nat) (f : Nat → P) : List (P × P) := ks.map fun j => (pt j, f j)
def addPt (ks : List Nat) (j : Nat) : List Nat := if j ∈ ks then ks else ks ++ [j]
def up {α : Type} (f : Nat → α) (j : Nat) (v : α) : Nat → α := fun i => if i = j then v else f i
theorem has_dm {ks : List Nat} {f : Nat → P} {j : Nat} (hk : ∀ i ∈ ks, i < 12) (hj : j < 12) : hasK (dm ks f) (key j) = decide (j ∈ ks) := by
  induction ks with
  | nil => rfl
  | cons i ks ih =>
    have ih := ih fun x hx => hk x (List.mem_cons_of_mem _ hx)
    have hi := hk i List.mem_cons_self
    show (decide (keyOf (pt i) = some (key j)) || hasK (dm ks f) (key j)) = _
    rw [ih, key_pt]
    by_cases h : i = j
    · subst h; simp
    · have h2 : ¬ (some (key i) = some (key j)) := fun z => key_ne hi hj h (Option.some.inj z)
      have h3 : ¬ j = i := fun z => h z.symm
      simp [h2, h3]
theorem look_dm {ks : List Nat} {f : Nat → P} {j : Nat} (hk : ∀ i ∈ ks, i < 12) (hj : j < 12) : lookK (dm ks f) (key j) = if j ∈ ks then some (f j) else none := by
  induction ks with
  | nil => rfl
  | cons i ks ih =>
    have ih := ih fun x hx => hk x (List.mem_cons_of_mem _ hx)
    have hi := hk i List.mem_cons_self
    unfold lookK at ih ⊢
    show (List.find? _ ((pt i, f i) :: dm ks f)).map _ = _
    rw [List.find?_cons]
    by_cases h : i = j
    · subst h; simp [key_pt]
    · have h2 : ¬ (key i = key j) := key_ne hi hj h
      have h3 : ¬ j = i := fun z => h z.symm
      simp only [key_pt, Option.some.injEq, h2, decide_false, ih]
      simp [h3]
theorem put_dm {ks : List Nat} {f : Nat → P} {j : Nat} {v : P} (hk : ∀ i ∈ ks, i < 12) (hj : j < 12) : putK (dm ks f) (key j) (pt j) v = dm (addPt ks j) (up f j v) := by
  unfold TV.putK addPt
  rw [has_dm hk hj]
  by_cases h : j ∈ ks
  · rw [if_pos (by simpa using h), if_pos h]
    unfold dm
    rw [List.map_map]
    apply List.map_congr_left
    intro i hi
    by_cases e : i = j
    · subst e; simp [key_pt, up]
    · have h2 : ¬ (key i = key j) := key_ne (hk i hi) hj e
      simp [key_pt, h2, up, e]
  · rw [if_neg (by simpa using h), if_neg h]
    unfold dm
    rw [List.map_append]
    congr 1
    · apply List.map_congr_left
      intro i hi
      have e : i ≠ j := fun z => h (z ▸ hi)
      simp [up, e]
    · simp [up]
theorem addPt_lt {ks : List Nat} {j : Nat} (hk : ∀ i ∈ ks, i < 12) (hj : j < 12) : ∀ i ∈ addPt ks j, i < 12 := by
  unfold addPt
  split
  · exact hk
  · intro i hi
    rcases List.mem_append.mp hi with h | h
    · exact hk i h
    · rw [List.mem_singleton.mp h]; exact hj
theorem addPt_nodup {ks : List Nat} {j : Nat} (h : ks.Nodup) : (addPt ks j).Nodup := by
  unfold addPt
  split
  · exact h
  · rename_i hj
    rw [List.nodup_append]
    exact ⟨h, by simp, fun a ha b hb z => hj (by rw [List.mem_singleton.mp hb] at z; exact z ▸ ha)⟩
theorem addPt_mem {ks : List Nat} {i j : Nat} : i ∈ addPt ks j ↔ i ∈ ks ∨ i = j := by
  unfold addPt
  split
  · rename_i h
    constructor
    · exact .inl
    · rintro (z | rfl)
      · exact z
      · exact h
  · simp
end Hd
end
section
set_option linter.all false
set_option maxRecDepth 100000
set_option maxHeartbeats 1000000
namespace Hd
open PySem PySem.Spec PyProof.Rows L2 TV
theorem dm_len (ks : List Nat) (f : Nat → P) : (dm ks f).length = ks.length := by unfold dm; simp
theorem few : ∀ (n : Nat) {ks : List Nat}, (∀ i ∈ ks, i < n) → ks.Nodup → ks.length ≤ n
  | 0, ks, hk, _ => by
    cases ks with
    | nil => simp
    | cons i ks => exact absurd (hk i List.mem_cons_self) (Nat.not_lt_zero i)
  | n + 1, ks, hk, nd => by
    by_cases h : n ∈ ks
    · have e := List.length_erase_of_mem h
      have ih := few n (ks := ks.erase n) (fun i hi => by
        have h1 := hk i (List.mem_of_mem_erase hi)
        have h2 : i ≠ n := fun z => by subst z; exact (nd.not_mem_erase) hi
        omega) (nd.erase n)
      omega
    · have ih := few n (ks := ks) (fun i hi => by
        have h1 := hk i hi
        have h2 : i ≠ n := fun z => h (z ▸ hi)
        omega) nd
      omega
theorem small_len {ks : List Nat} (hk : ∀ i ∈ ks, i < 12) (nd : ks.Nodup) : ks.length ≤ 12 := few 12 hk nd
theorem line5 : 12 < sizeLine := by decide
theorem store_dm {M : Mem} {l j : Nat} {ks : List Nat} {f : Nat → P} {v : P} (h : M[l]? = some (.dct (dm ks f))) (hk : ∀ i ∈ ks, i < 12) (nd : ks.Nodup) (hj : j < 12) : storeM (.loc l) (pt j) v M = some (M.set l (.dct (dm (addPt ks j) (up f j v)))) := by
  unfold storeM
  dsimp only
  rw [h]
  dsimp only
  rw [key_pt]
  dsimp only
  rw [if_pos ⟨key_dep j, by rw [dm_len]; exact Nat.lt_of_le_of_lt (small_len hk nd) line5⟩, put_dm hk hj]
theorem z_store {fv fo fi : FE} {ρ : Rho} {M M' : Mem} {v o i : P} (hv : fv ρ M = .ok v M) (ho : fo ρ M = .ok o M) (hi : fi ρ M = .ok i M) (h : storeM o i v M = some M') : sStore fv fo fi ρ M = .next ρ M' := by
  unfold sStore
  rw [hv]
  simp only [s_ok]
  rw [ho]
  simp only [s_ok]
  rw [hi]
  simp only [s_ok, h]
def okRow (r : Row) : Prop := r.1 < 12 ∧ r.2.1 < 12 ∧ small r.2.2
def ptsOf (rs : List Row) (ks : List Nat) : List Nat := rs.foldl (fun ks r => addPt (addPt ks r.1) r.2.1) ks
theorem ptsOf_lt {rs : List Row} {ks : List Nat} (hr : ∀ r ∈ rs, okRow r) (hk : ∀ i ∈ ks, i < 12) : ∀ i ∈ ptsOf rs ks, i < 12 := by
  induction rs generalizing ks with
  | nil => exact hk
  | cons r rs ih => exact ih (fun q hq => hr q (List.mem_cons_of_mem _ hq)) (addPt_lt (addPt_lt hk (hr r List.mem_cons_self).1) (hr r List.mem_cons_self).2.1)
theorem ptsOf_nodup {rs : List Row} {ks : List Nat} (nd : ks.Nodup) : (ptsOf rs ks).Nodup := by
  induction rs generalizing ks with
  | nil => exact nd
  | cons r rs ih => exact ih (addPt_nodup (addPt_nodup nd))
theorem ptsOf_mem {rs : List Row} {ks : List Nat} {i : Nat} : i ∈ ptsOf rs ks ↔ i ∈ ks ∨ ∃ r ∈ rs, i = r.1 ∨ i = r.2.1 := by
  induction rs generalizing ks with
  | nil => simp [ptsOf]
  | cons r rs ih =>
    show i ∈ ptsOf rs (addPt (addPt ks r.1) r.2.1) ↔ _
    rw [ih, addPt_mem, addPt_mem]
    simp only [List.mem_cons, exists_eq_or_imp]
    constructor
    · rintro (((h | h) | h) | h)
      · exact .inl h
      · exact .inr (.inl (.inl h))
      · exact .inr (.inl (.inr h))
      · exact .inr (.inr h)
    · rintro (h | (h | h) | h)
      · exact .inl (.inl (.inl h))
      · exact .inl (.inl (.inr h))
      · exact .inl (.inr h)
      · exact .inr h
def tt : Nat → P := fun _ => .bl true
theorem up_tt (j : Nat) : up tt j (.bl true) = tt := by funext i; unfold up tt; split <;> rfl
theorem pts_loop (rs : List Row) (hr : ∀ r ∈ rs, okRow r) (M : Mem) (a u v : Option P) : ∀ (ks : List Nat) (x y z : Option P), (∀ i ∈ ks, i < 12) → ks.Nodup → ∃ x' y' z',
    loopF (fun _ => true) (TV.gTup [TV.gName 2, TV.gName 3, TV.gName 4]) (sSeq (sStore (eC (.bl true)) (eVar 1) (eVar 2)) (sStore (eC (.bl true)) (eVar 1) (eVar 3))) (rs.map rowP) [a, some (.loc M.length), x, y, z, u, v] (M ++ [.dct (dm ks tt)]) =
      .next [a, some (.loc M.length), x', y', z', u, v] (M ++ [.dct (dm (ptsOf rs ks) tt)]) := by
  induction rs with
  | nil => intro ks x y z _ _; exact ⟨x, y, z, by simp [loopF, ptsOf]⟩
  | cons r rs ih =>
    intro ks x y z hk nd
    obtain ⟨h1, h2, _⟩ := hr r List.mem_cons_self
    have get : ∀ (k : List Nat), (M ++ [MO.dct (dm k tt)])[M.length]? = some (.dct (dm k tt)) := fun k => by simp
    have set : ∀ (k : List Nat) (x : MO), (M ++ [MO.dct (dm k tt)]).set M.length x = M ++ [x] := fun k x => by simp
    have s1 := store_dm (v := .bl true) (get ks) hk nd h1
    have s2 := store_dm (v := .bl true) (get (addPt ks r.1)) (addPt_lt hk h1) (addPt_nodup nd) h2
    rw [set, up_tt] at s1 s2
    obtain ⟨x', y', z', e⟩ := ih (fun q hq => hr q (List.mem_cons_of_mem _ hq)) (addPt (addPt ks r.1) r.2.1) (some (pt r.1)) (some (pt r.2.1)) (some (.int r.2.2)) (addPt_lt (addPt_lt hk h1) h2) (addPt_nodup (addPt_nodup nd))
    refine ⟨x', y', z', ?_⟩
    rw [List.map_cons, loopF, if_pos rfl]
    have hg : TV.gTup [TV.gName 2, TV.gName 3, TV.gName 4] (rowP r) [a, some (.loc M.length), x, y, z, u, v] = some [a, some (.loc M.length), some (pt r.1), some (pt r.2.1), some (.int r.2.2), u, v] := rfl
    rw [hg]
    dsimp only
    rw [z_seq, z_store (o := .loc M.length) (i := pt r.1) (v := .bl true) rfl rfl rfl s1, t_next, z_store (o := .loc M.length) (i := pt r.2.1) (v := .bl true) rfl rfl rfl s2, l_next]
    exact e
end Hd
end
section
set_option linter.all false
set_option maxRecDepth 100000
set_option maxHeartbeats 1000000
namespace Hd
open PySem PySem.Spec PyProof.Rows L2 TV
def gS : P → Bool
  | .str _ => true
  | _ => false
def isS (j : Nat) : Bool := gS (pt j)
theorem gS_pt (j : Nat) : gS (pt j) = isS j := rfl
theorem pt_s {j : Nat} (h : isS j = true) : ∃ z, pt j = .str z ∧ PyData.strOk z = true := by
  unfold isS at h
  have : ∀ p ∈ ptL, gS p = true → ∃ z, p = .str z ∧ PyData.strOk z = true := by
    intro p hp hg
    simp only [ptL, List.mem_cons, List.not_mem_nil, or_false] at hp
    rcases hp with rfl | rfl | rfl | rfl | rfl | rfl | rfl | rfl | rfl | rfl | rfl | rfl
    all_goals first
      | exact ⟨_, rfl, by decide +kernel⟩
      | cases hg
  exact this _ (pt_mem j) h
theorem pt_t {j : Nat} (h : isS j = false) : ∃ (x y : Str) (n : Int), pt j = .tup [.str x, .str y, .int n] := by
  unfold isS at h
  have : ∀ p ∈ ptL, gS p = false → ∃ (x y : Str) (n : Int), p = .tup [.str x, .str y, .int n] := by
    intro p hp hg
    simp only [ptL, List.mem_cons, List.not_mem_nil, or_false] at hp
    rcases hp with rfl | rfl | rfl | rfl | rfl | rfl | rfl | rfl | rfl | rfl | rfl | rfl
    all_goals first
      | exact ⟨_, _, _, rfl⟩
      | cases hg
  exact this _ (pt_mem j) h
theorem isi_pt_str (j : Nat) (M : Mem) : pIsi [pt j, .ty "str"] M = .ok (.bl (isS j)) M := by
  cases h : isS j with
  | true => obtain ⟨z, e, _⟩ := pt_s h; rw [e]; rfl
  | false => obtain ⟨x, y, n, e⟩ := pt_t h; rw [e]; rfl
theorem isi_pt_tup (j : Nat) (M : Mem) : pIsi [pt j, .ty "tuple"] M = .ok (.bl (!isS j)) M := by
  cases h : isS j with
  | true => obtain ⟨z, e, _⟩ := pt_s h; rw [e]; rfl
  | false => obtain ⟨x, y, n, e⟩ := pt_t h; rw [e]; rfl
/-- a walk over a dict of points -/
theorem over_dm {fa : FE} {ρ : Rho} {M : Mem} {l : Nat} {ks : List Nat} {f : Nat → P} (h : fa ρ M = .ok (.loc l) M) (hl : M[l]? = some (.dct (dm ks f))) :
    ∃ I, iOver fa ρ M = .ok I M ∧ I.items = ks.map pt ∧ ∀ M' : Mem, M'[l]? = some (.dct (dm ks f)) → I.guard M' = true := by
  refine ⟨⟨(dm ks f).map (·.1), fun M' => ask (∃ kvs', M'[l]? = some (.dct kvs') ∧ kvs'.map (·.1) = (dm ks f).map (·.1))⟩, ?_, ?_, ?_⟩
  · unfold iOver
    rw [h]
    show (match overI (.loc l) M with | some I => Res.ok I M | none => .bad) = _
    unfold overI
    dsimp only
    rw [hl]
  · unfold dm; rw [List.map_map]; rfl
  · intro M' hM'
    exact ask_true ⟨_, hM', rfl⟩
theorem filter_pts (ks : List Nat) (c : Nat → Bool) (g : P → Bool) (h : ∀ j, g (pt j) = c j) : ((ks.map pt).filter g).map id = (ks.filter c).map pt := by
  rw [List.map_id]
  induction ks with
  | nil => rfl
  | cons j ks ih =>
    rw [List.map_cons, List.filter_cons, List.filter_cons, h j]
    cases c j <;> simp [ih]
/-- [point for point in found if isinstance(point, T)] -/
theorem pick_pts {M : Mem} {ρ : Rho} {l : Nat} {ks : List Nat} {f : Nat → P} {T : String} {c : Nat → Bool} {g : P → Bool} (hgc : ∀ j, g (pt j) = c j) (hT : ∀ j M, pIsi [pt j, .ty T] M = .ok (.bl (c j)) M)
    (hv : eVar 1 ρ M = .ok (.loc l) M) (hl : M[l]? = some (.dct (dm ks f))) (hk : ∀ i ∈ ks, i < 12) (nd : ks.Nodup) (h6 : ∀ p M, eVar 6 ((wipeR ρ [6]).set 6 (some p)) M = .ok p M) :
    eLc (iOver (eVar 1)) (TV.gName 6) (tVal (eArgs pIsi (aCons (eVar 6) (aCons (eC (.ty T)) aNil)))) (eVar 6) [6] ρ M = .ok (.loc M.length) (M ++ [.lst ((ks.filter c).map pt)]) := by
  obtain ⟨I, hi, hit, hg⟩ := over_dm (fa := eVar 1) hv hl
  have hlt : l < M.length := (List.getElem?_eq_some_iff.mp hl).1
  rw [x_lc (c := g) (f := id) hi (fun acc => hg _ (by rw [List.getElem?_append_left hlt]; exact hl)) (by rw [hit, List.length_map]; exact Nat.le_trans (small_len hk nd) (by decide)) ?_, hit, filter_pts ks c g hgc]
  intro p hp
  rw [hit] at hp
  obtain ⟨j, hj, rfl⟩ := List.mem_map.mp hp
  refine ⟨_, rfl, fun acc => ⟨?_, fun _ => ?_⟩⟩
  · rw [x_val, x_args, x_cons, h6]
    simp [hT, hgc]
  · rw [h6]; rfl
theorem enc_pt (j : Nat) (M : Mem) : toD M 9 (pt j) = some (encM M (pt j)) := by
  cases h : isS j with
  | true => obtain ⟨z, e, _⟩ := pt_s h; rw [e]; rfl
  | false => obtain ⟨x, y, n, e⟩ := pt_t h; rw [e]; rfl
theorem dep_pt (j : Nat) (M : Mem) : (encM M (pt j)).depth ≤ 60 := by
  cases h : isS j with
  | true => obtain ⟨z, e, _⟩ := pt_s h; rw [e]; show (PyData.str _).depth ≤ 60; simp [PyData.depth]
  | false => obtain ⟨x, y, n, e⟩ := pt_t h; rw [e]; show (PyData.tuple [.str _, .str _, .int _]).depth ≤ 60; simp [PyData.depth, PyData.depthAll]
theorem sort_s {M : Mem} {l : Nat} {ks : List Nat} (hl : seqM M l = some (ks.map pt)) (h : ∀ j ∈ ks, isS j = true) : pSorted [.loc l] M = .ok (.loc M.length) (M ++ [.lst (sortP M (ks.map pt))]) := by
  unfold pSorted
  dsimp only
  rw [hl]
  dsimp only
  rw [if_pos]
  refine ask_true ⟨?_, ?_, ?_⟩
  · intro p hp
    obtain ⟨j, hj, rfl⟩ := List.mem_map.mp hp
    exact ⟨by rw [enc_pt]; rfl, dep_pt j M⟩
  · intro d hd d' hd'
    rw [List.map_map] at hd hd'
    obtain ⟨j, hj, rfl⟩ := List.mem_map.mp hd
    obtain ⟨j', hj', rfl⟩ := List.mem_map.mp hd'
    obtain ⟨z, e, _⟩ := pt_s (h j hj)
    obtain ⟨z', e', _⟩ := pt_s (h j' hj')
    simp only [Function.comp, e, e']
    rfl
  · right
    intro d hd
    rw [List.map_map] at hd
    obtain ⟨j, hj, rfl⟩ := List.mem_map.mp hd
    obtain ⟨z, e, _⟩ := pt_s (h j hj)
    simp only [Function.comp, e]
    refine ⟨(fun q => ?_), (fun xs q => ?_)⟩
    · exact absurd (show PyData.str z = PyData.none from q) (by simp)
    · exact absurd (show PyData.str z = PyData.tuple xs from q) (by simp)
theorem sort_t {M : Mem} {l : Nat} {ks : List Nat} (hl : seqM M l = some (ks.map pt)) (h : ∀ j ∈ ks, isS j = false) : pSorted [.loc l] M = .ok (.loc M.length) (M ++ [.lst (sortP M (ks.map pt))]) := by
  unfold pSorted
  dsimp only
  rw [hl]
  dsimp only
  rw [if_pos]
  refine ask_true ⟨?_, ?_, ?_⟩
  · intro p hp
    obtain ⟨j, hj, rfl⟩ := List.mem_map.mp hp
    exact ⟨by rw [enc_pt]; rfl, dep_pt j M⟩
  · intro d hd d' hd'
    rw [List.map_map] at hd hd'
    obtain ⟨j, hj, rfl⟩ := List.mem_map.mp hd
    obtain ⟨j', hj', rfl⟩ := List.mem_map.mp hd'
    obtain ⟨x, y, n, e⟩ := pt_t (h j hj)
    obtain ⟨x', y', n', e'⟩ := pt_t (h j' hj')
    simp only [Function.comp, e, e']
    rfl
  · left
    intro d hd
    rw [List.map_map] at hd
    obtain ⟨j, hj, rfl⟩ := List.mem_map.mp hd
    obtain ⟨x, y, n, e⟩ := pt_t (h j hj)
    simp only [Function.comp, e]
    exact ⟨_, _, rfl⟩
end Hd
end
section
set_option linter.all false
set_option maxRecDepth 100000
set_option maxHeartbeats 1000000
set_option autoImplicit false
namespace TV
open PySem
/-! ### trees without cells: what they are as data, for == and repr -/
mutual
def dat : P → PyData
  | .non => .none
  | .bl b => .bool b
  | .int i => .int i
  | .str x => .str x
  | .tup ps => .tuple (datL ps)
  | .ty _ => .none
  | .loc _ => .none
def datL : List P → List PyData
  | [] => []
  | p :: ps => dat p :: datL ps
end
mutual
/-- no cells, no types, texts of real signs, numbers of at most seventy digits -/
def nice : P → Bool
  | .non => true
  | .bl _ => true
  | .int i => decide (i.natAbs < 10 ^ 70)
  | .str x => PyData.strOk x
  | .tup ps => niceL ps
  | .ty _ => false
  | .loc _ => false
def niceL : List P → Bool
  | [] => true
  | p :: ps => nice p && niceL ps
end
mutual
def dep : P → Nat
  | .tup ps => depL ps + 1
  | _ => 0
def depL : List P → Nat
  | [] => 0
  | p :: ps => max (dep p) (depL ps)
end
mutual
def wgt : P → Nat
  | .int _ => 240
  | .str x => x.cps.size
  | .tup ps => wgtL ps
  | _ => 0
def wgtL : List P → Nat
  | [] => 0
  | p :: ps => wgt p + 1 + wgtL ps
end
theorem niceL_iff : ∀ {ps : List P}, niceL ps = true ↔ ∀ p ∈ ps, nice p = true
  | [] => by simp [niceL]
  | p :: ps => by simp [niceL, niceL_iff (ps := ps)]
theorem depL_le {n : Nat} : ∀ {ps : List P}, depL ps ≤ n ↔ ∀ p ∈ ps, dep p ≤ n
  | [] => by simp [depL]
  | p :: ps => by
    have := depL_le (n := n) (ps := ps)
    simp only [depL, List.mem_cons, forall_eq_or_imp, ← this]
    omega
theorem wgtL_app : ∀ (ps qs : List P), wgtL (ps ++ qs) = wgtL ps + wgtL qs
  | [], qs => by simp [wgtL]
  | p :: ps, qs => by simp [wgtL, wgtL_app ps qs]; omega
theorem datL_map : ∀ ps : List P, datL ps = ps.map dat
  | [] => rfl
  | p :: ps => by simp [datL, datL_map ps]
theorem allD_map {f : P → Option PyData} {g : P → PyData} : ∀ {ps : List P}, (∀ p ∈ ps, f p = some (g p)) → allD f ps = some (ps.map g)
  | [], _ => rfl
  | p :: ps, h => by
    unfold allD
    rw [h p List.mem_cons_self, allD_map (ps := ps) fun q hq => h q (List.mem_cons_of_mem _ hq)]
    rfl
mutual
theorem toD_nice (M : Mem) : ∀ (k : Nat) (p : P), nice p = true → dep p < k → toD M k p = some (dat p)
  | 0, p, _, h => absurd h (Nat.not_lt_zero _)
  | k + 1, .non, _, _ => rfl
  | k + 1, .bl b, _, _ => rfl
  | k + 1, .int b, _, _ => rfl
  | k + 1, .str b, _, _ => rfl
  | k + 1, .tup ps, hn, hd => by
    have : allD (toD M k) ps = some (datL ps) := toDL_nice M k ps hn (by simp only [dep] at hd; omega)
    show (allD (toD M k) ps).map PyData.tuple = _
    rw [this]
    rfl
  | k + 1, .ty _, hn, _ => by cases hn
  | k + 1, .loc _, hn, _ => by cases hn
theorem toDL_nice (M : Mem) : ∀ (k : Nat) (ps : List P), niceL ps = true → depL ps < k → allD (toD M k) ps = some (datL ps)
  | k, [], _, _ => rfl
  | k, p :: ps, hn, hd => by
    simp only [niceL, Bool.and_eq_true] at hn
    simp only [depL] at hd
    unfold allD
    rw [toD_nice M k p hn.1 (by omega), toDL_nice M k ps hn.2 (by omega)]
    rfl
end
mutual
theorem toF_nice : ∀ (k : Nat) (p : P), nice p = true → dep p ≤ k → toF k p = some (dat p)
  | k, .non, _, _ => by cases k <;> rfl
  | k, .bl b, _, _ => by cases k <;> rfl
  | k, .int b, _, _ => by cases k <;> rfl
  | k, .str b, _, _ => by cases k <;> rfl
  | 0, .tup ps, hn, hd => by simp [dep] at hd
  | k + 1, .tup ps, hn, hd => by
    have : allD (toF k) ps = some (datL ps) := toFL_nice k ps hn (by simp only [dep] at hd; omega)
    show (allD (toF k) ps).map PyData.tuple = _
    rw [this]
    rfl
  | k, .ty _, hn, _ => by cases hn
  | k, .loc _, hn, _ => by cases hn
theorem toFL_nice : ∀ (k : Nat) (ps : List P), niceL ps = true → depL ps ≤ k → allD (toF k) ps = some (datL ps)
  | k, [], _, _ => rfl
  | k, p :: ps, hn, hd => by
    simp only [niceL, Bool.and_eq_true] at hn
    simp only [depL] at hd
    unfold allD
    rw [toF_nice k p hn.1 (by omega), toFL_nice k ps hn.2 (by omega)]
    rfl
end
mutual
theorem lay_nice : ∀ (p : P), nice p = true → (dat p).canLay0 = true
  | .non, _ => rfl
  | .bl _, _ => rfl
  | .int _, _ => rfl
  | .str x, h => by simp only [dat, PyData.canLay0]; exact h
  | .tup ps, h => by simp only [dat, PyData.canLay0]; exact layL_nice ps h
  | .ty _, h => by cases h
  | .loc _, h => by cases h
theorem layL_nice : ∀ (ps : List P), niceL ps = true → PyData.canLayAll0 (datL ps) = true
  | [], _ => rfl
  | p :: ps, h => by
    simp only [niceL, Bool.and_eq_true] at h
    simp only [datL, PyData.canLayAll0, lay_nice p h.1, layL_nice ps h.2, Bool.and_self]
end
mutual
theorem depth_dat : ∀ (p : P), (dat p).depth = dep p
  | .non => rfl
  | .bl _ => rfl
  | .int _ => rfl
  | .str x => rfl
  | .tup ps => by simp only [dat, PyData.depth, dep, depthL_dat ps]
  | .ty _ => rfl
  | .loc _ => rfl
theorem depthL_dat : ∀ (ps : List P), PyData.depthAll (datL ps) = depL ps
  | [] => rfl
  | p :: ps => by simp only [datL, PyData.depthAll, depL, depth_dat p, depthL_dat ps]
end
mutual
theorem noDict_dat : ∀ (p : P), (dat p).hasDict = false
  | .non => rfl
  | .bl _ => rfl
  | .int _ => rfl
  | .str x => rfl
  | .tup ps => by simp only [dat, PyData.hasDict, noDictL_dat ps]
  | .ty _ => rfl
  | .loc _ => rfl
theorem noDictL_dat : ∀ (ps : List P), PyData.hasDictAll (datL ps) = false
  | [] => rfl
  | p :: ps => by simp only [datL, PyData.hasDictAll, noDict_dat p, noDictL_dat ps, Bool.or_self]
end
theorem log_nice {i : Int} (h : i.natAbs < 10 ^ 70) : i.natAbs.log2 < 240 := by
  by_cases h0 : i.natAbs = 0
  · rw [h0]; decide
  · rw [Nat.log2_lt h0]
    exact Nat.lt_trans h (by decide +kernel)
mutual
theorem show_nice : ∀ (p : P), nice p = true → (dat p).showable = true
  | .non, _ => rfl
  | .bl _, _ => rfl
  | .int i, h => by
    have h : i.natAbs < 10 ^ 70 := of_decide_eq_true h
    have := log_nice h
    simp only [dat, PyData.showable, decide_eq_true_eq]
    omega
  | .str x, h => rfl
  | .tup ps, h => by simp only [dat, PyData.showable]; exact showL_nice ps h
  | .ty _, h => by cases h
  | .loc _, h => by cases h
theorem showL_nice : ∀ (ps : List P), niceL ps = true → PyData.showableAll (datL ps) = true
  | [], _ => rfl
  | p :: ps, h => by
    simp only [niceL, Bool.and_eq_true] at h
    simp only [datL, PyData.showableAll, show_nice p h.1, showL_nice ps h.2, Bool.and_self]
end
mutual
theorem short_nice : ∀ (p : P), nice p = true → (dat p).leavesShort 71 = true
  | .non, _ => rfl
  | .bl _, _ => rfl
  | .int i, h => by
    have h : i.natAbs < 10 ^ 70 := of_decide_eq_true h
    simp only [dat, PyData.leavesShort, decide_eq_true_eq]
    have e := int_text_length_le10 (k := 70) (by decide) h
    show (Str.ofString (toString i)).length ≤ 71
    rw [ofString_length]; exact e
  | .str x, h => PyData.leavesShort_of_canLay0 71 (.str x) (by simp only [PyData.canLay0]; exact h) rfl
  | .tup ps, h => by simp only [dat, PyData.leavesShort]; exact shortL_nice ps h
  | .ty _, h => by cases h
  | .loc _, h => by cases h
theorem shortL_nice : ∀ (ps : List P), niceL ps = true → PyData.leavesShortAll 71 (datL ps) = true
  | [], _ => rfl
  | p :: ps, h => by
    simp only [niceL, Bool.and_eq_true] at h
    simp only [datL, PyData.leavesShortAll, short_nice p h.1, shortL_nice ps h.2, Bool.and_self]
end
mutual
theorem wgt_dat : ∀ (p : P), nice p = true → (dat p).weight ≤ wgt p
  | .non, _ => by simp [dat, PyData.weight]
  | .bl _, _ => by simp [dat, PyData.weight]
  | .int i, h => by
    have h : i.natAbs < 10 ^ 70 := of_decide_eq_true h
    have := log_nice h
    simp only [dat, PyData.weight, wgt]
    split <;> omega
  | .str x, h => by simp [dat, PyData.weight, wgt]
  | .tup ps, h => by simp only [dat, PyData.weight, wgt]; exact wgtL_dat ps h
  | .ty _, h => by cases h
  | .loc _, h => by cases h
theorem wgtL_dat : ∀ (ps : List P), niceL ps = true → PyData.weightAll (datL ps) ≤ wgtL ps
  | [], _ => Nat.le_refl _
  | p :: ps, h => by
    simp only [niceL, Bool.and_eq_true] at h
    have h1 := wgt_dat p h.1
    have h2 := wgtL_dat ps h.2
    simp only [datL, PyData.weightAll, wgtL]
    omega
end
theorem shaped_nice {p : P} (h : nice p = true) (hd : dep p ≤ 64) : SeqAt.shaped (dat p) = true := by
  unfold SeqAt.shaped
  rw [lay_nice p h, depth_dat]
  simpa using hd
theorem shaped_list {ps : List P} (h : niceL ps = true) (hd : depL ps < 64) : SeqAt.shaped (.list (datL ps)) = true := by
  unfold SeqAt.shaped
  simp only [PyData.canLay0, PyData.depth, layL_nice ps h, depthL_dat, Bool.true_and, decide_eq_true_eq]
  omega
/-! == -/
theorem eq_nice {p q : P} {M : Mem} (hp : nice p = true) (hq : nice q = true) (dp : dep p ≤ 8) (dq : dep q ≤ 8) : pEq p q M = .ok (.bl (PyData.eqv (dat p) (dat q))) M :=
  eqv_go (neg := false) (toD_nice M 9 p hp (by omega)) (toD_nice M 9 q hq (by omega)) (shaped_nice hp (by omega)) (shaped_nice hq (by omega))
theorem ne_nice {p q : P} {M : Mem} (hp : nice p = true) (hq : nice q = true) (dp : dep p ≤ 8) (dq : dep q ≤ 8) : pNe p q M = .ok (.bl (!PyData.eqv (dat p) (dat q))) M :=
  eqv_go (neg := true) (toD_nice M 9 p hp (by omega)) (toD_nice M 9 q hq (by omega)) (shaped_nice hp (by omega)) (shaped_nice hq (by omega))
theorem toD_lst {M : Mem} {l : Nat} {xs : List P} (hl : M[l]? = some (.lst xs)) (h : niceL xs = true) (hd : depL xs ≤ 7) : toD M 9 (.loc l) = some (.list (datL xs)) := by
  unfold toD
  dsimp only
  rw [hl]
  dsimp only
  rw [toDL_nice M 8 xs h (by omega)]
  rfl
theorem eqvAll_nil : ∀ xs : List PyData, PyData.eqvAll xs [] = xs.isEmpty
  | [] => by simp [PyData.eqvAll]
  | _ :: _ => by simp [PyData.eqvAll]
theorem datL_empty : ∀ xs : List P, (datL xs).isEmpty = xs.isEmpty
  | [] => rfl
  | _ :: _ => rfl
/-- a list against [] -/
theorem eq_nil {M : Mem} {l l' : Nat} {xs : List P} (hl : M[l]? = some (.lst xs)) (hl' : M[l']? = some (.lst [])) (h : niceL xs = true) (hd : depL xs ≤ 7) : pEq (.loc l) (.loc l') M = .ok (.bl xs.isEmpty) M := by
  have e := eqv_go (neg := false) (toD_lst hl h hd) (toD_lst hl' rfl (Nat.zero_le _)) (shaped_list h (by omega)) (shaped_list (ps := []) rfl (by decide))
  refine e.trans ?_
  have : PyData.eqv (.list (datL xs)) (.list (datL [])) = xs.isEmpty := by
    rw [PyData.eqv]
    show PyData.eqvAll (datL xs) [] = _
    rw [eqvAll_nil, datL_empty]
  simp [this]
theorem ne_nil {M : Mem} {l l' : Nat} {xs : List P} (hl : M[l]? = some (.lst xs)) (hl' : M[l']? = some (.lst [])) (h : niceL xs = true) (hd : depL xs ≤ 7) : pNe (.loc l) (.loc l') M = .ok (.bl (!xs.isEmpty)) M := by
  have e := eqv_go (neg := true) (toD_lst hl h hd) (toD_lst hl' rfl (Nat.zero_le _)) (shaped_list h (by omega)) (shaped_list (ps := []) rfl (by decide))
  refine e.trans ?_
  have : PyData.eqv (.list (datL xs)) (.list (datL [])) = xs.isEmpty := by
    rw [PyData.eqv]
    show PyData.eqvAll (datL xs) [] = _
    rw [eqvAll_nil, datL_empty]
  simp [this]
/-! repr -/
theorem fits_71 {d : PyData} (h : d.leavesShort 71 = true) (hw : d.weight ≤ 200000) : d.shown.length ≤ sizeLine := by
  have := PyData.shown_le 71 (by decide) d h
  have e : sizeLine = 16777216 := by decide
  omega
theorem repr_nice {p : P} {M : Mem} (hp : nice p = true) (dp : dep p ≤ 8) (hw : wgt p ≤ 200000) : pRepr [p] M = .ok (.str (dat p).shown) M := by
  have e : toR M p = some (dat p) := by
    unfold toR
    split
    · cases hp
    · rw [toD_nice M 9 p hp (by omega)]
      dsimp only
      rw [if_pos (noDict_dat p)]
  unfold pRepr
  dsimp only
  rw [e]
  dsimp only
  rw [if_pos ⟨show_nice p hp, fits_71 (short_nice p hp) (Nat.le_trans (wgt_dat p hp) hw), by rw [depth_dat]; omega⟩]
theorem repr_lst {M : Mem} {l : Nat} {xs : List P} (hl : M[l]? = some (.lst xs)) (h : niceL xs = true) (hd : depL xs ≤ 7) (hw : wgtL xs ≤ 200000) : pRepr [.loc l] M = .ok (.str (PyData.list (datL xs)).shown) M := by
  have e : toR M (.loc l) = some (.list (datL xs)) := by
    unfold toR dictOfM
    dsimp only
    rw [hl]
    dsimp only
    rw [toD_lst hl h hd]
    dsimp only
    rw [if_pos (by simp only [PyData.hasDict, noDictL_dat])]
  unfold pRepr
  dsimp only
  rw [e]
  dsimp only
  rw [if_pos]
  refine ⟨by simp only [PyData.showable]; exact showL_nice xs h, fits_71 (by simp only [PyData.leavesShort]; exact shortL_nice xs h) ?_, by simp only [PyData.depth, depthL_dat]; omega⟩
  simp only [PyData.weight]
  exact Nat.le_trans (wgtL_dat xs h) hw
theorem zip_facts : ∀ kvs : List (P × P), niceL (kvs.map (·.1)) = true → niceL (kvs.map (·.2)) = true →
    PyData.showableKv ((datL (kvs.map (·.1))).zip (datL (kvs.map (·.2)))) = true ∧ PyData.leavesShortKv 71 ((datL (kvs.map (·.1))).zip (datL (kvs.map (·.2)))) = true ∧
    PyData.weightKv ((datL (kvs.map (·.1))).zip (datL (kvs.map (·.2)))) ≤ wgtL (kvs.map (·.1)) + wgtL (kvs.map (·.2)) ∧ PyData.depthKv ((datL (kvs.map (·.1))).zip (datL (kvs.map (·.2)))) ≤ max (depL (kvs.map (·.1))) (depL (kvs.map (·.2)))
  | [], _, _ => ⟨rfl, rfl, Nat.le_refl _, Nat.zero_le _⟩
  | (k, v) :: r, h1, h2 => by
    simp only [List.map_cons, niceL, Bool.and_eq_true] at h1 h2
    obtain ⟨a, b, c, d⟩ := zip_facts r h1.2 h2.2
    have w1 := wgt_dat k h1.1
    have w2 := wgt_dat v h2.1
    simp only [List.map_cons, datL, List.zip_cons_cons, PyData.showableKv, PyData.leavesShortKv, PyData.weightKv, PyData.depthKv, wgtL, depL, a, b, show_nice k h1.1, show_nice v h2.1, short_nice k h1.1, short_nice v h2.1, depth_dat, Bool.and_self, true_and]
    omega
theorem repr_dct {M : Mem} {l : Nat} {kvs : List (P × P)} (hl : M[l]? = some (.dct kvs)) (h1 : niceL (kvs.map (·.1)) = true) (h2 : niceL (kvs.map (·.2)) = true) (d1 : depL (kvs.map (·.1)) ≤ 9) (d2 : depL (kvs.map (·.2)) ≤ 9)
    (hw : wgtL (kvs.map (·.1)) + wgtL (kvs.map (·.2)) ≤ 200000) : pRepr [.loc l] M = .ok (.str (PyData.dict ((datL (kvs.map (·.1))).zip (datL (kvs.map (·.2))))).shown) M := by
  obtain ⟨a, b, c, d⟩ := zip_facts kvs h1 h2
  have e : toR M (.loc l) = some (.dict ((datL (kvs.map (·.1))).zip (datL (kvs.map (·.2))))) := by
    unfold toR dictOfM
    dsimp only
    rw [hl]
    dsimp only
    rw [toFL_nice 9 _ h1 d1, toFL_nice 9 _ h2 d2]
  unfold pRepr
  dsimp only
  rw [e]
  dsimp only
  rw [if_pos]
  refine ⟨by simp only [PyData.showable]; exact a, fits_71 (by simp only [PyData.leavesShort]; exact b) ?_, ?_⟩
  · simp only [PyData.weight]
    omega
  · simp only [PyData.depth]
    omega
end TV
end
section
set_option linter.all false
set_option maxRecDepth 100000
set_option maxHeartbeats 1000000
namespace Hd
open PySem PySem.Spec PyProof.Rows L2 TV
def ptIx (p : P) : Nat := ((List.range 12).find? fun j => decide (keyOf p = some (key j))).getD 0
theorem ptIx_pts : ∀ j : Fin 12, ptIx (pt j) = j := by decide +kernel
theorem ptIx_pt {j : Nat} (h : j < 12) : ptIx (pt j) = j := ptIx_pts ⟨j, h⟩
theorem nice_pt (j : Nat) : nice (pt j) = true := pt_all (Q := fun p => nice p = true) (by decide +kernel) j
theorem dep_pt1 (j : Nat) : dep (pt j) ≤ 1 := pt_all (Q := fun p => dep p ≤ 1) (by decide +kernel) j
theorem wgt_pt (j : Nat) : wgt (pt j) ≤ 250 := pt_all (Q := fun p => wgt p ≤ 250) (by decide +kernel) j
theorem locs_pt (j : Nat) : (pt j).locs = [] := pt_all (Q := fun p => p.locs = []) (by decide +kernel) j
theorem encM_pt (j : Nat) (M : Mem) : encM M (pt j) = dat (pt j) := by
  have := toD_nice M 9 (pt j) (nice_pt j) (by have := dep_pt1 j; omega)
  unfold TV.encM
  rw [this]
  rfl
def canonS : List Nat := [0, 9, 7, 4, 11, 1, 2, 3]
def canonT : List Nat := [6, 8, 5, 10]
def ltP (i j : Nat) : Bool := PySem.W.dataLe false (fun k => dat (pt k)) i j
theorem canonS_sorted : canonS.Pairwise (fun i j => ltP i j = true) := by decide +kernel
theorem canonT_sorted : canonT.Pairwise (fun i j => ltP i j = true) := by decide +kernel
theorem anti_pts : ∀ i j : Fin 12, ltP i j = true → ltP j i = true → i = j := by decide +kernel
theorem canonS_mem : ∀ j : Fin 12, isS j = true ↔ (j : Nat) ∈ canonS := by decide +kernel
theorem canonT_mem : ∀ j : Fin 12, isS j = false ↔ (j : Nat) ∈ canonT := by decide +kernel
theorem le_pt (M : Mem) (i j : Nat) : PySem.W.dataLe false (encM M) (pt i) (pt j) = ltP i j := by
  unfold ltP PySem.W.dataLe PySem.W.sortLe
  simp only [encM_pt]
/-- a sorted list of points: the fixed order, filtered -/
theorem sort_canon {cs ks : List Nat} (hc : cs.Pairwise fun i j => ltP i j = true) (nc : cs.Nodup) (lc : ∀ j ∈ cs, j < 12) (hk : ∀ j ∈ ks, j < 12 ∧ j ∈ cs) (nd : ks.Nodup) (M : Mem) : sortP M (ks.map pt) = (cs.filter fun j => decide (j ∈ ks)).map pt := by
  have T := PySem.W.sortLe_total (listOrd itemOrd) false (fun b => PySem.W.keyToks (TV.encM M b))
  have p1 : (sortP M (ks.map pt)).Perm (ks.map pt) := List.mergeSort_perm _ _
  have p2 : (cs.filter fun j => decide (j ∈ ks)).Perm ks := by
    rw [List.perm_ext_iff_of_nodup (nc.filter _) nd]
    intro j
    rw [List.mem_filter]
    constructor
    · rintro ⟨_, h⟩; exact of_decide_eq_true h
    · intro h; exact ⟨(hk j h).2, decide_eq_true h⟩
  refine List.Perm.eq_of_pairwise (le := fun a b => PySem.W.dataLe false (encM M) a b = true) ?_ ?_ ?_ (p1.trans (p2.map pt).symm)
  · intro a b ha hb h1 h2
    obtain ⟨i, hi, rfl⟩ := List.mem_map.mp (p1.mem_iff.mp ha)
    obtain ⟨j, hj, rfl⟩ := List.mem_map.mp hb
    rw [le_pt] at h1 h2
    have := anti_pts ⟨i, (hk i hi).1⟩ ⟨j, lc j (List.mem_filter.mp hj).1⟩ h1 h2
    rw [Fin.mk.injEq] at this
    rw [this]
  · exact List.pairwise_mergeSort (fun a b c h1 h2 => T.trans a b c h1 h2) (fun a b => by rw [Bool.or_eq_true]; exact T.total a b) _
  · refine List.Pairwise.map (R := fun i j => ltP i j = true) _ (fun a b h => ?_) (hc.filter _)
    rw [le_pt]; exact h
theorem unmap {l : List P} {ks : List Nat} (hk : ∀ i ∈ ks, i < 12) (h : l.Perm (ks.map pt)) : ∃ ks' : List Nat, ks'.Perm ks ∧ l = ks'.map pt := by
  refine ⟨l.map ptIx, ?_, ?_⟩
  · have := h.map ptIx
    rw [List.map_map] at this
    refine this.trans ?_
    have e : ks.map (ptIx ∘ pt) = ks := by
      conv => rhs; rw [← List.map_id ks]
      exact List.map_congr_left fun i hi => ptIx_pt (hk i hi)
    rw [e]
  · rw [List.map_map]
    conv => lhs; rw [← List.map_id l]
    apply List.map_congr_left
    intro p hp
    obtain ⟨j, hj, rfl⟩ := List.mem_map.mp (h.mem_iff.mp hp)
    show pt j = pt (ptIx (pt j))
    rw [ptIx_pt (hk j hj)]
theorem part_perm (ks : List Nat) (c : Nat → Bool) : (ks.filter c ++ ks.filter (fun j => !c j)).Perm ks := List.filter_append_perm c ks
theorem flat_pts (ks : List Nat) : locsL (ks.map pt) = [] := by
  induction ks with
  | nil => rfl
  | cons j ks ih =>
    rw [List.map_cons, locsL, ih, locs_pt]
    rfl
theorem add_loc {M : Mem} {a b : Nat} {xs ys : List P} (h1 : M[a]? = some (.lst xs)) (h2 : M[b]? = some (.lst ys)) (hl : xs.length + ys.length ≤ sizeLine) : pAdd (.loc a) (.loc b) M = .ok (.loc M.length) (M ++ [.lst (xs ++ ys)]) := by
  show (match M[a]?, M[b]? with | some (MO.lst xs), some (MO.lst ys) => if xs.length + ys.length ≤ sizeLine then Res.ok (P.loc M.length) (M ++ [MO.lst (xs ++ ys)]) else .bad | _, _ => .bad) = _
  rw [h1, h2]
  dsimp only
  rw [if_pos hl]
theorem first_dict (ρ : Rho) (M : Mem) : eDict (pCons (eC (.str "")) (eC (.bl true)) pNil) ρ M = .ok (.loc M.length) (M ++ [.dct (dm [0] tt)]) := by
  unfold eDict pCons pNil
  simp only [x_C, b_ok]
  have hg : (M ++ [MO.dct []])[M.length]? = some (.dct []) := by simp
  rw [hg]
  dsimp only
  have ha : addAll [] [(P.str "", P.bl true)] = some (dm [0] tt) := rfl
  rw [ha]
  simp
def canon (ks : List Nat) : List Nat := canonS.filter (fun j => decide (j ∈ ks)) ++ canonT.filter (fun j => decide (j ∈ ks))
theorem canon_perm {ks : List Nat} (hk : ∀ i ∈ ks, i < 12) (nd : ks.Nodup) : (canon ks).Perm ks := by
  have e : canon ks = (canonS ++ canonT).filter (fun j => decide (j ∈ ks)) := by unfold canon; rw [List.filter_append]
  rw [e, List.perm_ext_iff_of_nodup (List.Pairwise.filter _ (show (canonS ++ canonT).Nodup by decide)) nd]
  intro j
  rw [List.mem_filter]
  constructor
  · rintro ⟨_, h⟩; exact of_decide_eq_true h
  · intro h
    refine ⟨?_, decide_eq_true h⟩
    cases q : isS j with
    | true => exact List.mem_append_left _ ((canonS_mem ⟨j, hk j h⟩).mp q)
    | false => exact List.mem_append_right _ ((canonT_mem ⟨j, hk j h⟩).mp q)
theorem points_of_spec0 (rs : List Row) (hr : ∀ r ∈ rs, okRow r) (M : Mem) : F_points_of [.tup (rs.map rowP)] M = .ok (.loc M.length) (M ++ [.lst ((canon (ptsOf rs [0])).map pt)]) := by
  have h0 : ∀ i ∈ [0], i < 12 := by simp
  have n0 : [0].Nodup := by simp
  have hk := ptsOf_lt hr h0
  have nd := ptsOf_nodup (rs := rs) n0
  obtain ⟨x', y', z', lp⟩ := pts_loop rs hr M (some (.tup (rs.map rowP))) none none [0] none none none h0 n0
  generalize ptsOf rs [0] = ks at *
  let M1 : Mem := M ++ [.dct (dm ks tt)]
  let xs1 := (ks.filter isS).map pt
  let M2 : Mem := M1 ++ [.lst xs1]
  let M3 : Mem := M2 ++ [.lst (sortP M2 xs1)]
  let xs2 := (ks.filter fun j => !isS j).map pt
  let M4 : Mem := M3 ++ [.lst xs2]
  let M5 : Mem := M4 ++ [.lst (sortP M4 xs2)]
  have g1 : M1[M.length]? = some (.dct (dm ks tt)) := by simp [M1]
  have g3 : M3[M.length]? = some (.dct (dm ks tt)) := by simp [M3, M2, M1]
  have p1 := pick_pts (M := M1) (ρ := [some (.tup (rs.map rowP)), some (.loc M.length), x', y', z', none, none]) (l := M.length) (T := "str") gS_pt isi_pt_str rfl g1 hk nd (fun p M => rfl)
  have s1 := sort_s (M := M2) (l := M1.length) (ks := ks.filter isS) (by simp [seqM, M2, xs1]) (fun j hj => (List.mem_filter.mp hj).2)
  have p2 := pick_pts (M := M3) (ρ := [some (.tup (rs.map rowP)), some (.loc M.length), x', y', z', some (.loc M2.length), none]) (l := M.length) (T := "tuple") (c := fun j => !isS j) (g := fun p => !gS p) (fun j => by rw [gS_pt]) isi_pt_tup rfl g3 hk nd (fun p M => rfl)
  have s2 := sort_t (M := M4) (l := M3.length) (ks := ks.filter fun j => !isS j) (by simp [seqM, M4, xs2]) (fun j hj => by simpa using (List.mem_filter.mp hj).2)
  have len : (sortP M2 xs1).length + (sortP M4 xs2).length ≤ sizeLine := by
    rw [(sortP_perm M2 xs1).length_eq, (sortP_perm M4 xs2).length_eq]
    simp only [xs1, xs2, List.length_map]
    have := (part_perm ks isS).length_eq
    rw [List.length_append] at this
    have := small_len hk nd
    have := line5
    omega
  have ad : pAdd (.loc M2.length) (.loc M4.length) M5 = .ok (.loc M5.length) (M5 ++ [.lst (sortP M2 xs1 ++ sortP M4 xs2)]) := by
    have a1 : M5[M2.length]? = some (.lst (sortP M2 xs1)) := by
      show (M3 ++ [MO.lst xs2] ++ [MO.lst (sortP M4 xs2)])[M2.length]? = _
      rw [List.append_assoc, List.getElem?_append_left (by simp [M3])]
      simp [M3]
    have a2 : M5[M4.length]? = some (.lst (sortP M4 xs2)) := by simp [M5]
    exact add_loc a1 a2 len
  have perm : (sortP M2 xs1 ++ sortP M4 xs2).Perm (ks.map pt) := by
    refine ((sortP_perm M2 xs1).append (sortP_perm M4 xs2)).trans ?_
    have := (part_perm ks isS).map pt
    rwa [List.map_append] at this
  have e : sortP M2 xs1 ++ sortP M4 xs2 = (canon ks).map pt := by
    have f1 := sort_canon (cs := canonS) (ks := ks.filter isS) canonS_sorted (by decide) (by decide) (fun j hj => ⟨hk j (List.mem_filter.mp hj).1, (canonS_mem ⟨j, hk j (List.mem_filter.mp hj).1⟩).mp (List.mem_filter.mp hj).2⟩) (nd.filter _) M2
    have f2 := sort_canon (cs := canonT) (ks := ks.filter fun j => !isS j) canonT_sorted (by decide) (by decide) (fun j hj => ⟨hk j (List.mem_filter.mp hj).1, (canonT_mem ⟨j, hk j (List.mem_filter.mp hj).1⟩).mp (by simpa using (List.mem_filter.mp hj).2)⟩) (nd.filter _) M4
    show sortP M2 ((ks.filter isS).map pt) ++ sortP M4 ((ks.filter fun j => !isS j).map pt) = _
    rw [f1, f2, ← List.map_append]
    congr 1
    unfold canon
    congr 1
    · apply List.filter_congr
      intro j hj
      have : isS j = true := (canonS_mem ⟨j, (show ∀ j ∈ canonS, j < 12 by decide) j hj⟩).mpr hj
      simp [List.mem_filter, this]
    · apply List.filter_congr
      intro j hj
      have : isS j = false := (canonT_mem ⟨j, (show ∀ j ∈ canonT, j < 12 by decide) j hj⟩).mpr hj
      simp [List.mem_filter, this]
  rw [e] at ad
  unfold F_points_of mkF m_points_of
  rw [if_pos (show [P.tup (rs.map rowP)].length = 1 from rfl)]
  have hst : startR 7 [P.tup (rs.map rowP)] = [some (.tup (rs.map rowP)), none, none, none, none, none, none] := rfl
  rw [hst, z_seq, z_asg, first_dict, s_ok, t_next]
  have hset : List.set [some (P.tup (rs.map rowP)), none, none, none, none, none, none] 1 (some (.loc M.length)) = [some (P.tup (rs.map rowP)), some (.loc M.length), none, none, none, none, none] := rfl
  rw [hset, z_seq, z_for, over_tup (fa := eVar 0) rfl, s_ok, lp, t_next, z_seq, z_asg, x_args, x_cons, p1, b_ok, x_nil, b_ok, b_ok, s1, s_ok, t_next]
  have hset2 : List.set [some (P.tup (rs.map rowP)), some (.loc M.length), x', y', z', none, none] 5 (some (.loc M2.length)) = [some (P.tup (rs.map rowP)), some (.loc M.length), x', y', z', some (.loc M2.length), none] := rfl
  rw [hset2, z_ret, x_op, x_v5, b_ok, x_args, x_cons]
  have p2' : eLc (iOver (eVar 1)) (TV.gName 6) (tVal (eArgs pIsi (aCons (eVar 6) (aCons (eC (.ty "tuple")) aNil)))) (eVar 6) [6] [some (P.tup (rs.map rowP)), some (.loc M.length), x', y', z', some (.loc M2.length), none] (M2 ++ [.lst (sortP M2 ((ks.filter isS).map pt))]) = .ok (.loc M3.length) M4 := p2
  rw [p2', b_ok, x_nil, b_ok, b_ok]
  have s2' : pSorted [.loc M3.length] M4 = .ok (.loc M4.length) M5 := s2
  rw [s2', b_ok, ad, s_ok, f_ret]
  have kept : Kept M (M5 ++ [.lst ((canon ks).map pt)]) := by
    have : M5 ++ [MO.lst ((canon ks).map pt)] = M ++ [.dct (dm ks tt), .lst xs1, .lst (sortP M2 xs1), .lst xs2, .lst (sortP M4 xs2), .lst ((canon ks).map pt)] := by simp [M5, M4, M3, M2, M1]
    rw [this]
    exact kept_app _ _
  rw [gc_loc (o := .lst ((canon ks).map pt)) kept (by simp [M5, M4, M3, M2, M1]) (by simp) (by intro k h; simp [MO.locs, flat_pts] at h)]
  congr 1
  have : M5 ++ [MO.lst ((canon ks).map pt)] = M ++ [.dct (dm ks tt), .lst xs1, .lst (sortP M2 xs1), .lst xs2, .lst (sortP M4 xs2), .lst ((canon ks).map pt)] := by simp [M5, M4, M3, M2, M1]
  rw [this]
  simp
theorem points_of_spec (rs : List Row) (hr : ∀ r ∈ rs, okRow r) (M : Mem) : ∃ ks : List Nat, ks.Perm (ptsOf rs [0]) ∧ ks = canon (ptsOf rs [0]) ∧ F_points_of [.tup (rs.map rowP)] M = .ok (.loc M.length) (M ++ [.lst (ks.map pt)]) :=
  ⟨_, canon_perm (ptsOf_lt hr (by simp)) (ptsOf_nodup (by simp)), rfl, points_of_spec0 rs hr M⟩
end Hd
end
section
set_option linter.all false
set_option maxRecDepth 100000
set_option maxHeartbeats 1000000
namespace Hd
open PySem PySem.Spec PyProof.Rows L2 TV
def di (N : Nat → Int) : Nat → P := fun j => .int (N j)
theorem up_di (N : Nat → Int) (j : Nat) (v : Int) : up (di N) j (.int v) = di (up N j v) := by
  funext i; unfold up di; dsimp only; split <;> rfl
section
variable {M : Mem} {l j : Nat} {ks : List Nat} {f : Nat → P}
theorem in_dm (h : M[l]? = some (.dct (dm ks f))) (hk : ∀ i ∈ ks, i < 12) (hj : j < 12) : pIn false (pt j) (.loc l) M = .ok (.bl (decide (j ∈ ks))) M := by
  have hd : dictOfM M l = some (dm ks f) := by unfold dictOfM; rw [h]
  unfold pIn pInB
  dsimp only
  rw [h]
  dsimp only
  rw [hd, key_pt]
  dsimp only
  rw [if_pos (key_dep j), has_dm hk hj]
  rfl
theorem notin_dm (h : M[l]? = some (.dct (dm ks f))) (hk : ∀ i ∈ ks, i < 12) (hj : j < 12) : pIn true (pt j) (.loc l) M = .ok (.bl (!decide (j ∈ ks))) M := by
  have hd : dictOfM M l = some (dm ks f) := by unfold dictOfM; rw [h]
  unfold pIn pInB
  dsimp only
  rw [h]
  dsimp only
  rw [hd, key_pt]
  dsimp only
  rw [if_pos (key_dep j), has_dm hk hj]
  rfl
theorem ix_dm (h : M[l]? = some (.dct (dm ks f))) (hk : ∀ i ∈ ks, i < 12) (hj : j < 12) (hm : j ∈ ks) : pIx (.loc l) (pt j) M = .ok (f j) M := by
  have hd : dictOfM M l = some (dm ks f) := by unfold dictOfM; rw [h]
  have hs : seqM M l = none := by unfold seqM; rw [h]
  have e : pIxO (.loc l) (pt j) M = some (f j) := by
    unfold pIxO
    dsimp only
    rw [hs]
    dsimp only
    rw [hd, key_pt]
    dsimp only
    rw [if_pos (key_dep j), look_dm hk hj, if_pos hm]
  unfold pIx
  rw [e]
end
/-! ### improved, where not all points have a number yet -/
structure Bp where
  ch : Bool
  ks : List Nat
  N : Nat → Int
  ss : List Nat
  S : Nat → Int
def bpStep (s : Bp) (i : Nat) (r : Row) : Bp := if r.2.1 ∈ s.ks ∧ (r.1 ∉ s.ks ∨ s.N r.2.1 + r.2.2 < s.N r.1) then ⟨true, addPt s.ks r.1, up s.N r.1 (s.N r.2.1 + r.2.2), addPt s.ss r.1, up s.S r.1 i⟩ else s
def bpFrom : Nat → List Row → Bp → Bp
  | _, [], s => s
  | i, r :: rs, s => bpFrom (i + 1) rs (bpStep s i r)
def cnt : Nat → List Row → List P
  | _, [] => []
  | i, r :: rs => .tup [.int (i : Nat), rowP r] :: cnt (i + 1) rs
theorem counted_rows (rs : List Row) : counted (rs.map rowP) = cnt 0 rs := by
  have key : ∀ (rs : List Row) (i : Nat), (rs.map rowP).mapIdx (fun k p => P.tup [.int ((i + k : Nat) : Int), p]) = cnt i rs := by
    intro rs
    induction rs with
    | nil => intro i; rfl
    | cons r rs ih =>
      intro i
      rw [List.map_cons, List.mapIdx_cons, cnt, ← ih (i + 1)]
      congr 1
      apply congrArg (fun f => List.mapIdx f (rs.map rowP))
      funext k p
      rw [show i + (k + 1) = i + 1 + k by omega]
  have := key rs 0
  unfold counted
  simpa using this
abbrev impBody : FS := (sSeq (sAsg (eVar 5) (TV.gTup [(TV.gName 6), (TV.gName 7), (TV.gName 8)]))
    (sIf (TV.tAnd (tVal (eOp (pIn false) (eVar 7) (eVar 1))) (TV.tOr (tVal (eOp (pIn true) (eVar 6) (eVar 1))) (tVal (eOp (pLt) (eOp pAdd (eOp pIx (eVar 1) (eVar 7)) (eVar 8)) (eOp pIx (eVar 1) (eVar 6)))))) (sSeq (sStore (eOp pAdd (eOp pIx (eVar 1) (eVar 7)) (eVar 8)) (eVar 1) (eVar 6))
    (sSeq (sStore (eVar 4) (eVar 2) (eVar 6))
    (sAsg (eC (.bl true)) (TV.gName 3)))) sNext))
structure Two (M : Mem) (a b : Nat) (s : Bp) : Prop where
  ha : M[a]? = some (.dct (dm s.ks (di s.N)))
  hb : M[b]? = some (.dct (dm s.ss (di s.S)))
  ne : a ≠ b
  kl : ∀ i ∈ s.ks, i < 12
  kn : s.ks.Nodup
  sl : ∀ i ∈ s.ss, i < 12
  sn : s.ss.Nodup
def wr (M : Mem) (a b : Nat) (s : Bp) : Mem := (M.set a (.dct (dm s.ks (di s.N)))).set b (.dct (dm s.ss (di s.S)))
theorem Two.same {M : Mem} {a b : Nat} {s : Bp} (t : Two M a b s) : wr M a b s = M := by
  unfold wr
  rw [set_same t.ha, set_same t.hb]
theorem wr_wr {M : Mem} {a b : Nat} {s s' : Bp} (ne : a ≠ b) : wr (wr M a b s) a b s' = wr M a b s' := by
  unfold wr
  rw [List.set_comm _ _ ne.symm, List.set_set, List.set_set]
theorem imp_turn {M : Mem} {a b : Nat} {s : Bp} (t : Two M a b s) (i : Nat) (r : Row) (l1 : r.1 < 12) (l2 : r.2.1 < 12) (d x6 x7 x8 : Option P) : 
    impBody [d, some (.loc a), some (.loc b), some (.bl s.ch), some (.int (i : Nat)), some (rowP r), x6, x7, x8] M =
      .next [d, some (.loc a), some (.loc b), some (.bl (bpStep s i r).ch), some (.int (i : Nat)), some (rowP r), some (pt r.1), some (pt r.2.1), some (.int r.2.2)] (wr M a b (bpStep s i r)) ∧ Two (wr M a b (bpStep s i r)) a b (bpStep s i r) := by
  have i1 := in_dm t.ha t.kl l2
  have i2 := notin_dm t.ha t.kl l1
  have g : sAsg (eVar 5) (TV.gTup [(TV.gName 6), (TV.gName 7), (TV.gName 8)]) [d, some (.loc a), some (.loc b), some (.bl s.ch), some (.int (i : Nat)), some (rowP r), x6, x7, x8] M = .next [d, some (.loc a), some (.loc b), some (.bl s.ch), some (.int (i : Nat)), some (rowP r), some (pt r.1), some (pt r.2.1), some (.int r.2.2)] M := rfl
  unfold impBody
  rw [z_seq, g, t_next, z_if]
  have test : TV.tAnd (tVal (eOp (pIn false) (eVar 7) (eVar 1))) (TV.tOr (tVal (eOp (pIn true) (eVar 6) (eVar 1))) (tVal (eOp (pLt) (eOp pAdd (eOp pIx (eVar 1) (eVar 7)) (eVar 8)) (eOp pIx (eVar 1) (eVar 6))))) [d, some (.loc a), some (.loc b), some (.bl s.ch), some (.int (i : Nat)), some (rowP r), some (pt r.1), some (pt r.2.1), some (.int r.2.2)] M = .ok (decide (r.2.1 ∈ s.ks ∧ (r.1 ∉ s.ks ∨ s.N r.2.1 + r.2.2 < s.N r.1))) M := by
    simp only [x_tand, x_tor, x_val, x_op, x_v7, x_v6, x_v1, x_v8, b_ok, i1, i2, cVal_bl]
    by_cases h2 : r.2.1 ∈ s.ks
    · by_cases h1 : r.1 ∈ s.ks
      · have x1 := ix_dm t.ha t.kl l1 h1
        have x2 := ix_dm t.ha t.kl l2 h2
        simp only [h1, h2, decide_true, if_true, Bool.not_true, Bool.false_eq_true, if_false, x1, x2, b_ok, di, o_add, o_lt, cVal_bl]
        simp
      · simp [h1, h2]
    · simp [h2]
  rw [test, s_ok]
  by_cases c : r.2.1 ∈ s.ks ∧ (r.1 ∉ s.ks ∨ s.N r.2.1 + r.2.2 < s.N r.1)
  · have e : bpStep s i r = ⟨true, addPt s.ks r.1, up s.N r.1 (s.N r.2.1 + r.2.2), addPt s.ss r.1, up s.S r.1 i⟩ := if_pos c
    rw [e]
    have x2 := ix_dm t.ha t.kl l2 c.1
    have st1 := store_dm (v := .int (s.N r.2.1 + r.2.2)) t.ha t.kl t.kn l1
    rw [up_di] at st1
    have alt : a < M.length := (List.getElem?_eq_some_iff.mp t.ha).1
    have blt : b < M.length := (List.getElem?_eq_some_iff.mp t.hb).1
    have hb' : (M.set a (.dct (dm (addPt s.ks r.1) (di (up s.N r.1 (s.N r.2.1 + r.2.2))))))[b]? = some (.dct (dm s.ss (di s.S))) := by rw [List.getElem?_set_ne t.ne]; exact t.hb
    have st2 := store_dm (v := .int (i : Nat)) hb' t.sl t.sn l1
    rw [up_di] at st2
    rw [if_pos (by simpa using c), z_seq, z_store (v := .int (s.N r.2.1 + r.2.2)) (o := .loc a) (i := pt r.1) (by simp [x2, di]) rfl rfl st1, t_next, z_seq, z_store (v := .int (i : Nat)) (o := .loc b) (i := pt r.1) rfl rfl rfl st2, t_next, z_asg, x_C, s_ok]
    refine ⟨rfl, ?_, ?_, t.ne, addPt_lt t.kl l1, addPt_nodup t.kn, addPt_lt t.sl l1, addPt_nodup t.sn⟩
    · unfold wr
      rw [List.getElem?_set_ne t.ne.symm, List.getElem?_set_self alt]
    · unfold wr
      rw [List.getElem?_set_self (by rw [List.length_set]; exact blt)]
  · have e : bpStep s i r = s := if_neg c
    rw [e, t.same, if_neg (by simpa using c)]
    exact ⟨rfl, t⟩
end Hd
end
section
set_option linter.all false
set_option maxRecDepth 100000
set_option maxHeartbeats 1000000
namespace Hd
open PySem PySem.Spec PyProof.Rows L2 TV
theorem imp_loop {a b : Nat} (d : Option P) : ∀ (rs : List Row) (i : Nat) (s : Bp) (M : Mem) (x4 x5 x6 x7 x8 : Option P), Two M a b s → (∀ r ∈ rs, r.1 < 12 ∧ r.2.1 < 12) → Two (wr M a b (bpFrom i rs s)) a b (bpFrom i rs s) ∧ ∃ y4 y5 y6 y7 y8,
    loopF (fun _ => true) (TV.gTup [TV.gName 4, TV.gName 5]) impBody (cnt i rs) [d, some (.loc a), some (.loc b), some (.bl s.ch), x4, x5, x6, x7, x8] M =
      .next [d, some (.loc a), some (.loc b), some (.bl (bpFrom i rs s).ch), y4, y5, y6, y7, y8] (wr M a b (bpFrom i rs s))
  | [], i, s, M, x4, x5, x6, x7, x8, t, _ => by
    refine ⟨by unfold bpFrom; rw [t.same]; exact t, x4, x5, x6, x7, x8, ?_⟩
    unfold cnt bpFrom loopF
    rw [t.same]
    simp
  | r :: rs, i, s, M, x4, x5, x6, x7, x8, t, h => by
    obtain ⟨h1, h2⟩ := h r List.mem_cons_self
    obtain ⟨e, t'⟩ := imp_turn t i r h1 h2 d x6 x7 x8
    obtain ⟨t2, y4, y5, y6, y7, y8, e2⟩ := imp_loop d rs (i + 1) (bpStep s i r) (wr M a b (bpStep s i r)) (some (.int (i : Nat))) (some (rowP r)) (some (pt r.1)) (some (pt r.2.1)) (some (.int r.2.2)) t' (fun q hq => h q (List.mem_cons_of_mem _ hq))
    rw [wr_wr t.ne] at t2 e2
    refine ⟨t2, y4, y5, y6, y7, y8, ?_⟩
    rw [cnt, loopF, if_pos rfl]
    have hg : TV.gTup [TV.gName 4, TV.gName 5] (.tup [.int (i : Nat), rowP r]) [d, some (.loc a), some (.loc b), some (.bl s.ch), x4, x5, x6, x7, x8] = some [d, some (.loc a), some (.loc b), some (.bl s.ch), some (.int (i : Nat)), some (rowP r), x6, x7, x8] := rfl
    rw [hg]
    dsimp only
    rw [e, l_next]
    exact e2
theorem dm_flat (ks : List Nat) (N : Nat → Int) : (MO.dct (dm ks (di N))).locs = [] := by
  show locsL ((ks.map fun j => (pt j, di N j)).map (·.1)) ++ locsL ((ks.map fun j => (pt j, di N j)).map (·.2)) = []
  rw [List.map_map, List.map_map]
  have e1 : ks.map ((fun x : P × P => x.1) ∘ fun j => (pt j, di N j)) = ks.map pt := rfl
  rw [e1, flat_pts]
  have : ∀ l : List Nat, locsL (l.map ((fun x : P × P => x.2) ∘ fun j => (pt j, di N j))) = [] := by
    intro l
    induction l with
    | nil => rfl
    | cons j l ih => rw [List.map_cons, locsL, ih]; rfl
  rw [this]
  rfl
theorem wr_kept {M : Mem} {a b : Nat} {s : Bp} : Kept M (wr M a b s) := by
  unfold wr
  refine ⟨by simp, fun l hl => ?_⟩
  by_cases hb : b = l
  · subst hb
    right
    intro o ho
    rw [List.getElem?_set_self (by simpa using hl)] at ho
    cases ho
    intro k hk
    rw [dm_flat] at hk
    cases hk
  · rw [List.getElem?_set_ne hb]
    by_cases ha : a = l
    · subst ha
      right
      intro o ho
      rw [List.getElem?_set_self hl] at ho
      cases ho
      intro k hk
      rw [dm_flat] at hk
      cases hk
    · left
      rw [List.getElem?_set_ne ha]
theorem wr_len {M : Mem} {a b : Nat} {s : Bp} : (wr M a b s).length = M.length := by unfold wr; simp
theorem improved_spec (rs : List Row) {M : Mem} {a b : Nat} {ks ss : List Nat} {N S : Nat → Int} (t : Two M a b ⟨false, ks, N, ss, S⟩) (h : ∀ r ∈ rs, r.1 < 12 ∧ r.2.1 < 12) :
    F_improved [.tup (rs.map rowP), .loc a, .loc b] M = .ok (.bl (bpFrom 0 rs ⟨false, ks, N, ss, S⟩).ch) (wr M a b (bpFrom 0 rs ⟨false, ks, N, ss, S⟩)) ∧ Two (wr M a b (bpFrom 0 rs ⟨false, ks, N, ss, S⟩)) a b (bpFrom 0 rs ⟨false, ks, N, ss, S⟩) := by
  obtain ⟨t2, y4, y5, y6, y7, y8, e⟩ := imp_loop (some (.tup (rs.map rowP))) rs 0 ⟨false, ks, N, ss, S⟩ M none none none none none t h
  refine ⟨?_, t2⟩
  unfold F_improved mkF m_improved
  rw [if_pos (show [P.tup (rs.map rowP), .loc a, .loc b].length = 3 from rfl)]
  have hst : startR 9 [P.tup (rs.map rowP), .loc a, .loc b] = [some (.tup (rs.map rowP)), some (.loc a), some (.loc b), none, none, none, none, none, none] := rfl
  rw [hst, z_seq, z_asg, x_C, s_ok, t_next]
  have hset : List.set [some (P.tup (rs.map rowP)), some (.loc a), some (.loc b), none, none, none, none, none, none] 3 (some (.bl false)) = [some (P.tup (rs.map rowP)), some (.loc a), some (.loc b), some (.bl false), none, none, none, none, none] := rfl
  rw [hset, z_seq, z_for]
  have hi : iArgs enumI (aCons (eVar 0) aNil) [some (P.tup (rs.map rowP)), some (.loc a), some (.loc b), some (.bl false), none, none, none, none, none] M = .ok ⟨cnt 0 rs, fun _ => true⟩ M := by
    rw [← counted_rows]; rfl
  rw [hi, s_ok]
  rw [e, t_next, z_ret, x_v3, s_ok, f_ret, gc_kept wr_kept (by intro k hk; simp [P.locs] at hk)]
  rw [← wr_len (M := M) (a := a) (b := b) (s := bpFrom 0 rs ⟨false, ks, N, ss, S⟩), List.take_length]
end Hd
end
section
set_option linter.all false
set_option maxRecDepth 100000
set_option maxHeartbeats 1000000
namespace Hd
open PySem PySem.Spec PyProof.Rows L2 TV
def bpRound (rs : List Row) (s : Bp) : Bp := bpFrom 0 rs ⟨false, s.ks, s.N, s.ss, s.S⟩
def psettle (rs : List Row) : Nat → Bp → Bool × Bp
  | 0, s => (true, s)
  | R + 1, s => if (bpRound rs s).ch = true then psettle rs R (bpRound rs s) else (false, bpRound rs s)
theorem Two.ch {M : Mem} {a b : Nat} {s : Bp} (t : Two M a b s) (c : Bool) : Two M a b ⟨c, s.ks, s.N, s.ss, s.S⟩ := ⟨t.ha, t.hb, t.ne, t.kl, t.kn, t.sl, t.sn⟩
noncomputable abbrev setBody : FS := (sIf (TV.tNot (tVal (eArgs F_improved (aCons (eVar 0) (aCons (eVar 1) (aCons (eVar 2) aNil)))))) (sRet (eArgs gTuple (aCons (eVar 2) (aCons (eC (.bl false)) aNil)))) sNext)
theorem tup2 (p q : P) (M : Mem) : gTuple [p, q] M = .ok (.tup [p, q]) M := rfl
theorem settle_loop (rs : List Row) {a b : Nat} (h : ∀ r ∈ rs, r.1 < 12 ∧ r.2.1 < 12) (p3 : Option P) : ∀ (is : List P) (s : Bp) (M : Mem) (x4 : Option P), Two M a b s → Two (wr M a b (psettle rs is.length s).2) a b (psettle rs is.length s).2 ∧ ∃ y4,
    loopF (fun _ => true) (TV.gName 4) setBody is [some (.tup (rs.map rowP)), some (.loc a), some (.loc b), p3, x4] M =
      if (psettle rs is.length s).1 = true then .next [some (.tup (rs.map rowP)), some (.loc a), some (.loc b), p3, y4] (wr M a b (psettle rs is.length s).2) else .ret (.tup [.loc b, .bl false]) (wr M a b (psettle rs is.length s).2)
  | [], s, M, x4, t => by
    refine ⟨?_, x4, ?_⟩
    · show Two (wr M a b s) a b s
      rw [t.same]; exact t
    · show loopF _ _ _ _ _ _ = .next _ (wr M a b s)
      rw [t.same]
      unfold loopF
      simp
  | i :: is, s, M, x4, t => by
    obtain ⟨e, t'⟩ := improved_spec rs (t.ch false) h
    have hg : TV.gName 4 i [some (.tup (rs.map rowP)), some (.loc a), some (.loc b), p3, x4] = some [some (.tup (rs.map rowP)), some (.loc a), some (.loc b), p3, some i] := rfl
    have e : F_improved [.tup (rs.map rowP), .loc a, .loc b] M = .ok (.bl (bpRound rs s).ch) (wr M a b (bpRound rs s)) := e
    have t' : Two (wr M a b (bpRound rs s)) a b (bpRound rs s) := t'
    have hb : setBody [some (.tup (rs.map rowP)), some (.loc a), some (.loc b), p3, some i] M = if (bpRound rs s).ch = true then .next [some (.tup (rs.map rowP)), some (.loc a), some (.loc b), p3, some i] (wr M a b (bpRound rs s)) else .ret (.tup [.loc b, .bl false]) (wr M a b (bpRound rs s)) := by
      unfold setBody
      simp only [z_if, x_tnot, x_val, x_args, x_cons, x_v0, x_v1, x_v2, x_nil, b_ok, e, cVal_bl, s_ok]
      cases (bpRound rs s).ch
      · simp [tup2]
      · simp
    rw [loopF, if_pos rfl, hg]
    dsimp only
    rw [hb]
    by_cases c : (bpRound rs s).ch = true
    · have es : psettle rs (i :: is).length s = psettle rs is.length (bpRound rs s) := by
        show psettle rs (is.length + 1) s = _
        rw [psettle, if_pos c]
      obtain ⟨t2, y4, e2⟩ := settle_loop rs h p3 is (bpRound rs s) (wr M a b (bpRound rs s)) (some i) t'
      rw [wr_wr t.ne] at t2 e2
      rw [es, if_pos c, l_next]
      exact ⟨t2, y4, e2⟩
    · have es : psettle rs (i :: is).length s = (false, bpRound rs s) := by
        show psettle rs (is.length + 1) s = _
        rw [psettle, if_neg c]
      rw [es, if_neg c, l_ret]
      exact ⟨t', x4, by simp⟩
theorem gc_pair {M M' : Mem} {o : MO} {f : Bool} (k : Kept M M') (hl : M'[M.length]? = some o) (ho : o.locs = []) : gc M (.ok (.tup [.loc M.length, .bl f]) M') = .ok (.tup [.loc M.length, .bl f]) (M'.take M.length ++ [o]) := by
  have hlocs : (P.tup [.loc M.length, .bl f]).locs = [M.length] := rfl
  show gcOk _ _ _ = _
  unfold gcOk
  rw [if_neg]
  · rw [hlocs]
    have : [M.length].find? (fun k => decide (M.length ≤ k)) = some M.length := by simp
    rw [this]
    show gcL M _ M' M.length = _
    unfold gcL
    rw [hl]
    dsimp only
    rw [if_pos (ask_true ⟨k, by rw [hlocs]; intro j hj; exact .inr (List.mem_singleton.mp hj), ⟨fun j hj => (by rw [ho] at hj; cases hj), Nat.le_refl _⟩⟩)]
    have : (P.tup [.loc M.length, .bl f]).rn M.length M.length = .tup [.loc M.length, .bl f] := by simp [P.rn, rnL]
    rw [this]
  · rw [ask_iff]
    rintro ⟨_, z⟩
    rw [hlocs] at z
    have := z M.length (List.mem_singleton.mpr rfl)
    omega
theorem L3 {M2 : Mem} {l2 : Nat} {ps : List Nat} (g2 : M2[l2]? = some (.lst (ps.map pt))) : pLen [.loc l2] M2 = .ok (.int (ps.length : Nat)) M2 := by
  unfold pLen lenOf
  simp [g2]
theorem L1 {M2 : Mem} {a : Nat} {ks : List Nat} {N : Nat → Int} (g1 : M2[a]? = some (.dct (dm ks (di N)))) : pLen [.loc a] M2 = .ok (.int (ks.length : Nat)) M2 := by
  unfold pLen lenOf
  simp [g1, dm_len]
theorem hNN (a b : Nat) : ((a : Nat) + (b : Nat) + 1 : Int).toNat = a + b + 1 := by omega
theorem rng_one (i : Int) (h : inLine i) (M : Mem) : rng1 [.int i] M = .ok ⟨upto 0 i.toNat, fun _ => true⟩ M := by
  unfold rng1
  dsimp only
  rw [if_pos h]
theorem line_sum (a b : Nat) (ha : a ≤ 12) (hb : b ≤ 12) : inLine ((a : Int) + (b : Int) + 1) := by
  constructor <;> omega
theorem rounds_args {M2 : Mem} {a l1 l2 : Nat} {x y : Int} (g1 : pLen [.loc l2] M2 = .ok (.int x) M2) (g2 : pLen [.loc a] M2 = .ok (.int y) M2) (d : Option P) :
    aCons (eOp pAdd (eOp pAdd (eArgs pLen (aCons (eVar 3) aNil)) (eArgs pLen (aCons (eVar 1) aNil))) (eC (.int 1))) aNil [d, some (.loc a), some (.loc l1), some (.loc l2), none] M2 = .ok [.int (x + y + 1)] M2 := by
  simp only [x_cons, x_op, x_args, x_v3, x_v1, b_ok, x_nil, g1, g2, o_add, x_C]
theorem rounds_it {M2 : Mem} {a l1 l2 : Nat} {ps ks : List Nat} {N : Nat → Int} (g1 : M2[a]? = some (.dct (dm ks (di N)))) (g2 : M2[l2]? = some (.lst (ps.map pt))) (hp : ps.length ≤ 12) (hk : ks.length ≤ 12) (d : Option P) :
    iArgs rng1 (aCons (eOp pAdd (eOp pAdd (eArgs pLen (aCons (eVar 3) aNil)) (eArgs pLen (aCons (eVar 1) aNil))) (eC (.int 1))) aNil) [d, some (.loc a), some (.loc l1), some (.loc l2), none] M2 = .ok ⟨upto 0 (ps.length + ks.length + 1), fun _ => true⟩ M2 := by
  have e := rounds_args (l1 := l1) (L3 g2) (L1 g1) d
  have e2 : iArgs rng1 (aCons (eOp pAdd (eOp pAdd (eArgs pLen (aCons (eVar 3) aNil)) (eArgs pLen (aCons (eVar 1) aNil))) (eC (.int 1))) aNil) [d, some (.loc a), some (.loc l1), some (.loc l2), none] M2 = rng1 [.int ((ps.length : Int) + (ks.length : Int) + 1)] M2 := by
    unfold iArgs
    rw [e]
    exact b_ok _ _
  rw [e2, rng_one _ (line_sum _ _ hp hk), hNN]
theorem settled_run (rs : List Row) {M M2 : Mem} {a : Nat} {ks ps : List Nat} {N : Nat → Int} (hM2 : M2 = M ++ [.dct []] ++ [.lst (ps.map pt)]) (ep : F_points_of [.tup (rs.map rowP)] (M ++ [.dct []]) = .ok (.loc (M ++ [MO.dct []]).length) M2) (t : Two M2 a M.length ⟨false, ks, N, [], N⟩) (h : ∀ r ∈ rs, r.1 < 12 ∧ r.2.1 < 12) (hp : ps.length ≤ 12) (hk : ks.length ≤ 12) :
    m_settled [some (.tup (rs.map rowP)), some (.loc a), none, none, none] M = .ret (.tup [.loc M.length, .bl (psettle rs (ps.length + ks.length + 1) ⟨false, ks, N, [], N⟩).1]) (wr M2 a M.length (psettle rs (ps.length + ks.length + 1) ⟨false, ks, N, [], N⟩).2) := by
  obtain ⟨t2, y4, e⟩ := settle_loop rs h (some (.loc (M.length + 1))) (upto 0 (ps.length + ks.length + 1)) ⟨false, ks, N, [], N⟩ M2 none t
  have hul : (upto 0 (ps.length + ks.length + 1)).length = ps.length + ks.length + 1 := by unfold upto; simp
  rw [hul] at e
  generalize psettle rs (ps.length + ks.length + 1) ⟨false, ks, N, [], N⟩ = out at *
  obtain ⟨flag, s⟩ := out
  unfold m_settled
  rw [z_seq, z_par]
  have e0 : eDict0 [some (.tup (rs.map rowP)), some (.loc a), none, none, none] M = .ok (.loc M.length) (M ++ [.dct []]) := rfl
  rw [e0, s_ok, x_args, x_cons, x_v0, b_ok, x_nil, b_ok, b_ok, ep, s_ok, t_next]
  have hset : List.set (List.set [some (P.tup (rs.map rowP)), some (.loc a), none, none, none] 2 (some (.loc M.length))) 3 (some (.loc (M ++ [MO.dct []]).length)) = [some (P.tup (rs.map rowP)), some (.loc a), some (.loc M.length), some (.loc (M.length + 1)), none] := by simp
  have g2 : M2[M.length + 1]? = some (.lst (ps.map pt)) := by rw [hM2]; simp
  rw [hset, z_seq, z_for, rounds_it t.ha g2 hp hk, s_ok]
  dsimp only
  rw [e]
  cases flag
  · simp
  · simp [tup2]
end Hd
end
section
set_option linter.all false
set_option maxRecDepth 100000
set_option maxHeartbeats 1000000
namespace Hd
open PySem PySem.Spec PyProof.Rows L2 TV
theorem wr_split {M : Mem} {x y o : MO} {a : Nat} (alt : a < M.length) : ((M ++ [x] ++ [y]).set a o) = M.set a o ++ [x] ++ [y] := by
  rw [List.append_assoc, List.set_append_left _ _ alt, List.append_assoc]
theorem settled_spec (rs : List Row) (hr : ∀ r ∈ rs, okRow r) {M : Mem} {a : Nat} {ks : List Nat} {N : Nat → Int} (ha : M[a]? = some (.dct (dm ks (di N)))) (kl : ∀ i ∈ ks, i < 12) (kn : ks.Nodup) (h : ∀ r ∈ rs, r.1 < 12 ∧ r.2.1 < 12) :
    ∃ R, R = (ptsOf rs [0]).length + ks.length + 1 ∧ F_settled [.tup (rs.map rowP), .loc a] M = .ok (.tup [.loc M.length, .bl (psettle rs R ⟨false, ks, N, [], N⟩).1])
      (M.set a (.dct (dm (psettle rs R ⟨false, ks, N, [], N⟩).2.ks (di (psettle rs R ⟨false, ks, N, [], N⟩).2.N))) ++ [.dct (dm (psettle rs R ⟨false, ks, N, [], N⟩).2.ss (di (psettle rs R ⟨false, ks, N, [], N⟩).2.S))]) := by
  obtain ⟨ps, pp, _, ep⟩ := points_of_spec rs hr (M ++ [.dct []])
  have alt : a < M.length := (List.getElem?_eq_some_iff.mp ha).1
  have hlen := pp.length_eq
  refine ⟨ps.length + ks.length + 1, by rw [hlen], ?_⟩
  have hp : ps.length ≤ 12 := by rw [hlen]; exact small_len (ptsOf_lt hr (by simp)) (ptsOf_nodup (by simp))
  have g1 : (M ++ [MO.dct []] ++ [MO.lst (ps.map pt)])[a]? = some (.dct (dm ks (di N))) := by rw [List.append_assoc, List.getElem?_append_left alt]; exact ha
  have g2 : (M ++ [MO.dct []] ++ [MO.lst (ps.map pt)])[M.length]? = some (.dct (dm [] (di N))) := by simp [dm]
  have t : Two (M ++ [.dct []] ++ [.lst (ps.map pt)]) a M.length ⟨false, ks, N, [], N⟩ := ⟨g1, g2, Nat.ne_of_lt alt, kl, kn, by simp, by simp⟩
  have run := settled_run rs (M := M) (ps := ps) rfl ep t h hp (small_len kl kn)
  generalize psettle rs (ps.length + ks.length + 1) ⟨false, ks, N, [], N⟩ = out at *
  unfold F_settled mkF
  rw [if_pos (show [P.tup (rs.map rowP), .loc a].length = 2 from rfl)]
  have hst : startR 5 [P.tup (rs.map rowP), .loc a] = [some (.tup (rs.map rowP)), some (.loc a), none, none, none] := rfl
  rw [hst, run, f_ret]
  have hw : wr (M ++ [.dct []] ++ [.lst (ps.map pt)]) a M.length out.2 = M.set a (.dct (dm out.2.ks (di out.2.N))) ++ [.dct (dm out.2.ss (di out.2.S))] ++ [.lst (ps.map pt)] := by
    unfold wr
    rw [wr_split alt]
    simp
  rw [hw]
  have kp : Kept M (M.set a (.dct (dm out.2.ks (di out.2.N))) ++ [.dct (dm out.2.ss (di out.2.S))] ++ [.lst (ps.map pt)]) := by
    refine ⟨by simp, fun l hl => ?_⟩
    rw [List.append_assoc, List.getElem?_append_left (by simpa using hl)]
    by_cases e : a = l
    · subst e
      right
      intro o ho
      rw [List.getElem?_set_self hl] at ho
      cases ho
      intro k hk
      rw [dm_flat] at hk
      cases hk
    · left
      rw [List.getElem?_set_ne e]
  rw [gc_pair (o := .dct (dm out.2.ss (di out.2.S))) kp (by simp) (dm_flat _ _)]
  congr 1
  simp
end Hd
end
section
set_option linter.all false
set_option maxRecDepth 100000
set_option maxHeartbeats 1000000
namespace Hd
/-! ### where all points have numbers -/
structure Bf where
  ch : Bool
  N : Nat → Int
  ss : List Nat
  S : Nat → Int
def bfStep (s : Bf) (i : Nat) (r : Row) : Bf := if s.N r.2.1 + r.2.2 < s.N r.1 then ⟨true, up s.N r.1 (s.N r.2.1 + r.2.2), addPt s.ss r.1, up s.S r.1 i⟩ else s
def bfFrom : Nat → List Row → Bf → Bf
  | _, [], s => s
  | i, r :: rs, s => bfFrom (i + 1) rs (bfStep s i r)
def bfRound (rs : List Row) (s : Bf) : Bf := bfFrom 0 rs ⟨false, s.N, s.ss, s.S⟩
def settle (rs : List Row) : Nat → Bf → Bool × Bf
  | 0, s => (true, s)
  | R + 1, s => if (bfRound rs s).ch = true then settle rs R (bfRound rs s) else (false, bfRound rs s)
def full (ks : List Nat) (s : Bf) : Bp := ⟨s.ch, ks, s.N, s.ss, s.S⟩
theorem full_step {ks : List Nat} {s : Bf} {i : Nat} {r : Row} (h1 : r.1 ∈ ks) (h2 : r.2.1 ∈ ks) : bpStep (full ks s) i r = full ks (bfStep s i r) := by
  unfold bpStep bfStep full
  have e : addPt ks r.1 = ks := if_pos h1
  by_cases c : s.N r.2.1 + r.2.2 < s.N r.1
  · rw [if_pos ⟨h2, .inr c⟩, if_pos c]
    dsimp only
    rw [e]
  · rw [if_neg (fun z => z.2.elim (fun q => q h1) c), if_neg c]
theorem full_from {ks : List Nat} : ∀ (qs : List Row) (i : Nat) (s : Bf), (∀ r ∈ qs, r.1 ∈ ks ∧ r.2.1 ∈ ks) → bpFrom i qs (full ks s) = full ks (bfFrom i qs s)
  | [], _, _, _ => rfl
  | r :: qs, i, s, h => by
    unfold bpFrom bfFrom
    rw [full_step (h r List.mem_cons_self).1 (h r List.mem_cons_self).2]
    exact full_from qs (i + 1) _ fun q hq => h q (List.mem_cons_of_mem _ hq)
theorem full_settle {rs : List Row} {ks : List Nat} (h : ∀ r ∈ rs, r.1 ∈ ks ∧ r.2.1 ∈ ks) : ∀ (R : Nat) (s : Bf), psettle rs R (full ks s) = ((settle rs R s).1, full ks (settle rs R s).2)
  | 0, s => rfl
  | R + 1, s => by
    have e : bpRound rs (full ks s) = full ks (bfRound rs s) := full_from rs 0 ⟨false, s.N, s.ss, s.S⟩ h
    unfold psettle settle
    rw [e]
    by_cases c : (bfRound rs s).ch = true
    · rw [if_pos c, if_pos (show (full ks (bfRound rs s)).ch = true from c)]
      exact full_settle h R _
    · rw [if_neg c, if_neg (show ¬ (full ks (bfRound rs s)).ch = true from c)]
/-! ### Bellman and Ford -/
structure BInv (rs : List Row) (s : Bf) : Prop where
  pre : ∀ u ∈ s.ss, ∃ (i : Nat) (r : Row), s.S u = i ∧ rs[i]? = some r ∧ r.1 = u ∧ s.N r.2.1 + r.2.2 ≤ s.N u
  zero : ∀ u, u ∉ s.ss → s.N u = 0
theorem BInv.step {rs : List Row} {s : Bf} (h : BInv rs s) {i : Nat} {r : Row} (hi : rs[i]? = some r) : BInv rs (bfStep s i r) ∧ ∀ u, (bfStep s i r).N u ≤ s.N u := by
  unfold bfStep
  by_cases c : s.N r.2.1 + r.2.2 < s.N r.1
  · rw [if_pos c]
    have le : ∀ u, up s.N r.1 (s.N r.2.1 + r.2.2) u ≤ s.N u := by
      intro u
      unfold up
      split
      · rename_i e; subst e; omega
      · exact Int.le_refl _
    refine ⟨⟨fun u hu => ?_, fun u hu => ?_⟩, le⟩
    · by_cases e : u = r.1
      · subst e
        refine ⟨i, r, ?_, hi, rfl, ?_⟩
        · show up s.S r.1 i r.1 = i
          unfold up; rw [if_pos rfl]
        · show up s.N r.1 _ r.2.1 + r.2.2 ≤ up s.N r.1 _ r.1
          have h1 := le r.2.1
          have h2 : up s.N r.1 (s.N r.2.1 + r.2.2) r.1 = s.N r.2.1 + r.2.2 := by unfold up; rw [if_pos rfl]
          rw [h2]
          omega
      · have hu' : u ∈ s.ss := by
          rcases addPt_mem.mp hu with z | z
          · exact z
          · exact absurd z e
        obtain ⟨j, q, a1, a2, a3, a4⟩ := h.pre u hu'
        refine ⟨j, q, ?_, a2, a3, ?_⟩
        · show up s.S r.1 i u = j
          unfold up; rw [if_neg e]; exact a1
        · show up s.N r.1 _ q.2.1 + q.2.2 ≤ up s.N r.1 _ u
          have h1 := le q.2.1
          have h2 : up s.N r.1 (s.N r.2.1 + r.2.2) u = s.N u := by unfold up; rw [if_neg e]
          rw [h2]
          omega
    · have hu' : u ∉ s.ss ∧ u ≠ r.1 := ⟨fun z => hu (addPt_mem.mpr (.inl z)), fun z => hu (addPt_mem.mpr (.inr z))⟩
      show up s.N r.1 _ u = 0
      unfold up
      rw [if_neg hu'.2]
      exact h.zero u hu'.1
  · rw [if_neg c]
    exact ⟨h, fun u => Int.le_refl _⟩
end Hd
end
section
set_option linter.all false
set_option maxRecDepth 100000
set_option maxHeartbeats 1000000
namespace Hd
theorem BInv.from {rs : List Row} : ∀ (qs : List Row) (i : Nat) (s : Bf), (∀ (k : Nat) (r : Row), qs[k]? = some r → rs[i + k]? = some r) → BInv rs s → BInv rs (bfFrom i qs s) ∧ ∀ u, (bfFrom i qs s).N u ≤ s.N u
  | [], _, s, _, h => ⟨h, fun _ => Int.le_refl _⟩
  | r :: qs, i, s, hq, h => by
    obtain ⟨h1, l1⟩ := h.step (hq 0 r rfl)
    obtain ⟨h2, l2⟩ := BInv.from qs (i + 1) (bfStep s i r) (fun k q hk => by
      have := hq (k + 1) q (by simpa using hk)
      rwa [show i + (k + 1) = i + 1 + k by omega] at this) h1
    exact ⟨h2, fun u => Int.le_trans (l2 u) (l1 u)⟩
theorem step_le {s : Bf} {i : Nat} {r : Row} : (bfStep s i r).N r.1 ≤ s.N r.2.1 + r.2.2 := by
  unfold bfStep
  split
  · show up s.N r.1 _ r.1 ≤ _
    unfold up; rw [if_pos rfl]; exact Int.le_refl _
  · omega
theorem step_mono {s : Bf} {i : Nat} {r : Row} (u : Nat) : (bfStep s i r).N u ≤ s.N u := by
  unfold bfStep
  split
  · show up s.N r.1 _ u ≤ _
    unfold up
    split
    · rename_i e; subst e; omega
    · exact Int.le_refl _
  · exact Int.le_refl _
theorem from_mono : ∀ (qs : List Row) (i : Nat) (s : Bf) (u : Nat), (bfFrom i qs s).N u ≤ s.N u
  | [], _, _, _ => Int.le_refl _
  | r :: qs, i, s, u => Int.le_trans (from_mono qs (i + 1) (bfStep s i r) u) (step_mono u)
theorem from_le : ∀ (qs : List Row) (i : Nat) (s : Bf) (r : Row), r ∈ qs → (bfFrom i qs s).N r.1 ≤ s.N r.2.1 + r.2.2
  | [], _, _, _, h => nomatch h
  | q :: qs, i, s, r, h => by
    rcases List.mem_cons.mp h with rfl | h
    · exact Int.le_trans (from_mono qs (i + 1) (bfStep s i r) r.1) step_le
    · have h1 := from_le qs (i + 1) (bfStep s i q) r h
      have h2 := step_mono (s := s) (i := i) (r := q) r.2.1
      show (bfFrom (i + 1) qs (bfStep s i q)).N r.1 ≤ _
      omega
/-- walks of k rows that end at u, with their sums -/
inductive Walk (rs : List Row) : Nat → Nat → Int → Prop
  | nil (u : Nat) : Walk rs 0 u 0
  | step {k : Nat} {w : Int} {r : Row} : r ∈ rs → Walk rs k r.2.1 w → Walk rs (k + 1) r.1 (w + r.2.2)
def Below (rs : List Row) (m : Nat) (N : Nat → Int) : Prop := ∀ k, k ≤ m → ∀ u w, Walk rs k u w → N u ≤ w
theorem Below.round {rs : List Row} {m : Nat} {s : Bf} (h : Below rs m s.N) : Below rs (m + 1) (bfRound rs s).N := by
  intro k hk u w hw
  by_cases e : k ≤ m
  · exact Int.le_trans (from_mono rs 0 ⟨false, s.N, s.ss, s.S⟩ u) (h k e u w hw)
  · have : k = m + 1 := by omega
    subst this
    cases hw with
    | @step _ w' r hr hw' =>
      have h1 := from_le rs 0 ⟨false, s.N, s.ss, s.S⟩ r hr
      have h2 := h m (Nat.le_refl _) _ _ hw'
      show (bfFrom 0 rs ⟨false, s.N, s.ss, s.S⟩).N r.1 ≤ _
      have h1 : (bfFrom 0 rs ⟨false, s.N, s.ss, s.S⟩).N r.1 ≤ s.N r.2.1 + r.2.2 := h1
      omega
end Hd
end
section
set_option linter.all false
set_option maxRecDepth 100000
set_option maxHeartbeats 1000000
namespace Hd
/-- where a step leads -/
def nx (rs : List Row) (s : Bf) (u : Nat) : Nat := match rs[(s.S u).toNat]? with
  | some r => r.2.1
  | none => 0
/-- the chain from u leaves the steps after k turns -/
inductive Ends (rs : List Row) (s : Bf) : Nat → Nat → Prop
  | here {u : Nat} : u ∉ s.ss → Ends rs s 0 u
  | on {k u : Nat} : u ∈ s.ss → Ends rs s k (nx rs s u) → Ends rs s (k + 1) u
theorem BInv.next {rs : List Row} {s : Bf} (h : BInv rs s) {u : Nat} (hu : u ∈ s.ss) : ∃ r ∈ rs, r.1 = u ∧ nx rs s u = r.2.1 ∧ s.N r.2.1 + r.2.2 ≤ s.N u := by
  obtain ⟨i, r, h1, h2, h3, h4⟩ := h.pre u hu
  refine ⟨r, List.mem_of_getElem? h2, h3, ?_, h4⟩
  unfold nx
  rw [h1, Int.toNat_natCast, h2]
theorem Ends.walk {rs : List Row} {s : Bf} (h : BInv rs s) {k u : Nat} (e : Ends rs s k u) : ∃ w, Walk rs k u w ∧ w ≤ s.N u := by
  induction e with
  | @here u hu => exact ⟨0, .nil u, by rw [h.zero u hu]; exact Int.le_refl _⟩
  | @on k u hu _ ih =>
    obtain ⟨r, hr, rfl, e, hle⟩ := h.next hu
    rw [e] at ih
    obtain ⟨w, hw, hl⟩ := ih
    exact ⟨w + r.2.2, .step hr hw, by omega⟩
end Hd
end
section
set_option linter.all false
set_option maxRecDepth 100000
set_option maxHeartbeats 1000000
namespace Hd
/-- a round that tells a change has made some number smaller -/
theorem from_ch : ∀ (qs : List Row) (i : Nat) (s : Bf), (bfFrom i qs s).ch = true → s.ch = true ∨ ∃ u, (bfFrom i qs s).N u < s.N u
  | [], _, s, h => .inl h
  | r :: qs, i, s, h => by
    rcases from_ch qs (i + 1) (bfStep s i r) h with h1 | ⟨u, h1⟩
    · unfold bfStep at h1
      by_cases c : s.N r.2.1 + r.2.2 < s.N r.1
      · right
        refine ⟨r.1, ?_⟩
        have h2 := from_mono qs (i + 1) (bfStep s i r) r.1
        have h3 : (bfStep s i r).N r.1 ≤ s.N r.2.1 + r.2.2 := step_le
        show (bfFrom (i + 1) qs (bfStep s i r)).N r.1 < _
        omega
      · rw [if_neg c] at h1
        exact .inl h1
    · right
      refine ⟨u, ?_⟩
      have h2 := step_mono (s := s) (i := i) (r := r) u
      show (bfFrom (i + 1) qs (bfStep s i r)).N u < _
      omega
theorem round_ch {rs : List Row} {s : Bf} (h : (bfRound rs s).ch = true) : ∃ u, (bfRound rs s).N u < s.N u := by
  rcases from_ch rs 0 ⟨false, s.N, s.ss, s.S⟩ h with z | z
  · cases z
  · exact z
theorem BInv.round {rs : List Row} {s : Bf} (h : BInv rs s) : BInv rs (bfRound rs s) :=
  (BInv.from rs 0 ⟨false, s.N, s.ss, s.S⟩ (fun k r hk => by rw [Nat.zero_add]; exact hk) ⟨h.pre, h.zero⟩).1
/-- after a change in a round behind m rounds, some chain doesn't end within m turns -/
theorem no_end {rs : List Row} {m : Nat} {s : Bf} (hB : Below rs m s.N) (h : BInv rs s) (hc : (bfRound rs s).ch = true) : ∃ u, ∀ k, k ≤ m → ¬ Ends rs (bfRound rs s) k u := by
  obtain ⟨u, hu⟩ := round_ch hc
  refine ⟨u, fun k hk e => ?_⟩
  obtain ⟨w, hw, hl⟩ := e.walk h.round
  have := hB k hk u w hw
  omega
end Hd
end
section
set_option linter.all false
set_option maxRecDepth 100000
set_option maxHeartbeats 1000000
namespace Hd
theorem settle_true {rs : List Row} : ∀ (R m : Nat) (s : Bf), Below rs m s.N → BInv rs s → (settle rs (R + 1) s).1 = true → BInv rs (settle rs (R + 1) s).2 ∧ ∃ u, ∀ k, k ≤ m + R → ¬ Ends rs (settle rs (R + 1) s).2 k u
  | R, m, s, hB, h, ht => by
    unfold settle at ht ⊢
    by_cases c : (bfRound rs s).ch = true
    · rw [if_pos c] at ht ⊢
      cases R with
      | zero => exact ⟨h.round, no_end hB h c⟩
      | succ R =>
        obtain ⟨h1, u, h2⟩ := settle_true R (m + 1) (bfRound rs s) hB.round h.round ht
        exact ⟨h1, u, fun k hk => h2 k (by omega)⟩
    · rw [if_neg c] at ht
      cases ht
end Hd
end
section
set_option linter.all false
set_option maxRecDepth 100000
set_option maxHeartbeats 1000000
namespace Hd
open PySem PySem.Spec PyProof.Rows L2 TV
/-- {point: .. for point in points} -/
theorem dc_loop {guard : Mem → Bool} {fv : FE} {ρ : Rho} {M : Mem} {g : Nat → Int} {i : Nat} (hg : ∀ kvs, guard (M ++ [.dct kvs]) = true) (hv : ∀ j < 12, ∀ kvs, eVar i ((wipeR ρ [i]).set i (some (pt j))) (M ++ [.dct kvs]) = .ok (pt j) (M ++ [.dct kvs])) : ∀ (js ks : List Nat) (f : Nat → Int),
    (∀ j ∈ js, ∀ kvs, fv ((wipeR ρ [i]).set i (some (pt j))) (M ++ [.dct kvs]) = .ok (.int (g j)) (M ++ [.dct kvs])) → (∀ j ∈ js, j < 12) → (∀ j ∈ ks, j < 12) → (ks ++ js).Nodup → (∀ j ∈ ks, f j = g j) →
    dcLoop guard (TV.gName i) tYesF (eVar i) fv M.length (wipeR ρ [i]) (js.map pt) (M ++ [.dct (dm ks (di f))]) = .ok (.loc M.length) (M ++ [.dct (dm (ks ++ js) (di g))])
  | [], ks, f, _, _, _, _, hf => by
    have e : dm ks (di f) = dm ks (di g) := by
      unfold dm di
      apply List.map_congr_left
      intro j hj
      rw [hf j hj]
    rw [List.map_nil, dcLoop, if_pos (hg _), List.append_nil, e]
  | j :: js, ks, f, hfv, hl, hk, nd, hf => by
    have hj := hl j List.mem_cons_self
    have nin : j ∉ ks := fun z => by
      have := List.nodup_append.mp nd
      exact this.2.2 j z j List.mem_cons_self rfl
    have ndk : ks.Nodup := (List.nodup_append.mp nd).1
    have get : (M ++ [MO.dct (dm ks (di f))])[M.length]? = some (.dct (dm ks (di f))) := by simp
    rw [List.map_cons, dcLoop, if_pos (hg _)]
    show dcItem tYesF (eVar i) fv M.length ((wipeR ρ [i]).set i (some (pt j))) _ _ = _
    unfold dcItem
    show (match eVar i _ _ with | .ok k M2 => _ | _ => _) = _
    rw [hv j hj]
    dsimp only
    rw [hfv j List.mem_cons_self]
    dsimp only
    rw [get, key_pt]
    dsimp only
    rw [if_pos ⟨key_dep j, by rw [dm_len]; exact Nat.lt_of_le_of_lt (small_len hk ndk) line5⟩, put_dm hk hj, up_di]
    have hadd : addPt ks j = ks ++ [j] := if_neg nin
    have hset : ∀ x, (M ++ [MO.dct (dm ks (di f))]).set M.length x = M ++ [x] := fun x => by simp
    rw [hadd, hset, dc_loop hg hv js (ks ++ [j]) (up f j (g j)) (fun q hq => hfv q (List.mem_cons_of_mem _ hq)) (fun q hq => hl q (List.mem_cons_of_mem _ hq)) (fun q hq => by
      rcases List.mem_append.mp hq with z | z
      · exact hk q z
      · rw [List.mem_singleton.mp z]; exact hj) (by simpa using nd) (fun q hq => by
      unfold up
      split
      · rename_i e; rw [e]
      · rcases List.mem_append.mp hq with z | z
        · exact hf q z
        · exact absurd (List.mem_singleton.mp z) (by assumption))]
    simp
end Hd
end
section
set_option linter.all false
set_option maxRecDepth 100000
set_option maxHeartbeats 1000000
namespace Hd
open PySem PySem.Spec PyProof.Rows L2 TV
/-! ### the chains of last steps, in plain -/
def it (rs : List Row) (s : Bf) : Nat → Nat → Nat
  | 0, u => u
  | k + 1, u => it rs s k (nx rs s u)
theorem it_add (rs : List Row) (s : Bf) : ∀ (j k u : Nat), it rs s (j + k) u = it rs s j (it rs s k u)
  | j, 0, u => rfl
  | j, k + 1, u => it_add rs s j k (nx rs s u)
theorem it_succ (rs : List Row) (s : Bf) (k u : Nat) : it rs s (k + 1) u = nx rs s (it rs s k u) := by
  rw [Nat.add_comm, it_add]
  rfl
/-- the first while: the points seen, in order, and the point at its end -/
def chase (rs : List Row) (s : Bf) : Nat → List Nat → Nat → List Nat × Nat
  | 0, seen, u => (seen, u)
  | n + 1, seen, u => if u ∈ s.ss ∧ u ∉ seen then chase rs s n (addPt seen u) (nx rs s u) else (seen, u)
/-- seen is the chain from u0, and u comes next -/
def OnChain (rs : List Row) (s : Bf) (u0 : Nat) (seen : List Nat) (u : Nat) : Prop :=
  seen = (List.range seen.length).map (fun i => it rs s i u0) ∧ u = it rs s seen.length u0 ∧ ∀ x ∈ seen, x ∈ s.ss
theorem chase_on {rs : List Row} {s : Bf} {u0 : Nat} : ∀ (n : Nat) (seen : List Nat) (u : Nat), OnChain rs s u0 seen u → seen.Nodup →
    OnChain rs s u0 (chase rs s n seen u).1 (chase rs s n seen u).2 ∧ (chase rs s n seen u).1.Nodup
  | 0, seen, u, h, nd => ⟨h, nd⟩
  | n + 1, seen, u, h, nd => by
    unfold chase
    by_cases c : u ∈ s.ss ∧ u ∉ seen
    · rw [if_pos c]
      have e : addPt seen u = seen ++ [u] := if_neg c.2
      refine chase_on n _ _ ?_ (addPt_nodup nd)
      obtain ⟨h1, h2, h3⟩ := h
      rw [e]
      refine ⟨?_, ?_, ?_⟩
      · rw [List.length_append, List.length_singleton, List.range_succ, List.map_append, ← h1, List.map_singleton, ← h2]
      · rw [List.length_append, List.length_singleton, it_succ, ← h2]
      · intro x hx
        rcases List.mem_append.mp hx with z | z
        · exact h3 x z
        · rw [List.mem_singleton.mp z]; exact c.1
    · rw [if_neg c]
      exact ⟨h, nd⟩
theorem chase_end {rs : List Row} {s : Bf} (hs : ∀ u ∈ s.ss, u < 12) : ∀ (n : Nat) (seen : List Nat) (u : Nat), seen.Nodup → (∀ x ∈ seen, x ∈ s.ss) → 12 < seen.length + n →
    (chase rs s n seen u).2 ∉ s.ss ∨ (chase rs s n seen u).2 ∈ (chase rs s n seen u).1
  | 0, seen, u, nd, hin, hl => by
    have := few 12 (ks := seen) (fun i hi => hs i (hin i hi)) nd
    omega
  | n + 1, seen, u, nd, hin, hl => by
    unfold chase
    by_cases c : u ∈ s.ss ∧ u ∉ seen
    · rw [if_pos c]
      have e : addPt seen u = seen ++ [u] := if_neg c.2
      refine chase_end hs n _ _ (addPt_nodup nd) ?_ (by rw [e, List.length_append, List.length_singleton]; omega)
      intro x hx
      rcases addPt_mem.mp hx with z | z
      · exact hin x z
      · rw [z]; exact c.1
    · rw [if_neg c]
      by_cases h1 : u ∈ s.ss
      · right
        by_cases h2 : u ∈ seen
        · exact h2
        · exact absurd ⟨h1, h2⟩ c
      · exact .inl h1
theorem ends_of {rs : List Row} {s : Bf} : ∀ (k u : Nat), (∀ j, j < k → it rs s j u ∈ s.ss) → it rs s k u ∉ s.ss → Ends rs s k u
  | 0, u, _, h => .here h
  | k + 1, u, hj, h => .on (hj 0 (Nat.succ_pos k)) (ends_of k (nx rs s u) (fun j hjk => hj (j + 1) (Nat.succ_lt_succ hjk)) h)
theorem OnChain.at {rs : List Row} {s : Bf} {u0 u : Nat} {seen : List Nat} (h : OnChain rs s u0 seen u) : ∀ j, j < seen.length → it rs s j u0 ∈ seen := by
  intro j hj
  rw [h.1]
  exact List.mem_map.mpr ⟨j, List.mem_range.mpr hj, rfl⟩
/-- a chain that meets itself holds a ring -/
theorem OnChain.ring {rs : List Row} {s : Bf} {u0 u : Nat} {seen : List Nat} (h : OnChain rs s u0 seen u) (hm : u ∈ seen) : ∃ p, 1 ≤ p ∧ p ≤ seen.length ∧ it rs s p u = u ∧ ∀ j, j < p → it rs s j u ∈ s.ss := by
  have hm2 := hm
  rw [h.1] at hm2
  obtain ⟨i, hi, e⟩ := List.mem_map.mp hm2
  have hi := List.mem_range.mp hi
  refine ⟨seen.length - i, by omega, by omega, ?_, fun j hj => ?_⟩
  · rw [← e, ← it_add]
    rw [show seen.length - i + i = seen.length by omega, ← h.2.1, e]
  · rw [← e, ← it_add]
    exact h.2.2 _ (h.at (j + i) (by omega))
end Hd
end
section
set_option linter.all false
set_option maxRecDepth 100000
set_option maxHeartbeats 1000000
namespace Hd
open PySem PySem.Spec PyProof.Rows L2 TV
/-- what the walks of ring_in stand on -/
structure Steps (rs : List Row) (s : Bf) (M : Mem) (b : Nat) : Prop where
  inv : BInv rs s
  rows : ∀ r ∈ rs, okRow r
  get : M[b]? = some (.dct (dm s.ss (di s.S)))
  lt : ∀ u ∈ s.ss, u < 12
  nd : s.ss.Nodup
theorem Steps.more {rs : List Row} {s : Bf} {M : Mem} {b : Nat} (h : Steps rs s M b) (G : Mem) : Steps rs s (M ++ G) b :=
  ⟨h.inv, h.rows, by rw [List.getElem?_append_left (List.getElem?_eq_some_iff.mp h.get).1]; exact h.get, h.lt, h.nd⟩
theorem atI_nat {α : Type} {xs : List α} {i : Nat} {x : α} (h : xs[i]? = some x) : atI xs (i : Int) = some x := by
  unfold atI ixN
  have hl : i < xs.length := (List.getElem?_eq_some_iff.mp h).1
  rw [if_pos (Int.natCast_nonneg i), if_pos (by omega)]
  simpa using h
theorem ix_tup {ps : List P} {i : Int} {x : P} (h : atI ps i = some x) (M : Mem) : pIx (.tup ps) (.int i) M = .ok x M := by
  have e : pIxO (.tup ps) (.int i) M = some x := h
  unfold pIx
  rw [e]
theorem ix_rows {rs : List Row} {i : Nat} {r : Row} (h : rs[i]? = some r) (M : Mem) : pIx (.tup (rs.map rowP)) (.int (i : Nat)) M = .ok (rowP r) M :=
  ix_tup (atI_nat (by simp [h])) M
/-- differences[steps[point]][1] -/
theorem Steps.go {rs : List Row} {s : Bf} {M : Mem} {b : Nat} (h : Steps rs s M b) {u : Nat} (hu : u ∈ s.ss) :
    nx rs s u < 12 ∧ pIx (.loc b) (pt u) M = .ok (.int (s.S u)) M ∧ ∃ r, pIx (.tup (rs.map rowP)) (.int (s.S u)) M = .ok (rowP r) M ∧ pIx (rowP r) (.int 1) M = .ok (pt (nx rs s u)) M := by
  obtain ⟨i, r, h1, h2, h3, h4⟩ := h.inv.pre u hu
  have e : nx rs s u = r.2.1 := by
    unfold nx
    rw [h1, Int.toNat_natCast, h2]
  refine ⟨by rw [e]; exact (h.rows r (List.mem_of_getElem? h2)).2.1, ix_dm h.get h.lt (h.lt u hu) hu, r, ?_, ?_⟩
  · rw [h1]; exact ix_rows h2 M
  · rw [e]; rfl
abbrev chTest : FT := (TV.tAnd (tVal (eOp (pIn false) (eVar 2) (eVar 1))) (tVal (eOp (pIn true) (eVar 2) (eVar 4))))
abbrev chBody : FS := (sSeq (sStore (eC (.bl true)) (eVar 4) (eVar 2))
    (sAsg (eOp pIx (eOp pIx (eVar 0) (eOp pIx (eVar 1) (eVar 2))) (eC (.int 1))) (TV.gName 2)))
theorem chase_loop {rs : List Row} {s : Bf} {M : Mem} {b : Nat} (h : Steps rs s M b) (x3 x5 x6 : Option P) : ∀ (n : Nat) (k : Nat) (seen : List Nat) (u : Nat), (∀ x ∈ seen, x ∈ s.ss) → seen.Nodup → u < 12 → 12 < seen.length + n →
    (chase rs s n seen u).2 < 12 ∧ sWhile chTest chBody (n + k) [some (.tup (rs.map rowP)), some (.loc b), some (pt u), x3, some (.loc M.length), x5, x6] (M ++ [.dct (dm seen tt)]) =
      .next [some (.tup (rs.map rowP)), some (.loc b), some (pt (chase rs s n seen u).2), x3, some (.loc M.length), x5, x6] (M ++ [.dct (dm (chase rs s n seen u).1 tt)])
  | 0, k, seen, u, hin, nd, hu, hl => by
    have := few 12 (ks := seen) (fun i hi => h.lt i (hin i hi)) nd
    omega
  | n + 1, k, seen, u, hin, nd, hu, hl => by
    have sl : ∀ i ∈ seen, i < 12 := fun i hi => h.lt i (hin i hi)
    have h' := h.more [.dct (dm seen tt)]
    have g : (M ++ [MO.dct (dm seen tt)])[M.length]? = some (.dct (dm seen tt)) := by simp
    have i1 := in_dm h'.get h.lt hu
    have i2 := notin_dm g sl hu
    have test : chTest [some (.tup (rs.map rowP)), some (.loc b), some (pt u), x3, some (.loc M.length), x5, x6] (M ++ [.dct (dm seen tt)]) = .ok (decide (u ∈ s.ss ∧ u ∉ seen)) (M ++ [.dct (dm seen tt)]) := by
      unfold chTest
      simp only [x_tand, x_val, x_op, x_v1, x_v2, x_v4, b_ok, i1, i2, cVal_bl]
      by_cases c1 : u ∈ s.ss <;> by_cases c2 : u ∈ seen <;> simp [c1, c2]
    rw [show n + 1 + k = (n + k) + 1 by omega, sWhile, test, s_ok]
    unfold chase
    by_cases c : u ∈ s.ss ∧ u ∉ seen
    · rw [if_pos c, if_pos (by simpa using c)]
      have st := store_dm (v := .bl true) g sl nd hu
      have set : ∀ x, (M ++ [MO.dct (dm seen tt)]).set M.length x = M ++ [x] := fun x => by simp
      rw [set, up_tt] at st
      obtain ⟨l2, q1, r, q2, q3⟩ := (h.more [.dct (dm (addPt seen u) tt)]).go c.1
      have e : addPt seen u = seen ++ [u] := if_neg c.2
      have ih := chase_loop h x3 x5 x6 n k (addPt seen u) (nx rs s u) (fun x hx => by
        rcases addPt_mem.mp hx with z | z
        · exact hin x z
        · rw [z]; exact c.1) (addPt_nodup nd) l2 (by rw [e, List.length_append, List.length_singleton]; omega)
      refine ⟨ih.1, ?_⟩
      have body : chBody [some (.tup (rs.map rowP)), some (.loc b), some (pt u), x3, some (.loc M.length), x5, x6] (M ++ [.dct (dm seen tt)]) = .next [some (.tup (rs.map rowP)), some (.loc b), some (pt (nx rs s u)), x3, some (.loc M.length), x5, x6] (M ++ [.dct (dm (addPt seen u) tt)]) := by
        unfold chBody
        rw [z_seq, z_store (v := .bl true) (o := .loc M.length) (i := pt u) rfl rfl rfl st, t_next]
        simp only [z_asg, x_op, x_v0, x_v1, x_v2, x_C, b_ok, q1, q2, q3, s_ok]
        rfl
      rw [body, l_next]
      exact ih.2
    · rw [if_neg c, if_neg (by simpa using c)]
      exact ⟨hu, rfl⟩
abbrev startBody : FS := (sSeq (sPar 4 2 eDict0 (eVar 3))
    (sSeq (sWhile chTest chBody 100)
    (sIf (tVal (eOp (pIn false) (eVar 2) (eVar 4))) sBreak sNext)))
/-- one start -/
theorem start_turn {rs : List Row} {s : Bf} {M : Mem} {b : Nat} (h : Steps rs s M b) (u0 : Nat) (hu0 : u0 ∈ s.ss) (x2 x4 x5 x6 : Option P) : ∃ (seen : List Nat) (u : Nat), u < 12 ∧ OnChain rs s u0 seen u ∧ seen.Nodup ∧ (u ∉ s.ss ∨ u ∈ seen) ∧
    startBody [some (.tup (rs.map rowP)), some (.loc b), x2, some (pt u0), x4, x5, x6] M =
      if u ∈ seen then .brk [some (.tup (rs.map rowP)), some (.loc b), some (pt u), some (pt u0), some (.loc M.length), x5, x6] (M ++ [.dct (dm seen tt)])
      else .next [some (.tup (rs.map rowP)), some (.loc b), some (pt u), some (pt u0), some (.loc M.length), x5, x6] (M ++ [.dct (dm seen tt)]) := by
  have hn : ([] : List Nat).Nodup := List.nodup_nil
  obtain ⟨oc, nd⟩ := chase_on (rs := rs) (s := s) (u0 := u0) 13 [] u0 ⟨rfl, rfl, by simp⟩ hn
  have ce := chase_end (rs := rs) h.lt 13 [] u0 hn (by simp) (by simp)
  obtain ⟨cl, ch⟩ := chase_loop h (some (pt u0)) x5 x6 13 87 [] u0 (by simp) hn (h.lt u0 hu0) (by simp)
  generalize chase rs s 13 [] u0 = out at *
  obtain ⟨seen, u⟩ := out
  refine ⟨seen, u, cl, oc, nd, ce, ?_⟩
  unfold startBody
  rw [z_seq, z_par]
  have e0 : ∀ ρ, eDict0 ρ M = .ok (.loc M.length) (M ++ [.dct []]) := fun _ => rfl
  rw [e0, s_ok, x_v3, s_ok, t_next]
  have hset : List.set (List.set [some (P.tup (rs.map rowP)), some (.loc b), x2, some (pt u0), x4, x5, x6] 4 (some (.loc M.length))) 2 (some (pt u0)) = [some (P.tup (rs.map rowP)), some (.loc b), some (pt u0), some (pt u0), some (.loc M.length), x5, x6] := rfl
  have ch : sWhile chTest chBody 100 [some (.tup (rs.map rowP)), some (.loc b), some (pt u0), some (pt u0), some (.loc M.length), x5, x6] (M ++ [.dct []]) = _ := ch
  rw [hset, z_seq, ch, t_next]
  have g : (M ++ [MO.dct (dm seen tt)])[M.length]? = some (.dct (dm seen tt)) := by simp
  have i1 := in_dm (j := u) g (fun i hi => h.lt i (oc.2.2 i hi)) cl
  simp only [z_if, x_val, x_op, x_v2, x_v4, b_ok, i1, cVal_bl, s_ok]
  by_cases c : u ∈ seen <;> simp [c]
/-- all starts, until a chain meets itself -/
theorem sub_len : ∀ (l m : List Nat), l.Nodup → (∀ x ∈ l, x ∈ m) → l.length ≤ m.length
  | [], m, _, _ => Nat.zero_le _
  | a :: l, m, nd, h => by
    have ha := h a List.mem_cons_self
    have nd' := List.nodup_cons.mp nd
    have e := List.length_erase_of_mem ha
    have pos : 0 < m.length := List.length_pos_of_mem ha
    have ih := sub_len l (m.erase a) nd'.2 (fun x hx => by
      have ne : x ≠ a := fun z => nd'.1 (z ▸ hx)
      exact (List.mem_erase_of_ne ne).mpr (h x (List.mem_cons_of_mem _ hx)))
    rw [List.length_cons]
    omega
theorem starts_loop {rs : List Row} {s : Bf} {b : Nat} {K : Nat} (hK : s.ss.length ≤ K) {guard : Mem → Bool} (hg : ∀ M', M'[b]? = some (.dct (dm s.ss (di s.S))) → guard M' = true) (x5 x6 : Option P) : ∀ (us : List Nat) (M : Mem) (x2 x3 x4 : Option P), Steps rs s M b → (∀ u ∈ us, u ∈ s.ss) →
    (∃ u0 ∈ us, ∀ k, k ≤ K → ¬ Ends rs s k u0) → ∃ (u : Nat) (G : Mem) (y3 y4 : Option P) (p : Nat), u < 12 ∧ 1 ≤ p ∧ p ≤ 12 ∧ it rs s p u = u ∧ (∀ j, j < p → it rs s j u ∈ s.ss) ∧
    loopF guard (TV.gName 3) startBody (us.map pt) [some (.tup (rs.map rowP)), some (.loc b), x2, x3, x4, x5, x6] M = .next [some (.tup (rs.map rowP)), some (.loc b), some (pt u), y3, y4, x5, x6] (M ++ G)
  | [], M, x2, x3, x4, h, _, he => by
    obtain ⟨u0, z, _⟩ := he
    cases z
  | u1 :: us, M, x2, x3, x4, h, hin, he => by
    obtain ⟨seen, u, ul, oc, nd, ce, e⟩ := start_turn h u1 (hin u1 List.mem_cons_self) x2 x4 x5 x6
    have hg1 : TV.gName 3 (pt u1) [some (.tup (rs.map rowP)), some (.loc b), x2, x3, x4, x5, x6] = some [some (.tup (rs.map rowP)), some (.loc b), x2, some (pt u1), x4, x5, x6] := rfl
    have sl : seen.length ≤ 12 := few 12 (fun i hi => h.lt i (oc.2.2 i hi)) nd
    by_cases c : u ∈ seen
    · obtain ⟨p, p1, p2, p3, p4⟩ := oc.ring c
      refine ⟨u, [.dct (dm seen tt)], some (pt u1), some (.loc M.length), p, ul, p1, by omega, p3, p4, ?_⟩
      rw [List.map_cons, loopF, if_pos (hg M h.get), hg1]
      dsimp only
      rw [e, if_pos c, l_brk]
    · have hend : Ends rs s seen.length u1 := by
        rcases ce with z | z
        · refine ends_of _ _ (fun j hj => oc.2.2 _ (oc.at j hj)) ?_
          rw [← oc.2.1]; exact z
        · exact absurd z c
      obtain ⟨u0, hu0, he0⟩ := he
      have hu0' : u0 ∈ us := by
        rcases List.mem_cons.mp hu0 with z | z
        · rw [z] at he0; exact absurd hend (he0 _ (Nat.le_trans (sub_len _ _ nd oc.2.2) hK))
        · exact z
      obtain ⟨v, G, y3, y4, p, q1, q2, q3, q4, q5, q6⟩ := starts_loop hK hg x5 x6 us (M ++ [.dct (dm seen tt)]) (some (pt u)) (some (pt u1)) (some (.loc M.length)) (h.more _) (fun x hx => hin x (List.mem_cons_of_mem _ hx)) ⟨u0, hu0', he0⟩
      refine ⟨v, [.dct (dm seen tt)] ++ G, y3, y4, p, q1, q2, q3, q4, q5, ?_⟩
      rw [List.map_cons, loopF, if_pos (hg M h.get), hg1]
      dsimp only
      rw [e, if_neg c, l_next, q6, List.append_assoc]
end Hd
end
section
set_option linter.all false
set_option maxRecDepth 100000
set_option maxHeartbeats 1000000
namespace Hd
open PySem PySem.Spec PyProof.Rows L2 TV
def encPt (j : Nat) : PyData := (toD [] 9 (pt j)).getD .none
theorem dat_pt (j : Nat) : dat (pt j) = encPt j := by
  unfold encPt
  rw [toD_nice [] 9 (pt j) (nice_pt j) (by have := dep_pt1 j; omega)]
  rfl
theorem toD_pt (j : Nat) (M : Mem) : toD M 9 (pt j) = some (encPt j) := by
  rw [← dat_pt]
  exact toD_nice M 9 (pt j) (nice_pt j) (by have := dep_pt1 j; omega)
theorem shaped_pt (j : Nat) : SeqAt.shaped (encPt j) = true := by
  rw [← dat_pt]
  exact shaped_nice (nice_pt j) (by have := dep_pt1 j; omega)
theorem eqv_pts : ∀ i j : Fin 12, PyData.eqv (encPt i) (encPt j) = decide (i = j) := by decide +kernel
theorem eqv_pt {i j : Nat} (hi : i < 12) (hj : j < 12) : PyData.eqv (encPt i) (encPt j) = decide (i = j) := by
  have := eqv_pts ⟨i, hi⟩ ⟨j, hj⟩
  simpa using this
theorem ne_pt {i j : Nat} (hi : i < 12) (hj : j < 12) (M : Mem) : pNe (pt i) (pt j) M = .ok (.bl (!decide (i = j))) M := by
  exact (eqv_go (toD_pt i M) (toD_pt j M) (shaped_pt i) (shaped_pt j)).trans (by simp [eqv_pt hi hj])
theorem eq_pt {i j : Nat} (hi : i < 12) (hj : j < 12) (M : Mem) : pEq (pt i) (pt j) M = .ok (.bl (decide (i = j))) M := by
  exact (eqv_go (toD_pt i M) (toD_pt j M) (shaped_pt i) (shaped_pt j)).trans (by simp [eqv_pt hi hj])
theorem least {f : Nat → Prop} : ∀ n p, p ≤ n → 1 ≤ p → f p → ∃ q, q ≤ p ∧ 1 ≤ q ∧ f q ∧ ∀ j, 1 ≤ j → j < q → ¬ f j
  | 0, p, hn, h1, h => by omega
  | n + 1, p, hn, h1, h => by
    by_cases c : ∃ j, 1 ≤ j ∧ j < p ∧ f j
    · obtain ⟨j, j1, j2, j3⟩ := c
      obtain ⟨q, q1, q2⟩ := least n j (by omega) j1 j3
      exact ⟨q, by omega, q2⟩
    · exact ⟨p, Nat.le_refl _, h1, h, fun j j1 j2 j3 => c ⟨j, j1, j2, j3⟩⟩
abbrev roTest : FT := (TV.tOr (tVal (eOp (pEq) (eArgs pLen (aCons (eVar 5) aNil)) (eC (.int 0)))) (tVal (eOp (pNe) (eVar 6) (eVar 2))))
abbrev roBody : FS := (sSeq (sExpr (eApp (eVar 5) (eOp pIx (eVar 1) (eVar 6))))
    (sAsg (eOp pIx (eOp pIx (eVar 0) (eOp pIx (eVar 1) (eVar 6))) (eC (.int 1))) (TV.gName 6)))
def ringL (rs : List Row) (s : Bf) (u j : Nat) : List P := (List.range j).map fun i => .int (s.S (it rs s i u))
theorem ringL_len (rs : List Row) (s : Bf) (u j : Nat) : (ringL rs s u j).length = j := by unfold ringL; simp
theorem len_last (M : Mem) (xs : List P) : pLen [.loc M.length] (M ++ [.lst xs]) = .ok (.int (xs.length : Nat)) (M ++ [.lst xs]) := by
  unfold pLen lenOf
  simp
theorem line_5 {n : Nat} (h : n ≤ 12) : n < sizeLine := Nat.lt_of_le_of_lt h line5
theorem round_loop {rs : List Row} {s : Bf} {M : Mem} {b : Nat} (h : Steps rs s M b) {u p : Nat} (hp5 : p ≤ 12) (hu : u < 12) (p1 : 1 ≤ p) (hp : it rs s p u = u) (hin : ∀ j, j < p → it rs s j u ∈ s.ss) (hmin : ∀ j, 1 ≤ j → j < p → it rs s j u ≠ u) (x3 x4 : Option P) :
    ∀ (d k j : Nat), j + d = p → sWhile roTest roBody (d + 1 + k) [some (.tup (rs.map rowP)), some (.loc b), some (pt u), x3, x4, some (.loc M.length), some (pt (it rs s j u))] (M ++ [.lst (ringL rs s u j)]) =
      .next [some (.tup (rs.map rowP)), some (.loc b), some (pt u), x3, x4, some (.loc M.length), some (pt u)] (M ++ [.lst (ringL rs s u p)])
  | d, k, j, hd => by
    have hj5 : it rs s j u < 12 := by
      by_cases c : j < p
      · exact h.lt _ (hin j c)
      · have : j = p := by omega
        rw [this, hp]; exact hu
    have test : roTest [some (.tup (rs.map rowP)), some (.loc b), some (pt u), x3, x4, some (.loc M.length), some (pt (it rs s j u))] (M ++ [.lst (ringL rs s u j)]) = .ok (decide (j < p)) (M ++ [.lst (ringL rs s u j)]) := by
      unfold roTest
      simp only [x_tor, x_val, x_op, x_args, x_cons, x_nil, x_v5, x_v6, x_v2, x_C, b_ok, len_last, ringL_len, eq_int, cVal_bl, ne_pt hj5 hu]
      by_cases c : j < p
      · by_cases c0 : j = 0
        · simp [c0]; omega
        · have := hmin j (by omega) c
          simp [c, c0, this]
      · have : j = p := by omega
        subst this
        simp [hp]
        omega
    rw [show d + 1 + k = (d + k) + 1 by omega, sWhile, test, s_ok]
    cases d with
    | zero =>
      have : j = p := by omega
      subst this
      rw [if_neg (by simp), hp]
    | succ d =>
      have c : j < p := by omega
      rw [if_pos (by simpa using c)]
      have huj := hin j c
      obtain ⟨l2, q1, r, q2, q3⟩ := (h.more [.lst (ringL rs s u (j + 1))]).go huj
      obtain ⟨_, q1', _⟩ := (h.more [.lst (ringL rs s u j)]).go huj
      have app : eApp (eVar 5) (eOp pIx (eVar 1) (eVar 6)) [some (.tup (rs.map rowP)), some (.loc b), some (pt u), x3, x4, some (.loc M.length), some (pt (it rs s j u))] (M ++ [.lst (ringL rs s u j)]) = .ok .non (M ++ [.lst (ringL rs s u (j + 1))]) := by
        unfold eApp
        simp only [x_v5, b_ok, List.getElem?_append_right (Nat.le_refl _), Nat.sub_self, List.getElem?_cons_zero, x_op, x_v1, x_v6, q1']
        rw [if_pos (by rw [ringL_len]; exact line_5 (by omega))]
        have : ringL rs s u (j + 1) = ringL rs s u j ++ [.int (s.S (it rs s j u))] := by
          unfold ringL
          rw [List.range_succ, List.map_append]
          rfl
        rw [this]
        simp
      have body : roBody [some (.tup (rs.map rowP)), some (.loc b), some (pt u), x3, x4, some (.loc M.length), some (pt (it rs s j u))] (M ++ [.lst (ringL rs s u j)]) = .next [some (.tup (rs.map rowP)), some (.loc b), some (pt u), x3, x4, some (.loc M.length), some (pt (it rs s (j + 1) u))] (M ++ [.lst (ringL rs s u (j + 1))]) := by
        unfold roBody
        rw [z_seq, z_expr, app, s_ok, t_next]
        simp only [z_asg, x_op, x_v0, x_v1, x_v6, x_C, b_ok, q1, q2, q3, s_ok, it_succ]
        rfl
      rw [body, l_next, show d + 1 + k = d + 1 + k by rfl]
      exact round_loop h hp5 hu p1 hp hin hmin x3 x4 d k (j + 1) (by omega)
theorem seq_last (M : Mem) (xs : List P) : seqM (M ++ [.lst xs]) M.length = some xs := by simp [seqM]
/-- ring_in: a ring of last steps -/
theorem ring_in_spec {rs : List Row} {s : Bf} {M : Mem} {b : Nat} (h : Steps rs s M b) {K : Nat} (hK : s.ss.length ≤ K) (he : ∃ u0 ∈ s.ss, ∀ k, k ≤ K → ¬ Ends rs s k u0) :
    ∃ u p : Nat, 1 ≤ p ∧ p ≤ 12 ∧ it rs s p u = u ∧ (∀ j, 1 ≤ j → j < p → it rs s j u ≠ u) ∧ (∀ j, j < p → it rs s j u ∈ s.ss) ∧ F_ring_in [.tup (rs.map rowP), .loc b] M = .ok (.tup (ringL rs s u p)) M := by
  obtain ⟨I, hi, hit, hg⟩ := over_dm (fa := eVar 1) (ρ := [some (.tup (rs.map rowP)), some (.loc b), some (pt (s.ss.headD 0)), none, none, none, none]) (l := b) rfl h.get
  obtain ⟨u, G, y3, y4, p, ul, p1, p2, p3, p4, lp⟩ := starts_loop hK (guard := I.guard) hg none none s.ss M (some (pt (s.ss.headD 0))) none none h (fun _ z => z) he
  obtain ⟨q, q1, q2, q3, q4⟩ := least (f := fun p => it rs s p u = u) p p (Nat.le_refl _) p1 p3
  refine ⟨u, q, q2, by omega, q3, q4, fun j hj => p4 j (by omega), ?_⟩
  have hG := h.more G
  have rl := round_loop hG (by omega) ul q2 q3 (fun j hj => p4 j (by omega)) q4 y3 y4 q (99 - q) 0 (by omega)
  rw [show q + 1 + (99 - q) = 100 by omega] at rl
  unfold F_ring_in mkF m_ring_in
  rw [if_pos (show [P.tup (rs.map rowP), .loc b].length = 2 from rfl)]
  have hst : startR 7 [P.tup (rs.map rowP), .loc b] = [some (.tup (rs.map rowP)), some (.loc b), none, none, none, none, none] := rfl
  have nx1 : eNextIter (eVar 1) [some (.tup (rs.map rowP)), some (.loc b), none, none, none, none, none] M = .ok (pt (s.ss.headD 0)) M := by
    unfold eNextIter
    rw [x_v1, b_ok]
    dsimp only
    rw [h.get]
    obtain ⟨u0, hu0, _⟩ := he
    cases e : s.ss with
    | nil => rw [e] at hu0; cases hu0
    | cons a l => rfl
  rw [hst, z_seq, z_asg, nx1, s_ok, t_next]
  have hset : List.set [some (P.tup (rs.map rowP)), some (.loc b), none, none, none, none, none] 2 (some (pt (s.ss.headD 0))) = [some (P.tup (rs.map rowP)), some (.loc b), some (pt (s.ss.headD 0)), none, none, none, none] := rfl
  rw [hset, z_seq, z_for, hi, s_ok, hit, lp, t_next, z_seq, z_par]
  have e0 : ∀ ρ M, eArgs gList aNil ρ M = .ok (.loc M.length) (M ++ [.lst []]) := fun _ _ => rfl
  rw [e0, s_ok, x_v2, s_ok, t_next]
  have hset2 : List.set (List.set [some (P.tup (rs.map rowP)), some (.loc b), some (pt u), y3, y4, none, none] 5 (some (.loc (M ++ G).length))) 6 (some (pt u)) = [some (P.tup (rs.map rowP)), some (.loc b), some (pt u), y3, y4, some (.loc (M ++ G).length), some (pt u)] := rfl
  have rl : sWhile roTest roBody 100 [some (.tup (rs.map rowP)), some (.loc b), some (pt u), y3, y4, some (.loc (M ++ G).length), some (pt u)] (M ++ G ++ [.lst []]) = _ := rl
  rw [hset2, z_seq, rl, t_next, z_ret, x_args, x_cons, x_v5, b_ok, x_nil, b_ok, b_ok]
  have tp : pTupleOf [.loc (M ++ G).length] (M ++ G ++ [.lst (ringL rs s u q)]) = .ok (.tup (ringL rs s u q)) (M ++ G ++ [.lst (ringL rs s u q)]) := by
    unfold pTupleOf
    dsimp only
    rw [seq_last]
  rw [tp, s_ok, f_ret, List.append_assoc]
  refine gc_app fun k hk => ?_
  have : (P.tup (ringL rs s u q)).locs = [] := by
    show locsL (ringL rs s u q) = []
    unfold ringL
    generalize List.range q = l
    induction l with
    | nil => rfl
    | cons a l ih => rw [List.map_cons, locsL, ih]; rfl
  rw [this] at hk
  cases hk
end Hd
end
section
set_option linter.all false
set_option maxRecDepth 100000
set_option maxHeartbeats 1000000
namespace Hd
open PySem PySem.Spec PyProof.Rows L2 TV
theorem step_nodup {s : Bf} {i : Nat} {r : Row} (h : s.ss.Nodup) : (bfStep s i r).ss.Nodup := by
  unfold bfStep
  split
  · exact addPt_nodup h
  · exact h
theorem from_nodup : ∀ (qs : List Row) (i : Nat) (s : Bf), s.ss.Nodup → (bfFrom i qs s).ss.Nodup
  | [], _, _, h => h
  | r :: qs, i, s, h => from_nodup qs (i + 1) (bfStep s i r) (step_nodup h)
theorem settle_nodup {rs : List Row} : ∀ (R : Nat) (s : Bf), s.ss.Nodup → (settle rs R s).2.ss.Nodup
  | 0, _, h => h
  | R + 1, s, h => by
    have h1 : (bfRound rs s).ss.Nodup := from_nodup rs 0 ⟨false, s.N, s.ss, s.S⟩ h
    unfold settle
    split
    · exact settle_nodup R _ h1
    · exact h1
def zeroN : Nat → Int := fun _ => 0
def s0 : Bf := ⟨false, zeroN, [], zeroN⟩
theorem s0_inv (rs : List Row) : BInv rs s0 := ⟨(fun u hu => nomatch (show u ∈ ([] : List Nat) from hu)), (fun u _ => rfl)⟩
theorem s0_below (rs : List Row) : Below rs 0 s0.N := by
  intro k hk u w hw
  have : k = 0 := by omega
  subst this
  cases hw
  exact Int.le_refl _
/-- a dict of the points of a list -/
theorem x_dc {fi : FI} {fv : FE} {ρ : Rho} {M M1 : Mem} {I : Iter} {ks : List Nat} {g : Nat → Int} {i : Nat} (hi : fi ρ M = .ok I M1) (hit : I.items = ks.map pt) (hg : ∀ kvs, I.guard (M1 ++ [.dct kvs]) = true) (hv : ∀ j < 12, ∀ kvs, eVar i ((wipeR ρ [i]).set i (some (pt j))) (M1 ++ [.dct kvs]) = .ok (pt j) (M1 ++ [.dct kvs]))
    (hfv : ∀ j ∈ ks, ∀ kvs, fv ((wipeR ρ [i]).set i (some (pt j))) (M1 ++ [.dct kvs]) = .ok (.int (g j)) (M1 ++ [.dct kvs])) (kl : ∀ j ∈ ks, j < 12) (kn : ks.Nodup) :
    eDc fi (TV.gName i) tYesF (eVar i) fv [i] ρ M = .ok (.loc M1.length) (M1 ++ [.dct (dm ks (di g))]) := by
  unfold eDc
  rw [hi, b_ok, hit]
  exact dc_loop hg hv ks [] zeroN hfv kl (by simp) (by simpa using kn) (by simp)
theorem over_lst {fa : FE} {ρ : Rho} {M M1 : Mem} {l : Nat} {xs : List P} (h : fa ρ M = .ok (.loc l) M1) (hl : M1[l]? = some (.lst xs)) : ∃ I, iOver fa ρ M = .ok I M1 ∧ I.items = xs ∧ ∀ M' : Mem, M'[l]? = some (.lst xs) → I.guard M' = true := by
  refine ⟨⟨xs, fun M' => ask (M'[l]? = some (.lst xs))⟩, ?_, rfl, fun M' h' => ask_true h'⟩
  unfold iOver
  rw [h]
  show (match overI (.loc l) M1 with | some I => Res.ok I M1 | none => .bad) = _
  unfold overI
  dsimp only
  rw [hl]
/-- what a call's facts about rows give -/
structure Pts (rs : List Row) (ks : List Nat) : Prop where
  perm : ks.Perm (ptsOf rs [0])
  lt : ∀ i ∈ ks, i < 12
  nd : ks.Nodup
  rows : ∀ r ∈ rs, r.1 ∈ ks ∧ r.2.1 ∈ ks
  zero : 0 ∈ ks
  len : ks.length = (ptsOf rs [0]).length
theorem pts_of {rs : List Row} (hr : ∀ r ∈ rs, okRow r) {ks : List Nat} (pp : ks.Perm (ptsOf rs [0])) : Pts rs ks :=
  ⟨pp, fun i hi => ptsOf_lt hr (by simp) i (pp.mem_iff.mp hi), pp.nodup_iff.mpr (ptsOf_nodup (by simp)),
    fun r hr => ⟨pp.mem_iff.mpr (ptsOf_mem.mpr (.inr ⟨r, hr, .inl rfl⟩)), pp.mem_iff.mpr (ptsOf_mem.mpr (.inr ⟨r, hr, .inr rfl⟩))⟩, pp.mem_iff.mpr (ptsOf_mem.mpr (.inl (by simp))), pp.length_eq⟩
def rounds (rs : List Row) : Nat := 2 * (ptsOf rs [0]).length
abbrev endS (rs : List Row) : Bool × Bf := settle rs (rounds rs + 1) s0
theorem end_inv (rs : List Row) : ∀ (R : Nat) (s : Bf), BInv rs s → BInv rs (settle rs R s).2
  | 0, _, h => h
  | R + 1, s, h => by
    unfold settle
    split
    · exact end_inv rs R _ h.round
    · exact h.round
theorem end_sub {rs : List Row} {ks : List Nat} (h : Pts rs ks) : ∀ u ∈ (endS rs).2.ss, u ∈ ks := by
  intro u hu
  obtain ⟨i, r, _, h2, h3, _⟩ := (end_inv rs (rounds rs + 1) s0 (s0_inv rs)).pre u hu
  rw [← h3]
  exact (h.rows r (List.mem_of_getElem? h2)).1
theorem end_steps {rs : List Row} {ks : List Nat} (hr : ∀ r ∈ rs, okRow r) (h : Pts rs ks) {M : Mem} {b : Nat} (hb : M[b]? = some (.dct (dm (endS rs).2.ss (di (endS rs).2.S)))) : Steps rs (endS rs).2 M b :=
  ⟨end_inv rs _ _ (s0_inv rs), hr, hb, fun u hu => h.lt u (end_sub h u hu), settle_nodup _ _ List.nodup_nil⟩
theorem end_ring {rs : List Row} {ks : List Nat} (h : Pts rs ks) (ht : (endS rs).1 = true) : (endS rs).2.ss.length ≤ rounds rs ∧ ∃ u0 ∈ (endS rs).2.ss, ∀ k, k ≤ rounds rs → ¬ Ends rs (endS rs).2 k u0 := by
  obtain ⟨_, u, hu⟩ := settle_true (rounds rs) 0 s0 (s0_below rs) (s0_inv rs) ht
  constructor
  · have := sub_len _ _ (settle_nodup (rs := rs) (rounds rs + 1) s0 List.nodup_nil) (end_sub h)
    rw [h.len] at this
    have e : rounds rs = 2 * (ptsOf rs [0]).length := rfl
    have this : (endS rs).2.ss.length ≤ (ptsOf rs [0]).length := this
    omega
  · refine ⟨u, ?_, fun k hk => hu k (by omega)⟩
    by_cases c : u ∈ (endS rs).2.ss
    · exact c
    · exact absurd (Ends.here c) (hu 0 (Nat.zero_le _))
theorem flat_ring (rs : List Row) (s : Bf) (u p : Nat) : locsL (ringL rs s u p) = [] := by
  unfold ringL
  generalize List.range p = l
  induction l with
  | nil => rfl
  | cons a l ih => rw [List.map_cons, locsL, ih]; rfl
/-- ring_of -/
theorem ring_of_spec (rs : List Row) (hr : ∀ r ∈ rs, okRow r) (M : Mem) :
    ((endS rs).1 = false ∧ F_ring_of [.tup (rs.map rowP)] M = .ok .non M) ∨
    ((endS rs).1 = true ∧ ∃ u p : Nat, 1 ≤ p ∧ p ≤ 12 ∧ it rs (endS rs).2 p u = u ∧ (∀ j, 1 ≤ j → j < p → it rs (endS rs).2 j u ≠ u) ∧ (∀ j, j < p → it rs (endS rs).2 j u ∈ (endS rs).2.ss) ∧ F_ring_of [.tup (rs.map rowP)] M = .ok (.tup (ringL rs (endS rs).2 u p)) M) := by
  obtain ⟨ks, pp, kc, ep⟩ := points_of_spec rs hr M
  have P0 := pts_of hr pp
  have eP : eArgs F_points_of (aCons (eVar 0) aNil) [some (.tup (rs.map rowP)), none, none, none] M = .ok (.loc M.length) (M ++ [.lst (ks.map pt)]) := by
    simp only [x_args, x_cons, x_v0, b_ok, x_nil, ep]
  have gL : (M ++ [MO.lst (ks.map pt)])[M.length]? = some (.lst (ks.map pt)) := by simp
  obtain ⟨I, hi, hit, hg⟩ := over_lst eP gL
  have dc := x_dc (fv := eC (.int 0)) (g := zeroN) (i := 3) hi hit (fun kvs => hg _ (by simp)) (fun j hj kvs => rfl) (fun j hj kvs => rfl) P0.lt P0.nd
  have gD : (M ++ [MO.lst (ks.map pt)] ++ [MO.dct (dm ks (di zeroN))])[(M ++ [MO.lst (ks.map pt)]).length]? = some (.dct (dm ks (di zeroN))) := by simp
  obtain ⟨R, hR, es⟩ := settled_spec rs hr gD P0.lt P0.nd (fun r h => ⟨(hr r h).1, (hr r h).2.1⟩)
  have hR2 : R = rounds rs + 1 := by rw [hR, P0.len]; unfold rounds; omega
  rw [hR2, show (⟨false, ks, zeroN, [], zeroN⟩ : Bp) = full ks s0 from rfl, full_settle P0.rows] at es
  have es : F_settled [.tup (rs.map rowP), .loc (M ++ [MO.lst (ks.map pt)]).length] (M ++ [MO.lst (ks.map pt)] ++ [.dct (dm ks (di zeroN))]) = .ok (.tup [.loc (M ++ [MO.lst (ks.map pt)] ++ [MO.dct (dm ks (di zeroN))]).length, .bl (endS rs).1])
      ((M ++ [MO.lst (ks.map pt)] ++ [MO.dct (dm ks (di zeroN))]).set (M ++ [MO.lst (ks.map pt)]).length (.dct (dm ks (di (endS rs).2.N))) ++ [.dct (dm (endS rs).2.ss (di (endS rs).2.S))]) := es
  have hset : (M ++ [MO.lst (ks.map pt)] ++ [MO.dct (dm ks (di zeroN))]).set (M ++ [MO.lst (ks.map pt)]).length (.dct (dm ks (di (endS rs).2.N))) ++ [.dct (dm (endS rs).2.ss (di (endS rs).2.S))] = M ++ [.lst (ks.map pt), .dct (dm ks (di (endS rs).2.N)), .dct (dm (endS rs).2.ss (di (endS rs).2.S))] := by simp
  rw [hset] at es
  have gS : (M ++ [MO.lst (ks.map pt), .dct (dm ks (di (endS rs).2.N)), .dct (dm (endS rs).2.ss (di (endS rs).2.S))])[(M ++ [MO.lst (ks.map pt)] ++ [MO.dct (dm ks (di zeroN))]).length]? = some (.dct (dm (endS rs).2.ss (di (endS rs).2.S))) := by simp
  have st := end_steps hr P0 gS
  have run : ∀ (f : Bool) (r : P), (endS rs).1 = f → (if f = true then F_ring_in [.tup (rs.map rowP), .loc (M ++ [MO.lst (ks.map pt)] ++ [MO.dct (dm ks (di zeroN))]).length] (M ++ [MO.lst (ks.map pt), .dct (dm ks (di (endS rs).2.N)), .dct (dm (endS rs).2.ss (di (endS rs).2.S))]) = .ok r (M ++ [MO.lst (ks.map pt), .dct (dm ks (di (endS rs).2.N)), .dct (dm (endS rs).2.ss (di (endS rs).2.S))]) else r = .non) → r.locs = [] →
      F_ring_of [.tup (rs.map rowP)] M = .ok r M := by
    intro f r hf hr' hl
    unfold F_ring_of mkF m_ring_of
    rw [if_pos (show [P.tup (rs.map rowP)].length = 1 from rfl)]
    have hst : startR 4 [P.tup (rs.map rowP)] = [some (.tup (rs.map rowP)), none, none, none] := rfl
    have asg : sAsg (eArgs F_settled (aCons (eVar 0) (aCons (eDc (iOver (eArgs F_points_of (aCons (eVar 0) aNil))) (TV.gName 3) tYesF (eVar 3) (eC (.int 0)) [3]) aNil))) (TV.gTup [(TV.gName 1), (TV.gName 2)]) [some (.tup (rs.map rowP)), none, none, none] M =
        .next [some (.tup (rs.map rowP)), some (.loc (M ++ [MO.lst (ks.map pt)] ++ [MO.dct (dm ks (di zeroN))]).length), some (.bl f), none] (M ++ [.lst (ks.map pt), .dct (dm ks (di (endS rs).2.N)), .dct (dm (endS rs).2.ss (di (endS rs).2.S))]) := by
      unfold sAsg
      rw [x_args, x_cons, x_v0, b_ok, x_cons, dc, b_ok, x_nil, b_ok, b_ok, b_ok, es, s_ok, hf]
      rfl
    rw [hst, z_seq, asg, t_next]
    cases f with
    | true =>
      rw [if_pos rfl] at hr'
      simp only [z_ret, x_if, x_val, x_v2, b_ok, cVal_bl, if_true, x_args, x_cons, x_nil, x_v0, x_v1, hr', s_ok, f_ret]
      exact gc_app (fun k hk => by rw [hl] at hk; cases hk)
    | false =>
      rw [if_neg (by simp)] at hr'
      subst hr'
      simp
  cases hf : (endS rs).1 with
  | false => exact .inl ⟨rfl, run false .non hf rfl rfl⟩
  | true =>
    obtain ⟨hK, he⟩ := end_ring P0 hf
    obtain ⟨u, p, p1, p2, p3, p3', p4, e⟩ := ring_in_spec st hK he
    refine .inr ⟨rfl, u, p, p1, p2, p3, p3', p4, run true _ hf ?_ (flat_ring _ _ _ _)⟩
    rw [if_pos rfl]
    exact e
end Hd
end
section
set_option linter.all false
set_option maxRecDepth 100000
set_option maxHeartbeats 1000000
namespace Hd
open PySem PySem.Spec PyProof.Rows L2 TV
def okRows (rs : List Row) : Prop := (∀ r ∈ rs, okRow r) ∧ rs.length ≤ 60
theorem okRows.req {rs : List Row} (h : okRows rs) (M : Mem) : F_require_differences [.tup (rs.map rowP)] M = .ok .non M := require_ok rs (fun r hr => (h.1 r hr).2.2) h.2 M
theorem gc_self {M M' : Mem} {r : Res P} (h : r = .ok .non M ∨ (∃ ps, r = .ok (.tup ps) M ∧ locsL ps = []) ∨ (∃ o : MO, o.locs = [] ∧ r = .ok (.loc M.length) (M ++ [o]))) : gc M r = r := by
  rcases h with rfl | ⟨ps, rfl, hp⟩ | ⟨o, ho, rfl⟩
  · exact g_non
  · exact g_same (fun k hk => by rw [show (P.tup ps).locs = locsL ps from rfl, hp] at hk; cases hk)
  · rw [gc_loc (o := o) (kept_app _ _) (Nat.le_refl _) (by simp) (fun k hk => by rw [ho] at hk; cases hk)]
    simp
/-- ring -/
theorem ring_spec (rs : List Row) (h : okRows rs) (M : Mem) :
    ((endS rs).1 = false ∧ F_ring [.tup (rs.map rowP)] M = .ok .non M) ∨
    ((endS rs).1 = true ∧ ∃ u p : Nat, 1 ≤ p ∧ p ≤ 12 ∧ it rs (endS rs).2 p u = u ∧ (∀ j, 1 ≤ j → j < p → it rs (endS rs).2 j u ≠ u) ∧ (∀ j, j < p → it rs (endS rs).2 j u ∈ (endS rs).2.ss) ∧ F_ring [.tup (rs.map rowP)] M = .ok (.tup (ringL rs (endS rs).2 u p)) M) := by
  have run : ∀ r : Res P, F_ring_of [.tup (rs.map rowP)] M = r → gc M r = r → (∃ p M', r = .ok p M') → F_ring [.tup (rs.map rowP)] M = r := by
    rintro r e hg ⟨p, M', rfl⟩
    unfold F_ring mkF m_ring
    simp [startR, h.req, e, hg]
  rcases ring_of_spec rs h.1 M with ⟨hf, e⟩ | ⟨hf, u, p, p1, p2, p3, p3', p4, e⟩
  · exact .inl ⟨hf, run _ e (gc_self (M' := M) (.inl rfl)) ⟨_, _, rfl⟩⟩
  · exact .inr ⟨hf, u, p, p1, p2, p3, p3', p4, run _ e (gc_self (M' := M) (.inr (.inl ⟨_, rfl, flat_ring _ _ _ _⟩))) ⟨_, _, rfl⟩⟩
def fitN (rs : List Row) : Nat → Int := fun j => (endS rs).2.N j - (endS rs).2.N 0
/-- fitted -/
theorem fitted_spec (rs : List Row) (hr : ∀ r ∈ rs, okRow r) (M : Mem) :
    ((endS rs).1 = true ∧ F_fitted [.tup (rs.map rowP)] M = .ok .non M) ∨
    ((endS rs).1 = false ∧ ∃ ks, Pts rs ks ∧ ks = canon (ptsOf rs [0]) ∧ F_points_of [.tup (rs.map rowP)] M = .ok (.loc M.length) (M ++ [.lst (ks.map pt)]) ∧ F_fitted [.tup (rs.map rowP)] M = .ok (.loc M.length) (M ++ [.dct (dm ks (di (fitN rs)))])) := by
  obtain ⟨ks, pp, kc, ep⟩ := points_of_spec rs hr M
  have P0 := pts_of hr pp
  have gL : (M ++ [MO.lst (ks.map pt)])[M.length]? = some (.lst (ks.map pt)) := by simp
  obtain ⟨I, hi, hit, hg⟩ := over_lst (fa := eVar 1) (ρ := [some (.tup (rs.map rowP)), some (.loc M.length), none, none]) (l := M.length) rfl gL
  have dc := x_dc (fv := eC (.int 0)) (g := zeroN) (i := 3) hi hit (fun kvs => hg _ (by simp)) (fun j hj kvs => rfl) (fun j hj kvs => rfl) P0.lt P0.nd
  have gD : (M ++ [MO.lst (ks.map pt)] ++ [MO.dct (dm ks (di zeroN))])[(M ++ [MO.lst (ks.map pt)]).length]? = some (.dct (dm ks (di zeroN))) := by simp
  obtain ⟨R, hR, es⟩ := settled_spec rs hr gD P0.lt P0.nd (fun r h => ⟨(hr r h).1, (hr r h).2.1⟩)
  have hR2 : R = rounds rs + 1 := by rw [hR, P0.len]; unfold rounds; omega
  rw [hR2, show (⟨false, ks, zeroN, [], zeroN⟩ : Bp) = full ks s0 from rfl, full_settle P0.rows] at es
  have hset : (M ++ [MO.lst (ks.map pt)] ++ [MO.dct (dm ks (di zeroN))]).set (M ++ [MO.lst (ks.map pt)]).length (.dct (dm ks (di (endS rs).2.N))) ++ [.dct (dm (endS rs).2.ss (di (endS rs).2.S))] = M ++ [.lst (ks.map pt), .dct (dm ks (di (endS rs).2.N)), .dct (dm (endS rs).2.ss (di (endS rs).2.S))] := by simp
  have es : F_settled [.tup (rs.map rowP), .loc (M ++ [MO.lst (ks.map pt)]).length] (M ++ [MO.lst (ks.map pt)] ++ [MO.dct (dm ks (di zeroN))]) = .ok (.tup [.loc (M ++ [MO.lst (ks.map pt)] ++ [MO.dct (dm ks (di zeroN))]).length, .bl (endS rs).1])
      ((M ++ [MO.lst (ks.map pt)] ++ [MO.dct (dm ks (di zeroN))]).set (M ++ [MO.lst (ks.map pt)]).length (.dct (dm ks (di (endS rs).2.N))) ++ [.dct (dm (endS rs).2.ss (di (endS rs).2.S))]) := es
  rw [hset] at es
  let M3 : Mem := M ++ [.lst (ks.map pt), .dct (dm ks (di (endS rs).2.N)), .dct (dm (endS rs).2.ss (di (endS rs).2.S))]
  have es : F_settled [.tup (rs.map rowP), .loc (M ++ [MO.lst (ks.map pt)]).length] (M ++ [MO.lst (ks.map pt)] ++ [MO.dct (dm ks (di zeroN))]) = .ok (.tup [.loc (M ++ [MO.lst (ks.map pt)] ++ [MO.dct (dm ks (di zeroN))]).length, .bl (endS rs).1]) M3 := es
  have gL3 : M3[M.length]? = some (.lst (ks.map pt)) := by simp [M3]
  have gN3 : M3[(M ++ [MO.lst (ks.map pt)]).length]? = some (.dct (dm ks (di (endS rs).2.N))) := by simp [M3]
  have lN3 : (M ++ [MO.lst (ks.map pt)]).length < M3.length := by simp [M3]
  obtain ⟨I2, hi2, hit2, hg2⟩ := over_lst (fa := eVar 1) (ρ := [some (.tup (rs.map rowP)), some (.loc M.length), some (.loc (M ++ [MO.lst (ks.map pt)]).length), none]) (l := M.length) rfl gL3
  have dc2 := x_dc (fv := eOp pSub (eOp pIx (eVar 2) (eVar 3)) (eOp pIx (eVar 2) (eC (.str "")))) (g := fitN rs) (i := 3) hi2 hit2 (fun kvs => hg2 _ (by rw [List.getElem?_append_left (by simp [M3])]; exact gL3)) (fun j hj kvs => rfl) (fun j hj kvs => by
    have g : (M3 ++ [MO.dct kvs])[(M ++ [MO.lst (ks.map pt)]).length]? = some (.dct (dm ks (di (endS rs).2.N))) := by rw [List.getElem?_append_left lN3]; exact gN3
    have x1 := ix_dm g P0.lt (P0.lt j hj) hj
    have x2 := ix_dm g P0.lt (P0.lt 0 P0.zero) P0.zero
    have x2 : pIx (.loc (M ++ [MO.lst (ks.map pt)]).length) (.str "") (M3 ++ [MO.dct kvs]) = .ok (di (endS rs).2.N 0) (M3 ++ [MO.dct kvs]) := x2
    show eOp pSub _ _ [some (.tup (rs.map rowP)), some (.loc M.length), some (.loc (M ++ [MO.lst (ks.map pt)]).length), some (pt j)] (M3 ++ [MO.dct kvs]) = _
    simp only [x_op, x_v2, x_v3, x_C, b_ok, x1, x2, di, o_sub]
    rfl) P0.lt P0.nd
  have e1 : F_fitted [.tup (rs.map rowP)] M = gc M (if (endS rs).1 = true then .ok .non M3 else .ok (.loc M3.length) (M3 ++ [.dct (dm ks (di (fitN rs)))])) := by
    unfold F_fitted mkF m_fitted
    rw [if_pos (show [P.tup (rs.map rowP)].length = 1 from rfl)]
    have hst : startR 4 [P.tup (rs.map rowP)] = [some (.tup (rs.map rowP)), none, none, none] := rfl
    have a1 : sAsg (eArgs F_points_of (aCons (eVar 0) aNil)) (TV.gName 1) [some (.tup (rs.map rowP)), none, none, none] M = .next [some (.tup (rs.map rowP)), some (.loc M.length), none, none] (M ++ [.lst (ks.map pt)]) := by
      simp only [z_asg, x_args, x_cons, x_v0, b_ok, x_nil, ep, s_ok]
      rfl
    have a2 : sAsg (eDc (iOver (eVar 1)) (TV.gName 3) tYesF (eVar 3) (eC (.int 0)) [3]) (TV.gName 2) [some (.tup (rs.map rowP)), some (.loc M.length), none, none] (M ++ [.lst (ks.map pt)]) = .next [some (.tup (rs.map rowP)), some (.loc M.length), some (.loc (M ++ [MO.lst (ks.map pt)]).length), none] (M ++ [MO.lst (ks.map pt)] ++ [MO.dct (dm ks (di zeroN))]) := by
      rw [z_asg, dc, s_ok]
      rfl
    have a3 : tVal (eOp pIx (eArgs F_settled (aCons (eVar 0) (aCons (eVar 2) aNil))) (eC (.int 1))) [some (.tup (rs.map rowP)), some (.loc M.length), some (.loc (M ++ [MO.lst (ks.map pt)]).length), none] (M ++ [MO.lst (ks.map pt)] ++ [MO.dct (dm ks (di zeroN))]) = .ok (endS rs).1 M3 := by
      simp only [x_val, x_op, x_args, x_cons, x_v0, x_v2, x_nil, b_ok, es, x_C]
      rfl
    rw [hst, z_seq, a1, t_next, z_seq, a2, t_next, z_seq, z_if, a3, s_ok]
    cases (endS rs).1 with
    | true => simp
    | false =>
      rw [if_neg (by simp), if_neg (by simp), z_next, t_next, z_ret, dc2, s_ok, f_ret]
  rw [e1]
  cases hf : (endS rs).1 with
  | true =>
    left
    rw [if_pos rfl]
    exact ⟨rfl, gc_app (fun k hk => by simp [P.locs] at hk)⟩
  | false =>
    right
    refine ⟨rfl, ks, P0, kc, ep, ?_⟩
    rw [if_neg (by simp)]
    have kp : Kept M (M3 ++ [.dct (dm ks (di (fitN rs)))]) := by
      have : M3 ++ [.dct (dm ks (di (fitN rs)))] = M ++ ([.lst (ks.map pt), .dct (dm ks (di (endS rs).2.N)), .dct (dm (endS rs).2.ss (di (endS rs).2.S))] ++ [.dct (dm ks (di (fitN rs)))]) := by simp [M3]
      rw [this]
      exact kept_app _ _
    rw [gc_loc (o := .dct (dm ks (di (fitN rs)))) kp (by simp [M3]) (by simp) (fun k hk => by rw [dm_flat] at hk; cases hk)]
    simp [M3]
/-- fitting -/
theorem fitting_spec (rs : List Row) (h : okRows rs) (M : Mem) :
    ((endS rs).1 = true ∧ F_fitting [.tup (rs.map rowP)] M = .ok .non M) ∨
    ((endS rs).1 = false ∧ ∃ ks, Pts rs ks ∧ ks = canon (ptsOf rs [0]) ∧ F_points_of [.tup (rs.map rowP)] M = .ok (.loc M.length) (M ++ [.lst (ks.map pt)]) ∧ F_fitting [.tup (rs.map rowP)] M = .ok (.loc M.length) (M ++ [.dct (dm ks (di (fitN rs)))])) := by
  have run : ∀ r : Res P, F_fitted [.tup (rs.map rowP)] M = r → gc M r = r → (∃ p M', r = .ok p M') → F_fitting [.tup (rs.map rowP)] M = r := by
    rintro r e hg ⟨p, M', rfl⟩
    unfold F_fitting mkF m_fitting
    simp [startR, h.req, e, hg]
  rcases fitted_spec rs h.1 M with ⟨hf, e⟩ | ⟨hf, ks, pk, kc, ep, e⟩
  · exact .inl ⟨hf, run _ e (gc_self (M' := M) (.inl rfl)) ⟨_, _, rfl⟩⟩
  · exact .inr ⟨hf, ks, pk, kc, ep, run _ e (gc_self (M' := M) (.inr (.inr ⟨_, dm_flat _ _, rfl⟩))) ⟨_, _, rfl⟩⟩
end Hd
end
section
set_option linter.all false
set_option maxRecDepth 100000
set_option maxHeartbeats 1000000
namespace Hd
open PySem PySem.Spec PyProof.Rows L2 TV
abbrev GRow := P × P × Int
def gP (r : GRow) : P := .tup [r.1, r.2.1, .int r.2.2]
def dflt : GRow := (.non, .non, 0)
structure okG (r : GRow) : Prop where
  n1 : nice r.1 = true
  n2 : nice r.2.1 = true
  d1 : dep r.1 ≤ 3
  d2 : dep r.2.1 ≤ 3
def okIx (n : Nat) : P → Bool
  | .int i => decide (0 ≤ i) && decide (i < n)
  | _ => false
def ixOf : P → Nat
  | .int i => i.toNat
  | _ => 0
def chosen (G : List GRow) (qs : List P) : List GRow := qs.map fun q => G.getD (ixOf q) dflt
def link (rows : List GRow) (i : Nat) : Bool := PyData.eqv (dat (rows.getD i dflt).2.1) (dat (rows.getD ((i + 1) % rows.length) dflt).1)
def linked (rows : List GRow) : Bool := (List.range rows.length).all (link rows)
def total (rows : List GRow) : Int := (rows.map (·.2.2)).sum
def ringB (G : List GRow) : P → Bool
  | .tup qs => !qs.isEmpty && (qs.all (okIx G.length) && (linked (chosen G qs) && decide (total (chosen G qs) < 0)))
  | _ => false
theorem seen_nice {p : P} (h : nice p = true) (M : Mem) : Seen p M := by
  cases p with
  | non => exact ⟨_, rfl, by simp⟩
  | bl b => exact ⟨_, rfl, by simp⟩
  | int i => exact ⟨_, rfl, by simp⟩
  | str z => exact ⟨_, rfl, by simp⟩
  | tup qs => exact ⟨_, rfl, by simp⟩
  | ty t => cases h
  | loc l => cases h
theorem isi_tup_no {p : P} {M : Mem} (h : Seen p M) (hn : ∀ qs, p ≠ .tup qs) : pIsi [p, .ty "tuple"] M = .ok (.bl false) M := by
  obtain ⟨t, ht, hc⟩ := h
  rcases hc with ⟨i, rfl, rfl⟩ | ⟨i, rfl, rfl⟩ | ⟨i, rfl, rfl⟩ | ⟨i, rfl, rfl⟩ | ⟨rfl, rfl⟩ | ⟨l, rfl, rfl | rfl⟩
  · exact isi_of ht rfl
  · exact isi_of ht rfl
  · exact isi_of ht rfl
  · exact absurd rfl (hn i)
  · exact isi_of ht rfl
  · exact isi_of ht rfl
  · exact isi_of ht rfl
theorem ringB_no {G : List GRow} {p : P} (hn : ∀ qs, p ≠ .tup qs) : ringB G p = false := by
  cases p with
  | tup qs => exact absurd rfl (hn qs)
  | _ => rfl
theorem len_tup (ps : List P) (M : Mem) : pLen [.tup ps] M = .ok (.int (ps.length : Nat)) M := by
  unfold pLen lenOf
  rfl
theorem ix_get {G : List GRow} {i : Int} (h0 : 0 ≤ i) (h1 : i < (G.length : Nat)) (M : Mem) : pIx (.tup (G.map gP)) (.int i) M = .ok (gP (G.getD i.toNat dflt)) M := by
  refine ix_tup ?_ M
  have hl : i.toNat < G.length := by omega
  have e : (G.map gP)[i.toNat]? = some (gP (G.getD i.toNat dflt)) := by
    rw [List.getElem?_map, List.getElem?_eq_getElem hl, List.getD_eq_getElem?_getD, List.getElem?_eq_getElem hl]
    rfl
  have := atI_nat e
  rwa [Int.toNat_of_nonneg h0] at this
theorem okIx_int {n : Nat} {q : P} (h : okIx n q = true) : ∃ i : Int, q = .int i ∧ 0 ≤ i ∧ i < (n : Nat) := by
  cases q with
  | int i => simp only [okIx, Bool.and_eq_true, decide_eq_true_eq] at h; exact ⟨i, rfl, h.1, h.2⟩
  | _ => simp [okIx] at h
theorem ix_ok {G : List GRow} {q : P} (h : okIx G.length q = true) (M : Mem) : pIx (.tup (G.map gP)) q M = .ok (gP (G.getD (ixOf q) dflt)) M := by
  obtain ⟨i, rfl, h0, h1⟩ := okIx_int h
  exact ix_get h0 h1 M
theorem chosen_mem {G : List GRow} (hG : ∀ r ∈ G, okG r) {qs : List P} (h : qs.all (okIx G.length) = true) : ∀ r ∈ chosen G qs, okG r := by
  intro r hr
  obtain ⟨q, hq, rfl⟩ := List.mem_map.mp hr
  obtain ⟨i, rfl, h0, h1⟩ := okIx_int (List.all_eq_true.mp h q hq)
  have hl : i.toNat < G.length := by omega
  rw [List.getD_eq_getElem?_getD]
  show okG (G[i.toNat]?.getD dflt)
  rw [List.getElem?_eq_getElem hl]
  exact hG _ (List.getElem_mem hl)
/-- [differences[index] for index in value] -/
theorem rows_lc {G : List GRow} {qs : List P} {a c1 : Option P} {ρ : Rho} {k : Nat} (h : qs.all (okIx G.length) = true) (hl : qs.length ≤ sizeLine) {M : Mem} (hv : eVar 1 ρ M = .ok (.tup qs) M) (h0 : ∀ q M, eVar 0 ((wipeR ρ [k]).set k (some q)) M = .ok (.tup (G.map gP)) M) (hk : ∀ q M, eVar k ((wipeR ρ [k]).set k (some q)) M = .ok q M) :
    eLc (iOver (eVar 1)) (TV.gName k) tYesF (eOp pIx (eVar 0) (eVar k)) [k] ρ M = .ok (.loc M.length) (M ++ [.lst ((chosen G qs).map gP)]) := by
  have z := x_lc (ft := tYesF) (fe := eOp pIx (eVar 0) (eVar k)) (gt := TV.gName k) (own := [k]) (c := fun _ => true) (f := fun q => gP (G.getD (ixOf q) dflt)) (over_tup hv) (fun _ => rfl) hl (by
    intro q hq
    refine ⟨_, rfl, fun acc => ⟨rfl, fun _ => ?_⟩⟩
    rw [x_op, h0, b_ok, hk, b_ok]
    exact ix_ok (List.all_eq_true.mp h q hq) _)
  rw [z, List.filter_eq_self.mpr (fun _ _ => rfl)]
  unfold chosen
  rw [List.map_map]
  rfl
theorem getD_map {rows : List GRow} {i : Nat} (h : i < rows.length) : (rows.map gP)[i]? = some (gP (rows.getD i dflt)) := by
  rw [List.getElem?_map, List.getElem?_eq_getElem h, List.getD_eq_getElem?_getD, List.getElem?_eq_getElem h]
  rfl
theorem ix_lst {M : Mem} {l : Nat} {xs : List P} {i : Nat} {x : P} (hl : M[l]? = some (.lst xs)) (h : xs[i]? = some x) : pIx (.loc l) (.int (i : Nat)) M = .ok x M := by
  have e : pIxO (.loc l) (.int (i : Nat)) M = some x := by
    unfold pIxO
    have : seqM M l = some xs := by unfold seqM; rw [hl]
    dsimp only
    rw [this]
    dsimp only
    exact atI_nat h
  unfold pIx
  rw [e]
theorem mod_int (i j : Nat) (h : 0 < j) (M : Mem) : pMod (.int (i : Nat)) (.int (j : Nat)) M = .ok (.int ((i % j : Nat) : Int)) M := by
  show (if (0 : Int) < (j : Nat) then Res.ok (P.int ((i : Int) % (j : Int))) M else .bad) = _
  rw [if_pos (by omega)]
  congr 1
theorem okG_get {rows : List GRow} (h : ∀ r ∈ rows, okG r) {i : Nat} (hi : i < rows.length) : okG (rows.getD i dflt) := by
  rw [List.getD_eq_getElem?_getD, List.getElem?_eq_getElem hi]
  exact h _ (List.getElem_mem hi)
theorem link_eq {rows : List GRow} (h : ∀ r ∈ rows, okG r) {i : Nat} (hi : i < rows.length) (M : Mem) : pEq (rows.getD i dflt).2.1 (rows.getD ((i + 1) % rows.length) dflt).1 M = .ok (.bl (link rows i)) M := by
  have h1 := okG_get h hi
  have h2 := okG_get h (Nat.mod_lt (i + 1) (by omega : 0 < rows.length))
  exact eq_nice h1.n2 h2.n1 (Nat.le_trans h1.d2 (by decide)) (Nat.le_trans h2.d1 (by decide))
theorem link_ne {rows : List GRow} (h : ∀ r ∈ rows, okG r) {i : Nat} (hi : i < rows.length) (M : Mem) : pNe (rows.getD i dflt).2.1 (rows.getD ((i + 1) % rows.length) dflt).1 M = .ok (.bl (!link rows i)) M := by
  have h1 := okG_get h hi
  have h2 := okG_get h (Nat.mod_lt (i + 1) (by omega : 0 < rows.length))
  exact ne_nice h1.n2 h2.n1 (Nat.le_trans h1.d2 (by decide)) (Nat.le_trans h2.d1 (by decide))
theorem sum_lst {M : Mem} {l : Nat} {is : List Int} (h : M[l]? = some (.lst (is.map P.int))) : pSum [.loc l] M = .ok (.int is.sum) M := by
  have e : seqM M l = some (is.map P.int) := by unfold seqM; rw [h]
  have e2 : allInt (is.map P.int) = some is := by
    clear h e
    induction is with
    | nil => rfl
    | cons a l ih => simp [allInt, ih]
  unfold pSum
  dsimp only
  rw [e]
  show (match allInt (is.map P.int) with | some bs => Res.ok (P.int bs.sum) M | none => .bad) = _
  rw [e2]
theorem isB_ok {n : Nat} (hn : n ≤ 60) (q : P) : (isIntB q && okIx n q) = okIx n q := by
  cases q with
  | int i =>
    simp only [isIntB, okIx]
    by_cases h0 : 0 ≤ i <;> by_cases h1 : i < (n : Int)
    · have : -1000000000000000000000000000000000000000000000000000000000000 < i := by omega
      have : i < 1000000000000000000000000000000000000000000000000000000000000 := by omega
      simp [*]
    · simp [h1]
    · simp [h0]
    · simp [h0]
  | _ => rfl
end Hd
end
section
set_option linter.all false
set_option maxRecDepth 100000
set_option maxHeartbeats 1000000
namespace Hd
open PySem PySem.Spec PyProof.Rows L2 TV
/-- what a judged value is: seen, and if it is a tuple then of plain trees -/
structure Val (v : P) (M : Mem) : Prop where
  seen : Seen v M
  tup : ∀ qs, v = .tup qs → niceL qs = true ∧ depL qs ≤ 6 ∧ qs.length ≤ 1000
theorem line_1000 {n : Nat} (h : n ≤ 1000) : n ≤ sizeLine := Nat.le_trans h (by decide)
theorem counted_all {xs : List P} {g : P → Bool} {f : Nat → Bool} (h : ∀ i x, xs[i]? = some x → g (.tup [.int (i : Nat), x]) = f i) : (counted xs).all g = (List.range xs.length).all f := by
  unfold counted
  rw [Bool.eq_iff_iff, List.all_eq_true, List.all_eq_true]
  constructor
  · intro z i hi
    have hi := List.mem_range.mp hi
    have e : xs[i]? = some xs[i] := List.getElem?_eq_getElem hi
    rw [← h i _ e]
    exact z _ (List.mem_mapIdx.mpr ⟨i, hi, rfl⟩)
  · intro z p hp
    obtain ⟨i, hi, rfl⟩ := List.mem_mapIdx.mp hp
    rw [h i _ (List.getElem?_eq_getElem hi)]
    exact z i (List.mem_range.mpr hi)
theorem counted_mem {xs : List P} {p : P} (h : p ∈ counted xs) : ∃ (i : Nat) (x : P), i < xs.length ∧ xs[i]? = some x ∧ p = .tup [.int (i : Nat), x] := by
  unfold counted at h
  obtain ⟨i, hi, rfl⟩ := List.mem_mapIdx.mp h
  exact ⟨i, _, hi, List.getElem?_eq_getElem hi, rfl⟩
theorem counted_len (xs : List P) : (counted xs).length = xs.length := by unfold counted; simp
def gLink (rows : List GRow) : P → Bool
  | .tup [.int i, _] => link rows i.toNat
  | _ => false
theorem gLink_at {rows : List GRow} {i : Nat} {x : P} : gLink rows (.tup [.int (i : Nat), x]) = link rows i := by
  show link rows (Int.toNat (i : Nat)) = _
  rw [Int.toNat_natCast]
section
variable {G : List GRow} {qs : List P} {M : Mem}
abbrev ro (G : List GRow) (qs : List P) (x2 : Option P) : Rho := [some (.tup (G.map gP)), some (.tup qs), x2, none, none, none, none, none, none]
/-- all([is_integer(index) and 0 <= index < len(differences) for index in value]) -/
theorem ro_ints (hl : qs.length ≤ 1000) (hn : niceL qs = true) (hg : G.length ≤ 60) (x2 : Option P) :
    eArgs pAll (aCons (eLc (iOver (eVar 1)) (TV.gName 3) tYesF (eAnd (eArgs F_is_integer (aCons (eVar 3) aNil)) (eChain pLe pLt (eC (.int 0)) (eVar 3) (eArgs pLen (aCons (eVar 0) aNil)))) [3]) aNil) (ro G qs x2) M =
      .ok (.bl (qs.all (okIx G.length))) (M ++ [.lst (qs.map fun p => .bl (okIx G.length p))]) := by
  rw [x_args, x_cons]
  refine (all_lc (g := okIx G.length) (over_tup rfl) (fun _ => rfl) (line_1000 hl) ?_).trans rfl
  intro q hq
  refine ⟨_, rfl, fun acc => ?_⟩
  have hq := niceL_iff.mp hn q hq
  have e3 : ∀ M, eVar 3 (((wipeR (ro G qs x2) [3])).set 3 (some q)) M = .ok q M := fun _ => rfl
  have e0 : ∀ M, eVar 0 (((wipeR (ro G qs x2) [3])).set 3 (some q)) M = .ok (.tup (G.map gP)) M := fun _ => rfl
  rw [x_and, x_args, x_cons, e3, b_ok, x_nil, b_ok, b_ok, is_integer_spec q _ (seen_nice hq _), b_ok, cAnd_bl]
  have hb := isB_ok hg q
  by_cases c : isIntB q = true
  · rw [if_pos c]
    rw [c, Bool.true_and] at hb
    cases q with
    | int i =>
      simp only [x_chain, x_C, b_ok, e3, o_le, cAnd_bl, x_args, x_cons, e0, x_nil, len_tup, List.length_map, o_lt, okIx]
      by_cases h0 : 0 ≤ i <;> simp [h0]
    | _ => cases c
  · rw [if_neg c]
    have : isIntB q = false := by simpa using c
    rw [this, Bool.false_and] at hb
    rw [← hb]
theorem seqM_of {l : Nat} {xs : List P} (h : M[l]? = some (.lst xs)) : seqM M l = some xs := by unfold seqM; rw [h]
/-- all([row[1] == rows[(at + 1) % len(rows)][0] for at, row in enumerate(rows)]) -/
theorem ro_links {rows : List GRow} {l : Nat} (hl : M[l]? = some (.lst (rows.map gP))) (h : ∀ r ∈ rows, okG r) (h1 : rows.length ≤ 1000) :
    eArgs pAll (aCons (eLc (iArgs enumI (aCons (eVar 2) aNil)) (TV.gTup [(TV.gName 4), (TV.gName 5)]) tYesF (eOp (pEq) (eOp pIx (eVar 5) (eC (.int 1))) (eOp pIx (eOp pIx (eVar 2) (eOp pMod (eOp pAdd (eVar 4) (eC (.int 1))) (eArgs pLen (aCons (eVar 2) aNil)))) (eC (.int 0)))) [4, 5]) aNil) (ro G qs (some (.loc l))) M =
      .ok (.bl (linked rows)) (M ++ [.lst ((counted (rows.map gP)).map fun p => .bl (gLink rows p))]) := by
  have hit : iArgs enumI (aCons (eVar 2) aNil) (ro G qs (some (.loc l))) M = .ok ⟨counted (rows.map gP), fun M' => ask (seqM M' l = some (rows.map gP))⟩ M := by
    unfold iArgs
    rw [x_cons, x_v2, b_ok, x_nil, b_ok, b_ok]
    unfold enumI
    dsimp only
    rw [seqM_of hl]
  have hlt : l < M.length := (List.getElem?_eq_some_iff.mp hl).1
  have hl2 : ∀ acc : List P, (M ++ [MO.lst acc])[l]? = some (.lst (rows.map gP)) := fun acc => by rw [List.getElem?_append_left hlt]; exact hl
  rw [x_args, x_cons]
  have key := all_lc (g := gLink rows) (fe := (eOp (pEq) (eOp pIx (eVar 5) (eC (.int 1))) (eOp pIx (eOp pIx (eVar 2) (eOp pMod (eOp pAdd (eVar 4) (eC (.int 1))) (eArgs pLen (aCons (eVar 2) aNil)))) (eC (.int 0))))) (gt := TV.gTup [(TV.gName 4), (TV.gName 5)]) (own := [4, 5]) hit (fun acc => ask_true (seqM_of (hl2 acc))) (by rw [counted_len, List.length_map]; exact line_1000 h1) (by
    intro p hp
    obtain ⟨i, x, hi, hx, rfl⟩ := counted_mem hp
    rw [List.length_map] at hi
    have hx2 : x = gP (rows.getD i dflt) := by
      rw [getD_map hi] at hx
      exact (Option.some.inj hx).symm
    subst hx2
    refine ⟨_, rfl, fun acc => ?_⟩
    have hpos : 0 < rows.length := by omega
    have e2 : ∀ M, eVar 2 [some (.tup (G.map gP)), some (.tup qs), some (P.loc l), none, some (.int (i : Nat)), some (gP (rows.getD i dflt)), none, none, none] M = .ok (.loc l) M := fun _ => rfl
    have x1 : ∀ M, pIx (gP (rows.getD i dflt)) (.int 1) M = .ok (rows.getD i dflt).2.1 M := fun _ => rfl
    have x2 := ix_lst (hl2 acc) (getD_map (Nat.mod_lt (i + 1) hpos))
    have x3 : ∀ (r : GRow) M, pIx (gP r) (.int 0) M = .ok r.1 M := fun _ _ => rfl
    have ln : pLen [.loc l] (M ++ [.lst acc]) = .ok (.int (rows.length : Nat)) (M ++ [.lst acc]) := by
      unfold pLen lenOf
      simp [hl2 acc]
    have md := mod_int (i + 1) rows.length hpos (M ++ [.lst acc])
    rw [Int.natCast_add] at md
    have md : pMod (.int ((i : Int) + 1)) (.int (rows.length : Nat)) (M ++ [.lst acc]) = _ := md
    show eOp _ _ _ [some (.tup (G.map gP)), some (.tup qs), some (P.loc l), none, some (.int (i : Nat)), some (gP (rows.getD i dflt)), none, none, none] _ = _
    simp only [x_op, x_v5, x_v4, e2, x_C, b_ok, x1, x_args, x_cons, x_nil, ln, o_add, md, x2, x3]
    rw [link_eq h hi]
    rw [gLink_at])
  refine key.trans ?_
  congr 2
  unfold linked
  have e := counted_all (xs := rows.map gP) (g := gLink rows) (f := link rows) (fun i x _ => gLink_at)
  rw [List.length_map] at e
  exact e
/-- sum([number for one, other, number in rows]) < 0 -/
theorem ro_sum {rows : List GRow} {l : Nat} (hl : M[l]? = some (.lst (rows.map gP))) (h1 : rows.length ≤ 1000) :
    eArgs pSum (aCons (eLc (iOver (eVar 2)) (TV.gTup [(TV.gName 6), (TV.gName 7), (TV.gName 8)]) tYesF (eVar 8) [6, 7, 8]) aNil) (ro G qs (some (.loc l))) M = .ok (.int (total rows)) (M ++ [.lst ((rows.map (·.2.2)).map P.int)]) := by
  obtain ⟨I, hi, hit, hg⟩ := over_lst (fa := eVar 2) (ρ := ro G qs (some (.loc l))) (l := l) rfl hl
  have hlt : l < M.length := (List.getElem?_eq_some_iff.mp hl).1
  have z := x_lc (ft := tYesF) (fe := eVar 8) (gt := TV.gTup [(TV.gName 6), (TV.gName 7), (TV.gName 8)]) (own := [6, 7, 8]) (c := fun _ => true) (f := fun p => match p with | .tup [_, _, n] => n | _ => .non) hi (fun acc => hg _ (by rw [List.getElem?_append_left hlt]; exact hl)) (by rw [hit, List.length_map]; exact line_1000 h1) (by
    intro p hp
    rw [hit] at hp
    obtain ⟨r, hr, rfl⟩ := List.mem_map.mp hp
    exact ⟨_, rfl, fun acc => ⟨rfl, fun _ => rfl⟩⟩)
  rw [x_args, x_cons, z, hit, List.filter_eq_self.mpr (fun _ _ => rfl)]
  have e : (rows.map gP).map (fun p => match p with | .tup [_, _, n] => n | _ => P.non) = (rows.map (·.2.2)).map P.int := by
    rw [List.map_map, List.map_map]
    rfl
  rw [e, b_ok, x_nil, b_ok, b_ok]
  exact sum_lst (by simp)
end
theorem is_ring_of_spec {G : List GRow} (hG : ∀ r ∈ G, okG r) (hg : G.length ≤ 60) {v : P} {M : Mem} (hv : Val v M) : F_is_ring_of [.tup (G.map gP), v] M = .ok (.bl (ringB G v)) M := by
  unfold F_is_ring_of mkF m_is_ring_of
  rw [if_pos (show [P.tup (G.map gP), v].length = 2 from rfl)]
  by_cases ht : ∃ qs, v = .tup qs
  · obtain ⟨qs, rfl⟩ := ht
    obtain ⟨n1, n2, n3⟩ := hv.tup qs rfl
    have hst : startR 9 [P.tup (G.map gP), .tup qs] = ro G qs none := rfl
    rw [hst, z_seq, z_if]
    simp only [x_tor, x_tnot, x_val, x_args, x_cons, x_v1, x_C, x_nil, b_ok, isi_tup_tup, cVal_bl, Bool.not_true, Bool.false_eq_true, if_false, x_op, len_tup, eq_int, s_ok]
    have hR : ringB G (.tup qs) = (!qs.isEmpty && (qs.all (okIx G.length) && (linked (chosen G qs) && decide (total (chosen G qs) < 0)))) := rfl
    rw [hR]
    clear hR
    cases qs with
    | nil => simp
    | cons q0 qr =>
      generalize hqs : q0 :: qr = qs at *
      have ne : qs.isEmpty = false := by rw [← hqs]; rfl
      have nl : ¬ ((qs.length : Int) = 0) := by rw [← hqs]; simp; omega
      rw [if_neg (by simpa using nl), z_next, t_next, z_seq, z_if, x_tnot, x_val, ro_ints n3 n1 hg, ne]
      simp only [b_ok, cVal_bl, s_ok]
      cases ha : qs.all (okIx G.length) with
      | false => simp
      | true =>
        simp only [Bool.not_true, Bool.false_eq_true, if_false, z_next, t_next, Bool.not_false, Bool.true_and]
        have hc := chosen_mem hG ha
        have hcl : (chosen G qs).length ≤ 1000 := by unfold chosen; rw [List.length_map]; exact n3
        rw [z_seq, z_asg, rows_lc (G := G) (qs := qs) (a := none) (c1 := none) ha (line_1000 n3) rfl (fun _ _ => rfl) (fun _ _ => rfl), s_ok, t_next]
        generalize hM1 : M ++ [MO.lst (qs.map fun p => .bl (okIx G.length p))] = M1
        have hset : List.set (ro G qs none) 2 (some (.loc M1.length)) = ro G qs (some (.loc M1.length)) := rfl
        have g1 : (M1 ++ [MO.lst ((chosen G qs).map gP)])[M1.length]? = some (.lst ((chosen G qs).map gP)) := by simp
        rw [hset, z_seq, z_if, x_tnot, x_val, ro_links g1 hc hcl]
        simp only [b_ok, cVal_bl, s_ok]
        cases hk : linked (chosen G qs) with
        | false =>
          simp only [Bool.not_false, if_true, z_ret, x_C, s_ok, t_ret, f_ret, Bool.false_and]
          rw [← hM1]
          simp only [List.append_assoc]
          exact g_blA _ _
        | true =>
          simp only [Bool.not_true, Bool.false_eq_true, if_false, z_next, t_next, Bool.true_and]
          rw [z_ret, x_op, ro_sum (by rw [List.getElem?_append_left (by simp)]; exact g1) hcl]
          simp only [b_ok, x_C, o_lt, s_ok, f_ret]
          rw [← hM1]
          simp only [List.append_assoc]
          exact g_blA _ _
  · have hn : ∀ qs, v ≠ .tup qs := fun qs z => ht ⟨qs, z⟩
    rw [ringB_no hn]
    simp [startR, isi_tup_no hv.seen hn]
end Hd
end
section
set_option linter.all false
set_option maxRecDepth 100000
set_option maxHeartbeats 1000000
namespace Hd
open PySem PySem.Spec PyProof.Rows L2 TV
section
variable {G : List GRow} {qs : List P} {M : Mem}
abbrev lo (G : List GRow) (qs : List P) (x2 : Option P) : Rho := [some (.tup (G.map gP)), some (.tup qs), x2, none, none, none]
theorem filter_sub {xs : List P} {c : P → Bool} (h : niceL xs = true) : niceL (xs.filter c) = true := niceL_iff.mpr fun p hp => niceL_iff.mp h p (List.mem_filter.mp hp).1
theorem filter_dep {xs : List P} {c : P → Bool} {n : Nat} (h : depL xs ≤ n) : depL (xs.filter c) ≤ n := depL_le.mpr fun p hp => depL_le.mp h p (List.mem_filter.mp hp).1
theorem filter_not {α : Type} {xs : List α} {c : α → Bool} : (xs.filter fun x => !c x).isEmpty = xs.all c := by
  induction xs with
  | nil => rfl
  | cons a l ih =>
    rw [List.filter_cons, List.all_cons]
    cases c a <;> simp [ih]
theorem lst0 (ρ : Rho) (M : Mem) : eArgs gList aNil ρ M = .ok (.loc M.length) (M ++ [.lst []]) := rfl
/-- a list that only reads against [] -/
theorem lc_ne {fi : FI} {gt : FG} {ft : FT} {fe : FE} {own : List Nat} {ρ : Rho} {I : Iter} {c : P → Bool} {f : P → P} (hi : fi ρ M = .ok I M) (hg : ∀ acc, I.guard (M ++ [.lst acc]) = true) (hl : I.items.length ≤ sizeLine)
    (hb : ∀ p ∈ I.items, ∃ ρ1, gt p (wipeR ρ own) = some ρ1 ∧ ∀ acc, ft ρ1 (M ++ [.lst acc]) = .ok (c p) (M ++ [.lst acc]) ∧ (c p = true → fe ρ1 (M ++ [.lst acc]) = .ok (f p) (M ++ [.lst acc])))
    (hn : niceL ((I.items.filter c).map f) = true) (hd : depL ((I.items.filter c).map f) ≤ 7) :
    eOp pNe (eLc fi gt ft fe own) (eArgs gList aNil) ρ M = .ok (.bl (!(I.items.filter c).isEmpty)) (M ++ [.lst ((I.items.filter c).map f)] ++ [.lst []]) := by
  rw [x_op, x_lc (c := c) (f := f) hi hg hl hb, b_ok, lst0, b_ok, ne_nil (xs := (I.items.filter c).map f) (by simp) (by simp) hn hd]
  simp
theorem lc_eq {fi : FI} {gt : FG} {ft : FT} {fe : FE} {own : List Nat} {ρ : Rho} {I : Iter} {c : P → Bool} {f : P → P} (hi : fi ρ M = .ok I M) (hg : ∀ acc, I.guard (M ++ [.lst acc]) = true) (hl : I.items.length ≤ sizeLine)
    (hb : ∀ p ∈ I.items, ∃ ρ1, gt p (wipeR ρ own) = some ρ1 ∧ ∀ acc, ft ρ1 (M ++ [.lst acc]) = .ok (c p) (M ++ [.lst acc]) ∧ (c p = true → fe ρ1 (M ++ [.lst acc]) = .ok (f p) (M ++ [.lst acc])))
    (hn : niceL ((I.items.filter c).map f) = true) (hd : depL ((I.items.filter c).map f) ≤ 7) :
    eOp pEq (eLc fi gt ft fe own) (eArgs gList aNil) ρ M = .ok (.bl (I.items.filter c).isEmpty) (M ++ [.lst ((I.items.filter c).map f)] ++ [.lst []]) := by
  rw [x_op, x_lc (c := c) (f := f) hi hg hl hb, b_ok, lst0, b_ok, eq_nil (xs := (I.items.filter c).map f) (by simp) (by simp) hn hd]
  simp
theorem lo_sum {rows : List GRow} {l : Nat} (hl : M[l]? = some (.lst (rows.map gP))) (h1 : rows.length ≤ 1000) :
    eArgs pSum (aCons (eLc (iOver (eVar 2)) (TV.gName 4) tYesF (eOp pIx (eVar 4) (eC (.int 2))) [4]) aNil) (lo G qs (some (.loc l))) M = .ok (.int (total rows)) (M ++ [.lst ((rows.map (·.2.2)).map P.int)]) := by
  obtain ⟨I, hi, hit, hg⟩ := over_lst (fa := eVar 2) (ρ := lo G qs (some (.loc l))) (l := l) rfl hl
  have hlt : l < M.length := (List.getElem?_eq_some_iff.mp hl).1
  have z := x_lc (ft := tYesF) (fe := eOp pIx (eVar 4) (eC (.int 2))) (gt := TV.gName 4) (own := [4]) (c := fun _ => true) (f := fun p => match p with | .tup [_, _, n] => n | _ => .non) hi (fun acc => hg _ (by rw [List.getElem?_append_left hlt]; exact hl)) (by rw [hit, List.length_map]; exact line_1000 h1) (by
    intro p hp
    rw [hit] at hp
    obtain ⟨r, hr, rfl⟩ := List.mem_map.mp hp
    exact ⟨_, rfl, fun acc => ⟨rfl, fun _ => rfl⟩⟩)
  rw [x_args, x_cons, z, hit, List.filter_eq_self.mpr (fun _ _ => rfl)]
  have e : (rows.map gP).map (fun p => match p with | .tup [_, _, n] => n | _ => P.non) = (rows.map (·.2.2)).map P.int := by
    rw [List.map_map, List.map_map]
    rfl
  rw [e, b_ok, x_nil, b_ok, b_ok]
  exact sum_lst (by simp)
theorem upto_nice (n : Nat) (hn : n ≤ 1000) (c : P → Bool) : niceL (((upto 0 n).filter c).map id) = true ∧ depL (((upto 0 n).filter c).map id) ≤ 7 := by
  rw [List.map_id]
  constructor
  · refine niceL_iff.mpr fun p hp => ?_
    obtain ⟨i, hi, rfl⟩ := List.mem_map.mp (List.mem_filter.mp hp).1
    have := List.mem_range.mp hi
    simp only [nice, decide_eq_true_eq]
    have : (0 + (i : Int)).natAbs = i := by omega
    rw [this]
    exact Nat.lt_of_lt_of_le (show i < 1000 by omega) (by decide)
  · refine depL_le.mpr fun p hp => ?_
    obtain ⟨i, hi, rfl⟩ := List.mem_map.mp (List.mem_filter.mp hp).1
    simp [dep]
def gI (f : Nat → Bool) : P → Bool
  | .int i => f i.toNat
  | _ => false
theorem gI_upto {f : Nat → Bool} {n : Nat} : (upto 0 n).all (gI f) = (List.range n).all f := by
  unfold upto
  rw [List.all_map]
  congr 1
  funext i
  show f (0 + (i : Int)).toNat = f i
  congr 1
  omega
theorem lo_links {rows : List GRow} {l : Nat} (hl : M[l]? = some (.lst (rows.map gP))) (h : ∀ r ∈ rows, okG r) (h1 : rows.length ≤ 1000) : ∃ G1 : Mem,
    eOp (pEq) (eLc (iArgs rng1 (aCons (eArgs pLen (aCons (eVar 2) aNil)) aNil)) (TV.gName 5) (tVal (eOp (pNe) (eOp pIx (eOp pIx (eVar 2) (eVar 5)) (eC (.int 1))) (eOp pIx (eOp pIx (eVar 2) (eOp pMod (eOp pAdd (eVar 5) (eC (.int 1))) (eArgs pLen (aCons (eVar 2) aNil)))) (eC (.int 0))))) (eVar 5) [5]) (eArgs gList aNil) (lo G qs (some (.loc l))) M =
      .ok (.bl (linked rows)) (M ++ G1) := by
  have hlt : l < M.length := (List.getElem?_eq_some_iff.mp hl).1
  have hl2 : ∀ acc : List P, (M ++ [MO.lst acc])[l]? = some (.lst (rows.map gP)) := fun acc => by rw [List.getElem?_append_left hlt]; exact hl
  have ln : ∀ M' : Mem, M'[l]? = some (.lst (rows.map gP)) → pLen [.loc l] M' = .ok (.int (rows.length : Nat)) M' := fun M' h' => by
    unfold pLen lenOf
    simp [h']
  have hit : iArgs rng1 (aCons (eArgs pLen (aCons (eVar 2) aNil)) aNil) (lo G qs (some (.loc l))) M = .ok ⟨upto 0 rows.length, fun _ => true⟩ M := by
    unfold iArgs
    rw [x_cons, x_args, x_cons, x_v2, b_ok, x_nil, b_ok, b_ok, ln M hl, b_ok, x_nil, b_ok, b_ok, rng_one _ (by constructor <;> omega), Int.toNat_natCast]
  have z := lc_eq (M := M) (fi := iArgs rng1 (aCons (eArgs pLen (aCons (eVar 2) aNil)) aNil)) (gt := TV.gName 5) (ft := (tVal (eOp (pNe) (eOp pIx (eOp pIx (eVar 2) (eVar 5)) (eC (.int 1))) (eOp pIx (eOp pIx (eVar 2) (eOp pMod (eOp pAdd (eVar 5) (eC (.int 1))) (eArgs pLen (aCons (eVar 2) aNil)))) (eC (.int 0)))))) (fe := eVar 5) (own := [5]) (ρ := lo G qs (some (.loc l))) (c := fun p => !gI (link rows) p) (f := id) hit (fun _ => rfl) (by show (upto 0 rows.length).length ≤ _; unfold upto; simp; exact line_1000 h1) (by
    intro p hp
    obtain ⟨i, hi, rfl⟩ := List.mem_map.mp hp
    have hi := List.mem_range.mp hi
    rw [Int.zero_add]
    refine ⟨_, rfl, fun acc => ⟨?_, fun _ => rfl⟩⟩
    have hpos : 0 < rows.length := by omega
    have x0 := ix_lst (hl2 acc) (getD_map hi)
    have x2 := ix_lst (hl2 acc) (getD_map (Nat.mod_lt (i + 1) hpos))
    have x1 : ∀ (r : GRow) M, pIx (gP r) (.int 1) M = .ok r.2.1 M := fun _ _ => rfl
    have x3 : ∀ (r : GRow) M, pIx (gP r) (.int 0) M = .ok r.1 M := fun _ _ => rfl
    have md := mod_int (i + 1) rows.length hpos (M ++ [.lst acc])
    rw [Int.natCast_add] at md
    have md : pMod (.int ((i : Int) + 1)) (.int (rows.length : Nat)) (M ++ [.lst acc]) = _ := md
    show tVal _ [some (.tup (G.map gP)), some (.tup qs), some (P.loc l), none, none, some (.int (i : Nat))] _ = _
    simp only [x_val, x_op, x_v5, x_v2, x_C, b_ok, x_args, x_cons, x_nil, ln _ (hl2 acc), o_add, md, x0, x2, x1, x3]
    rw [link_ne h hi, b_ok, cVal_bl]
    show _ = Res.ok (!link rows (Int.toNat (i : Nat))) _
    rw [Int.toNat_natCast]) (upto_nice _ h1 _).1 (upto_nice _ h1 _).2
  rw [List.append_assoc] at z
  dsimp only at z
  rw [filter_not, gI_upto] at z
  exact ⟨_, z⟩
end
theorem nice_gP {G : List GRow} (h : ∀ r ∈ G, okG r ∧ (r.2.2).natAbs < 10 ^ 70) : niceL (G.map gP) = true ∧ depL (G.map gP) ≤ 4 := by
  constructor
  · refine niceL_iff.mpr fun p hp => ?_
    obtain ⟨r, hr, rfl⟩ := List.mem_map.mp hp
    have := (h r hr)
    simp only [gP, nice, niceL, this.1.n1, this.1.n2, this.2, decide_true, Bool.and_self]
  · refine depL_le.mpr fun p hp => ?_
    obtain ⟨r, hr, rfl⟩ := List.mem_map.mp hp
    have h1 := (h r hr).1.d1
    have h2 := (h r hr).1.d2
    simp only [gP, dep, depL]
    omega
/-- the law's own look at a ring whose indices are in range -/
theorem law_is_chain_spec {G : List GRow} (hG : ∀ r ∈ G, okG r ∧ (r.2.2).natAbs < 10 ^ 70) {qs : List P} (n3 : qs.length ≤ 1000) (ha : qs.all (okIx G.length) = true) (hne : qs ≠ []) (hk : linked (chosen G qs) = true) (ht : total (chosen G qs) < 0) (M : Mem) : F_law_is_chain [.tup (G.map gP), .tup qs] M = .ok (.bl true) M := by
  unfold F_law_is_chain mkF m_law_is_chain
  rw [if_pos (show [P.tup (G.map gP), P.tup qs].length = 2 from rfl)]
  have hst : startR 6 [P.tup (G.map gP), .tup qs] = lo G qs none := rfl
  have hc := chosen_mem (fun r hr => (hG r hr).1) ha
  have hc2 : ∀ r ∈ chosen G qs, okG r ∧ (r.2.2).natAbs < 10 ^ 70 := by
    intro r hr
    obtain ⟨q, hq, rfl⟩ := List.mem_map.mp hr
    obtain ⟨i, rfl, h0, h1⟩ := okIx_int (List.all_eq_true.mp ha q hq)
    have hl : i.toNat < G.length := by omega
    rw [List.getD_eq_getElem?_getD]
    show okG (G[i.toNat]?.getD dflt) ∧ _
    rw [show ixOf (P.int i) = i.toNat from rfl, List.getElem?_eq_getElem hl]
    exact hG _ (List.getElem_mem hl)
  have hcl : (chosen G qs).length ≤ 1000 := by unfold chosen; rw [List.length_map]; exact n3
  rw [hst, z_seq, z_asg, rows_lc (G := G) (qs := qs) (a := none) (c1 := none) ha (line_1000 n3) rfl (fun _ _ => rfl) (fun _ _ => rfl), s_ok, t_next]
  have hset : List.set (lo G qs none) 2 (some (.loc M.length)) = lo G qs (some (.loc M.length)) := rfl
  have g1 : (M ++ [MO.lst ((chosen G qs).map gP)])[M.length]? = some (.lst ((chosen G qs).map gP)) := by simp
  have g2 : (M ++ [MO.lst ((chosen G qs).map gP)] ++ [MO.lst []])[M.length]? = some (.lst ((chosen G qs).map gP)) := by simp
  have ne : ((chosen G qs).map gP).isEmpty = false := by
    cases qs with
    | nil => exact absurd rfl hne
    | cons _ _ => rfl
  have e1 : eOp pEq (eVar 2) (eArgs gList aNil) (lo G qs (some (.loc M.length))) (M ++ [MO.lst ((chosen G qs).map gP)]) = .ok (.bl false) (M ++ [MO.lst ((chosen G qs).map gP)] ++ [MO.lst []]) := by
    rw [x_op, x_v2, b_ok, lst0, b_ok, eq_nil g2 (by simp) (nice_gP hc2).1 (Nat.le_trans (nice_gP hc2).2 (by decide)), ne]
  have e2 := lo_sum (M := M ++ [MO.lst ((chosen G qs).map gP)] ++ [MO.lst []]) (G := G) (qs := qs) g2 hcl
  obtain ⟨G2, e3⟩ := lo_links (M := M ++ [MO.lst ((chosen G qs).map gP)] ++ [MO.lst []] ++ [MO.lst (((chosen G qs).map (·.2.2)).map P.int)]) (G := G) (qs := qs) (l := M.length) (by simp) hc hcl
  rw [hk] at e3
  have hs : ¬ 0 ≤ total (chosen G qs) := by omega
  rw [hset, z_seq, z_if, x_tor, x_val, e1, b_ok, cVal_bl, b_ok, if_neg (by simp), x_val, x_op, e2, b_ok, x_C, b_ok, o_ge, b_ok, cVal_bl, s_ok]
  simp only [hs, decide_false, Bool.false_eq_true, if_false, z_next, t_next]
  rw [z_ret, e3, s_ok, f_ret]
  simp only [List.append_assoc]
  exact g_blA _ _
end Hd
end
section
set_option linter.all false
set_option maxRecDepth 100000
set_option maxHeartbeats 1000000
namespace Hd
open PySem PySem.Spec PyProof.Rows L2 TV
def toG (r : Row) : GRow := (pt r.1, pt r.2.1, r.2.2)
theorem gP_toG (rs : List Row) : (rs.map toG).map gP = rs.map rowP := by rw [List.map_map]; rfl
theorem okG_toG (r : Row) : okG (toG r) := ⟨nice_pt _, nice_pt _, Nat.le_trans (dep_pt1 _) (by decide), Nat.le_trans (dep_pt1 _) (by decide)⟩
theorem is_ring_spec {G : List GRow} (hG : ∀ r ∈ G, okG r) (hg : G.length ≤ 60) {v : P} {M : Mem} (hq : F_require_differences [.tup (G.map gP)] M = .ok .non M) (hv : Val v M) : F_is_ring [.tup (G.map gP), v] M = .ok (.bl (ringB G v)) M := by
  unfold F_is_ring mkF m_is_ring
  simp [startR, hq, is_ring_of_spec hG hg hv]
/-! ### dicts of all kinds -/
def KeyOk (p : P) : Prop := (∃ j, j < 12 ∧ p = pt j) ∨ ∀ j, j < 12 → keyOf p ≠ some (key j)
structure Dct (kvs : List (P × P)) : Prop where
  keys : ∀ kv ∈ kvs, KeyOk kv.1
  kn : ∀ kv ∈ kvs, nice kv.1 = true ∧ dep kv.1 ≤ 3 ∧ wgt kv.1 ≤ 1000
  vn : ∀ kv ∈ kvs, nice kv.2 = true ∧ dep kv.2 ≤ 3 ∧ wgt kv.2 ≤ 1000
  nd : (kvs.map fun kv => keyOf kv.1).Nodup
  len : kvs.length ≤ 20
def val (kvs : List (P × P)) (j : Nat) : P := (lookK kvs (key j)).getD .non
def num (kvs : List (P × P)) (j : Nat) : Int := match val kvs j with
  | .int i => i
  | _ => 0
theorem has_look {kvs : List (P × P)} {k : NestedKey} (h : hasK kvs k = true) : ∃ v, lookK kvs k = some v ∧ ∃ kv ∈ kvs, kv.2 = v := by
  unfold hasK at h
  unfold lookK
  obtain ⟨kv, hm, he⟩ := List.any_eq_true.mp h
  cases e : kvs.find? fun kv => decide (keyOf kv.1 = some k) with
  | none =>
    rw [List.find?_eq_none] at e
    exact absurd he (e kv hm)
  | some kv' => exact ⟨kv'.2, rfl, kv', List.mem_of_find?_eq_some e, rfl⟩
section
variable {M : Mem} {l j : Nat} {kvs : List (P × P)}
theorem in_any (h : M[l]? = some (.dct kvs)) : pIn false (pt j) (.loc l) M = .ok (.bl (hasK kvs (key j))) M := by
  have hd : dictOfM M l = some kvs := by unfold dictOfM; rw [h]
  unfold pIn pInB
  dsimp only
  rw [h]
  dsimp only
  rw [hd, key_pt]
  dsimp only
  rw [if_pos (key_dep j)]
  rfl
theorem notin_any (h : M[l]? = some (.dct kvs)) : pIn true (pt j) (.loc l) M = .ok (.bl (!hasK kvs (key j))) M := by
  have hd : dictOfM M l = some kvs := by unfold dictOfM; rw [h]
  unfold pIn pInB
  dsimp only
  rw [h]
  dsimp only
  rw [hd, key_pt]
  dsimp only
  rw [if_pos (key_dep j)]
  rfl
theorem ix_any (h : M[l]? = some (.dct kvs)) (hk : hasK kvs (key j) = true) : pIx (.loc l) (pt j) M = .ok (val kvs j) M := by
  have hd : dictOfM M l = some kvs := by unfold dictOfM; rw [h]
  have hs : seqM M l = none := by unfold seqM; rw [h]
  obtain ⟨v, hv, _⟩ := has_look hk
  have e : pIxO (.loc l) (pt j) M = some v := by
    unfold pIxO
    dsimp only
    rw [hs]
    dsimp only
    rw [hd, key_pt]
    dsimp only
    rw [if_pos (key_dep j), hv]
  unfold pIx val
  rw [e, hv]
  rfl
theorem over_any {fa : FE} {ρ : Rho} (h : fa ρ M = .ok (.loc l) M) (hl : M[l]? = some (.dct kvs)) :
    ∃ I, iOver fa ρ M = .ok I M ∧ I.items = kvs.map (·.1) ∧ ∀ M' : Mem, M'[l]? = some (.dct kvs) → I.guard M' = true := by
  refine ⟨⟨kvs.map (·.1), fun M' => ask (∃ kvs', M'[l]? = some (.dct kvs') ∧ kvs'.map (·.1) = kvs.map (·.1))⟩, ?_, rfl, ?_⟩
  · unfold iOver
    rw [h]
    show (match overI (.loc l) M with | some I => Res.ok I M | none => .bad) = _
    unfold overI
    dsimp only
    rw [hl]
  · intro M' hM'
    exact ask_true ⟨_, hM', rfl⟩
theorem len_any (h : M[l]? = some (.dct kvs)) : pLen [.loc l] M = .ok (.int (kvs.length : Nat)) M := by
  unfold pLen lenOf
  simp [h]
theorem isi_any (h : M[l]? = some (.dct kvs)) : pIsi [.loc l, .ty "dict"] M = .ok (.bl true) M := by
  have : tyName (.loc l) M = some "dict" := by simp [tyName, h]
  exact isi_of this rfl
end
theorem full_list {α : Type} [DecidableEq α] {l m : List α} (nd : l.Nodup) (h : ∀ x ∈ l, x ∈ m) (hl : m.length ≤ l.length) : ∀ x ∈ m, x ∈ l := by
  have sub : ∀ (l m : List α), l.Nodup → (∀ x ∈ l, x ∈ m) → l.length ≤ m.length := by
    intro l
    induction l with
    | nil => intro m _ _; exact Nat.zero_le _
    | cons a l ih =>
      intro m nd h
      have ha := h a List.mem_cons_self
      have nd' := List.nodup_cons.mp nd
      have e := List.length_erase_of_mem ha
      have pos : 0 < m.length := List.length_pos_of_mem ha
      have ih := ih (m.erase a) nd'.2 (fun x hx => by
        have ne : x ≠ a := fun z => nd'.1 (z ▸ hx)
        exact (List.mem_erase_of_ne ne).mpr (h x (List.mem_cons_of_mem _ hx)))
      rw [List.length_cons]
      omega
  intro x hx
  by_cases c : x ∈ l
  · exact c
  · have e := List.length_erase_of_mem hx
    have pos : 0 < m.length := List.length_pos_of_mem hx
    have := sub l (m.erase x) nd (fun y hy => by
      have ne : y ≠ x := fun z => c (z ▸ hy)
      exact (List.mem_erase_of_ne ne).mpr (h y hy))
    omega
/-- a dict with just so many keys as points, and all points, has points as keys alone -/
theorem keys_all {kvs : List (P × P)} (h : Dct kvs) {ks : List Nat} (kl : ∀ i ∈ ks, i < 12) (kn : ks.Nodup) (hlen : kvs.length = ks.length) (ha : ks.all (fun j => hasK kvs (key j)) = true) : ∀ kv ∈ kvs, ∃ j, j < 12 ∧ kv.1 = pt j := by
  intro kv hkv
  have nd : (ks.map fun j => some (key j)).Nodup := by
    refine List.Pairwise.map (R := fun a b => a ≠ b ∧ a < 12 ∧ b < 12) _ (fun a b hab z => key_ne hab.2.1 hab.2.2 hab.1 (Option.some.inj z)) ?_
    exact List.Pairwise.imp_of_mem (fun {a b} ha hb hab => ⟨hab, kl a ha, kl b hb⟩) kn
  have sub : ∀ x ∈ ks.map fun j => some (key j), x ∈ kvs.map fun kv => keyOf kv.1 := by
    intro x hx
    obtain ⟨j, hj, rfl⟩ := List.mem_map.mp hx
    have := List.all_eq_true.mp ha j hj
    unfold hasK at this
    obtain ⟨kv', hm, he⟩ := List.any_eq_true.mp this
    exact List.mem_map.mpr ⟨kv', hm, of_decide_eq_true he⟩
  have := full_list nd sub (by simp [hlen]) (keyOf kv.1) (List.mem_map.mpr ⟨kv, hkv, rfl⟩)
  obtain ⟨j, hj, e⟩ := List.mem_map.mp this
  rcases h.keys kv hkv with z | z
  · exact z
  · exact absurd e.symm (z j (kl j hj))
def fitsB (rs : List Row) (ks : List Nat) (kvs : List (P × P)) : Bool :=
  decide (kvs.length = ks.length) && (ks.all (fun j => hasK kvs (key j)) && (ks.all (fun j => isWideB (val kvs j)) && (decide (num kvs 0 = 0) && rs.all fun r => decide (num kvs r.1 - num kvs r.2.1 ≤ r.2.2))))
def fitsV (rs : List Row) (ks : List Nat) (v : P) (M : Mem) : Bool := match v with
  | .loc l => match M[l]? with
    | some (.dct kvs) => fitsB rs ks kvs
    | _ => false
  | _ => false
theorem fitsB_perm {rs : List Row} {ks ks' : List Nat} (h : ks.Perm ks') (kvs : List (P × P)) : fitsB rs ks kvs = fitsB rs ks' kvs := by
  unfold fitsB
  have al : ∀ f : Nat → Bool, ks.all f = ks'.all f := fun f => by
    rw [Bool.eq_iff_iff, List.all_eq_true, List.all_eq_true]
    exact ⟨fun z x hx => z x (h.mem_iff.mpr hx), fun z x hx => z x (h.mem_iff.mp hx)⟩
  rw [h.length_eq, al, al]
theorem wide_num {kvs : List (P × P)} {j : Nat} (h : isWideB (val kvs j) = true) : val kvs j = .int (num kvs j) := by
  unfold num
  cases e : val kvs j with
  | int i => rfl
  | _ => rw [e] at h; cases h
end Hd
end
section
set_option linter.all false
set_option maxRecDepth 100000
set_option maxHeartbeats 1000000
namespace Hd
open PySem PySem.Spec PyProof.Rows L2 TV
def VD (v : P) (M : Mem) : Prop := nice v = true ∨ ∃ l, v = .loc l ∧ ((∃ xs, M[l]? = some (.lst xs)) ∨ ∃ kvs, M[l]? = some (.dct kvs) ∧ Dct kvs)
theorem VD.more {v : P} {M : Mem} (h : VD v M) (G : Mem) : VD v (M ++ G) := by
  rcases h with h | ⟨l, rfl, h⟩
  · exact .inl h
  · refine .inr ⟨l, rfl, ?_⟩
    rcases h with ⟨xs, h⟩ | ⟨kvs, h, d⟩
    · exact .inl ⟨xs, by rw [List.getElem?_append_left (List.getElem?_eq_some_iff.mp h).1]; exact h⟩
    · exact .inr ⟨kvs, by rw [List.getElem?_append_left (List.getElem?_eq_some_iff.mp h).1]; exact h, d⟩
/-- a value that is no dict -/
theorem VD.no {v : P} {M : Mem} (h : VD v M) : (pIsi [v, .ty "dict"] M = .ok (.bl false) M ∧ (∀ rs ks, fitsV rs ks v M = false)) ∨ ∃ l kvs, v = .loc l ∧ M[l]? = some (.dct kvs) ∧ Dct kvs := by
  rcases h with h | ⟨l, rfl, ⟨xs, h⟩ | ⟨kvs, h, d⟩⟩
  · left
    cases v with
    | non => exact ⟨rfl, fun _ _ => rfl⟩
    | bl _ => exact ⟨rfl, fun _ _ => rfl⟩
    | int _ => exact ⟨rfl, fun _ _ => rfl⟩
    | str _ => exact ⟨rfl, fun _ _ => rfl⟩
    | tup _ => exact ⟨rfl, fun _ _ => rfl⟩
    | ty _ => cases h
    | loc _ => cases h
  · left
    have : tyName (.loc l) M = some "list" := by simp [tyName, h]
    exact ⟨isi_of this rfl, fun rs ks => by unfold fitsV; dsimp only; rw [h]⟩
  · exact .inr ⟨l, kvs, rfl, h, d⟩
section
variable {M : Mem} {lp i k : Nat} {ks : List Nat} {ρ : Rho}
theorem all_ix {ks : List Nat} {g : Nat → Bool} (kl : ∀ i ∈ ks, i < 12) : (ks.map pt).all (fun p => g (ptIx p)) = ks.all g := by
  rw [List.all_map, Bool.eq_iff_iff, List.all_eq_true, List.all_eq_true]
  constructor
  · intro z j hj
    have := z j hj
    simpa [ptIx_pt (kl j hj)] using this
  · intro z j hj
    have := z j hj
    simpa [ptIx_pt (kl j hj)] using this
/-- all([.. for point in points]) -/
theorem pts_all {fe : FE} {g : Nat → Bool} (hv : eVar i ρ M = .ok (.loc lp) M) (hp : M[lp]? = some (.lst (ks.map pt))) (kl : ∀ i ∈ ks, i < 12) (k5 : ks.length ≤ 12) (h : ∀ j ∈ ks, ∀ acc, fe ((wipeR ρ [k]).set k (some (pt j))) (M ++ [.lst acc]) = .ok (.bl (g j)) (M ++ [.lst acc])) : ∃ G,
    eArgs pAll (aCons (eLc (iOver (eVar i)) (TV.gName k) tYesF fe [k]) aNil) ρ M = .ok (.bl (ks.all g)) (M ++ G) := by
  obtain ⟨I, hi, hit, hg⟩ := over_lst (fa := eVar i) (ρ := ρ) (l := lp) hv hp
  have plt : lp < M.length := (List.getElem?_eq_some_iff.mp hp).1
  have z := all_lc (g := fun p => g (ptIx p)) (fe := fe) (gt := TV.gName k) (own := [k]) hi (fun acc => hg _ (by rw [List.getElem?_append_left plt]; exact hp)) (by rw [hit, List.length_map]; exact Nat.le_of_lt (line_5 k5)) (by
    intro p hp'
    rw [hit] at hp'
    obtain ⟨j, hj, rfl⟩ := List.mem_map.mp hp'
    refine ⟨_, rfl, fun acc => (h j hj acc).trans ?_⟩
    rw [ptIx_pt (kl j hj)])
  rw [hit, all_ix kl] at z
  rw [x_args, x_cons]
  exact ⟨_, z⟩
theorem nice_pts (ks : List Nat) : niceL (ks.map pt) = true := niceL_iff.mpr fun p hp => by
  obtain ⟨j, _, rfl⟩ := List.mem_map.mp hp
  exact nice_pt j
theorem dep_pts (ks : List Nat) : depL (ks.map pt) ≤ 1 := depL_le.mpr fun p hp => by
  obtain ⟨j, _, rfl⟩ := List.mem_map.mp hp
  exact dep_pt1 j
/-- [point for point in points if not ..] != [] -/
theorem pts_ne {ft : FT} {g : Nat → Bool} (hv : eVar i ρ M = .ok (.loc lp) M) (hp : M[lp]? = some (.lst (ks.map pt))) (kl : ∀ i ∈ ks, i < 12) (k5 : ks.length ≤ 12) (hk : ∀ q M, eVar k ((wipeR ρ [k]).set k (some q)) M = .ok q M)
    (h : ∀ j ∈ ks, ∀ acc, ft ((wipeR ρ [k]).set k (some (pt j))) (M ++ [.lst acc]) = .ok (!g j) (M ++ [.lst acc])) : ∃ G,
    eOp pNe (eLc (iOver (eVar i)) (TV.gName k) ft (eVar k) [k]) (eArgs gList aNil) ρ M = .ok (.bl (!ks.all g)) (M ++ G) := by
  obtain ⟨I, hi, hit, hg⟩ := over_lst (fa := eVar i) (ρ := ρ) (l := lp) hv hp
  have plt : lp < M.length := (List.getElem?_eq_some_iff.mp hp).1
  have z := lc_ne (c := fun p => !g (ptIx p)) (f := id) (ft := ft) (fe := eVar k) (gt := TV.gName k) (own := [k]) hi (fun acc => hg _ (by rw [List.getElem?_append_left plt]; exact hp)) (by rw [hit, List.length_map]; exact Nat.le_of_lt (line_5 k5)) (by
    intro p hp'
    rw [hit] at hp'
    obtain ⟨j, hj, rfl⟩ := List.mem_map.mp hp'
    refine ⟨_, rfl, fun acc => ⟨(h j hj acc).trans ?_, fun _ => hk _ _⟩⟩
    rw [ptIx_pt (kl j hj)]) (by rw [List.map_id, hit]; exact filter_sub (nice_pts ks)) (by rw [List.map_id, hit]; exact Nat.le_trans (filter_dep (dep_pts ks)) (by decide))
  rw [filter_not, hit, all_ix kl, List.append_assoc] at z
  exact ⟨_, z⟩
/-- the rows' test, for the defs' two ways -/
theorem row_test {kvs : List (P × P)} {l : Nat} (hl : M[l]? = some (.dct kvs)) {r : Row} (h1 : hasK kvs (key r.1) = true) (h2 : hasK kvs (key r.2.1) = true) (w1 : isWideB (val kvs r.1) = true) (w2 : isWideB (val kvs r.2.1) = true) :
    pIx (.loc l) (pt r.1) M = .ok (.int (num kvs r.1)) M ∧ pIx (.loc l) (pt r.2.1) M = .ok (.int (num kvs r.2.1)) M := by
  rw [ix_any hl h1, ix_any hl h2, wide_num w1, wide_num w2]
  exact ⟨rfl, rfl⟩
end
abbrev fo (rs : List Row) (v : P) (x2 : Option P) : Rho := [some (.tup (rs.map rowP)), some v, x2, none, none, none, none]
theorem okRows.sz {rs : List Row} (h : okRows rs) : rs.length ≤ sizeLine := Nat.le_trans h.2 (by decide)
theorem all_has {kvs : List (P × P)} {ks : List Nat} {f : Nat → Bool} (h : ks.all f = true) {j : Nat} (hj : j ∈ ks) : f j = true := List.all_eq_true.mp h j hj
theorem getl {M G : Mem} {l : Nat} {o : MO} (h : M[l]? = some o) : (M ++ G)[l]? = some o := by rw [List.getElem?_append_left (List.getElem?_eq_some_iff.mp h).1]; exact h
theorem is_fitting_spec {rs : List Row} (hr : okRows rs) {v : P} {M : Mem} (hv : VD v M) : F_is_fitting [.tup (rs.map rowP), v] M = .ok (.bl (fitsV rs (ptsOf rs [0]) v M)) M := by
  obtain ⟨ks, pp, kc, ep⟩ := points_of_spec rs hr.1 M
  have P0 := pts_of hr.1 pp
  have k5 := small_len P0.lt P0.nd
  have v' := hv.more [.lst (ks.map pt)]
  generalize hM1 : M ++ [MO.lst (ks.map pt)] = M1 at *
  have hp : M1[M.length]? = some (.lst (ks.map pt)) := by rw [← hM1]; simp
  unfold F_is_fitting mkF m_is_fitting
  rw [if_pos (show [P.tup (rs.map rowP), v].length = 2 from rfl)]
  have hst : startR 7 [P.tup (rs.map rowP), v] = fo rs v none := rfl
  have a0 : sExpr (eArgs F_require_differences (aCons (eVar 0) aNil)) (fo rs v none) M = .next (fo rs v none) M := by
    simp only [z_expr, x_args, x_cons, x_v0, b_ok, x_nil, hr.req, s_ok]
  have a1 : sAsg (eArgs F_points_of (aCons (eVar 0) aNil)) (TV.gName 2) (fo rs v none) M = .next (fo rs v (some (.loc M.length))) M1 := by
    simp only [z_asg, x_args, x_cons, x_v0, b_ok, x_nil, ep, s_ok]
    rfl
  rw [hst, z_seq, a0, t_next, z_seq, a1, t_next, z_seq, z_if, x_tor, x_tnot, x_val]
  have hGc : ∀ (b : Bool) (G : Mem), gc M (.ok (.bl b) (M1 ++ G)) = .ok (.bl b) M := fun b G => by rw [← hM1, List.append_assoc]; exact g_blA _ _
  have hGc0 : ∀ (b : Bool), gc M (.ok (.bl b) M1) = .ok (.bl b) M := fun b => by rw [← hM1]; exact g_blA _ _
  rcases v'.no with ⟨hi, hf⟩ | ⟨l, kvs, rfl, hl, d⟩
  · have hi' : pIsi [v, .ty "dict"] M1 = .ok (.bl false) M1 := hi
    have hf' : fitsV rs (ptsOf rs [0]) v M = false := by
      rcases hv.no with ⟨_, h⟩ | ⟨l, kvs, rfl, hl, _⟩
      · exact h _ _
      · have hl' := getl (G := [.lst (ks.map pt)]) hl
        rw [hM1] at hl'
        rw [isi_any hl'] at hi'
        cases hi'
    rw [hf']
    simp [hi', hGc0]
  · have hlM : M[l]? = some (.dct kvs) := by
      rcases hv with h | ⟨l', e, ⟨xs, h⟩ | ⟨kvs', h, _⟩⟩
      · cases h
      · cases e
        have := getl (G := [.lst (ks.map pt)]) h
        rw [hM1, hl] at this
        cases this
      · cases e
        have := getl (G := [.lst (ks.map pt)]) h
        rw [hM1, hl] at this
        cases this
        exact h
    have hV : fitsV rs (ptsOf rs [0]) (.loc l) M = fitsB rs ks kvs := by
      unfold fitsV
      dsimp only
      rw [hlM]
      exact (fitsB_perm pp kvs).symm
    rw [hV]
    have i1 := isi_any hl
    have e1 := len_any hl
    have e2 := L3 hp
    simp only [x_args, x_cons, x_v1, x_C, x_nil, b_ok, i1, cVal_bl, Bool.not_true, Bool.false_eq_true, if_false, x_tor, x_val, x_op, x_v2, e1, e2, ne_int]
    unfold fitsB
    by_cases c1 : kvs.length = ks.length
    · have c1' : (kvs.length : Int) = (ks.length : Int) := by omega
      simp only [c1, c1', decide_true, Bool.not_true, Bool.false_eq_true, if_false, Bool.true_and]
      obtain ⟨G1, q1⟩ := pts_all (M := M1) (k := 3) (i := 2) (ρ := fo rs (.loc l) (some (.loc M.length))) (fe := eOp (pIn false) (eVar 3) (eVar 1)) (g := fun j => hasK kvs (key j)) rfl hp P0.lt k5 (fun j hj acc => by
        show eOp _ _ _ [some (.tup (rs.map rowP)), some (.loc l), some (.loc M.length), some (pt j), none, none, none] _ = _
        rw [x_op, x_v3, b_ok, x_v1, b_ok]
        exact in_any (getl hl))
      rw [x_args, x_cons] at q1
      simp only [x_nil, b_ok] at q1
      rw [x_tnot, x_val, x_args, x_cons]
      simp only [x_nil, b_ok]
      rw [q1]
      simp only [b_ok, cVal_bl, s_ok]
      cases c2 : ks.all (fun j => hasK kvs (key j)) with
      | false => simp [hGc]
      | true =>
        simp only [Bool.not_true, Bool.false_eq_true, if_false, z_next, t_next, Bool.true_and]
        have hk := keys_all d P0.lt P0.nd c1 c2
        have hl1 := getl (G := G1) hl
        have hp1 := getl (G := G1) hp
        generalize hM2 : M1 ++ G1 = M2 at *
        have hGc2 : ∀ (b : Bool) (G : Mem), gc M (.ok (.bl b) (M2 ++ G)) = .ok (.bl b) M := fun b G => by rw [← hM2, List.append_assoc]; exact hGc _ _
        obtain ⟨I, hi, hit, hg⟩ := over_any (fa := eVar 1) (ρ := fo rs (.loc l) (some (.loc M.length))) (l := l) rfl hl1
        have z := all_lc (g := fun _ => true) (fe := eArgs F_is_point (aCons (eVar 3) aNil)) (gt := TV.gName 3) (own := [3]) hi (fun acc => hg _ (getl hl1)) (by rw [hit, List.length_map, c1]; exact Nat.le_of_lt (line_5 k5)) (by
          intro p hp'
          rw [hit] at hp'
          obtain ⟨kv, hkv, rfl⟩ := List.mem_map.mp hp'
          obtain ⟨j, _, ej⟩ := hk kv hkv
          rw [ej]
          refine ⟨_, rfl, fun acc => ?_⟩
          show eArgs _ _ [some (.tup (rs.map rowP)), some (.loc l), some (.loc M.length), some (pt j), none, none, none] _ = _
          simp only [x_args, x_cons, x_v3, b_ok, x_nil, point_ok])
        have ht : I.items.all (fun _ => true) = true := by simp
        rw [ht] at z
        rw [z_seq, z_if, x_tnot, x_val, x_args, x_cons]
        simp only [x_nil]
        simp only [b_ok]
        rw [z]
        simp only [b_ok, cVal_bl, s_ok, Bool.not_true, Bool.false_eq_true, if_false, z_next, t_next]
        generalize hM3 : M2 ++ [MO.lst (I.items.map fun p => P.bl true)] = M3 at *
        have hl2 : M3[l]? = some (.dct kvs) := by rw [← hM3]; exact getl hl1
        have hp2 : M3[M.length]? = some (.lst (ks.map pt)) := by rw [← hM3]; exact getl hp1
        have hGc3 : ∀ (b : Bool) (G : Mem), gc M (.ok (.bl b) (M3 ++ G)) = .ok (.bl b) M := fun b G => by rw [← hM3, List.append_assoc]; exact hGc2 _ _
        obtain ⟨G4, q4⟩ := pts_all (M := M3) (k := 3) (i := 2) (ρ := fo rs (.loc l) (some (.loc M.length))) (fe := eArgs F_is_wide (aCons (eOp pIx (eVar 1) (eVar 3)) aNil)) (g := fun j => isWideB (val kvs j)) rfl hp2 P0.lt k5 (fun j hj acc => by
          show eArgs _ _ [some (.tup (rs.map rowP)), some (.loc l), some (.loc M.length), some (pt j), none, none, none] _ = _
          have hj' := all_has (kvs := kvs) c2 hj
          obtain ⟨w, hw, kv, hkv, ekv⟩ := has_look hj'
          have hn : nice (val kvs j) = true := by unfold val; rw [hw, ← ekv]; exact (d.vn kv hkv).1
          simp only [x_args, x_cons, x_op, x_v1, x_v3, b_ok, x_nil, ix_any (getl hl2) hj']
          exact is_wide_spec _ _ (seen_nice hn _))
        rw [z_seq, z_if, x_tor, x_tnot, x_val, q4]
        simp only [b_ok, cVal_bl, s_ok]
        cases c4 : ks.all (fun j => isWideB (val kvs j)) with
        | false => simp [hGc3]
        | true =>
          have hl4 := getl (G := G4) hl2
          have z0 := all_has (kvs := kvs) c2 P0.zero
          have w0 := all_has (kvs := kvs) c4 P0.zero
          have e0 : pIx (.loc l) (.str "") (M3 ++ G4) = .ok (.int (num kvs 0)) (M3 ++ G4) := by
            have := ix_any hl4 z0
            rw [wide_num w0] at this
            exact this
          simp only [Bool.not_true, Bool.false_eq_true, if_false, x_val, x_op, x_v1, x_C, b_ok, e0, ne_int, cVal_bl, s_ok, Bool.true_and]
          by_cases c5 : num kvs 0 = 0
          · simp only [c5, decide_true, Bool.not_true, Bool.false_eq_true, if_false, z_next, t_next, Bool.true_and]
            have z := all_lc (fi := iOver (eVar 0)) (ρ := fo rs (.loc l) (some (.loc M.length))) (M := M3 ++ G4) (g := fun p => match p with | .tup [p, q, .int n] => decide (num kvs (ptIx p) - num kvs (ptIx q) ≤ n) | _ => false) (fe := (eOp (pLe) (eOp pSub (eOp pIx (eVar 1) (eVar 4)) (eOp pIx (eVar 1) (eVar 5))) (eVar 6))) (gt := (TV.gTup [(TV.gName 4), (TV.gName 5), (TV.gName 6)])) (own := [4, 5, 6]) (over_tup rfl) (fun _ => rfl) (by simpa using hr.sz) (by
              intro p hp'
              obtain ⟨r, hrr, rfl⟩ := List.mem_map.mp hp'
              obtain ⟨k1, k2⟩ := P0.rows r hrr
              refine ⟨_, rfl, fun acc => ?_⟩
              obtain ⟨t1, t2⟩ := row_test (r := r) (getl (G := [.lst acc]) hl4) (all_has (kvs := kvs) c2 k1) (all_has (kvs := kvs) c2 k2) (all_has (kvs := kvs) c4 k1) (all_has (kvs := kvs) c4 k2)
              show eOp _ _ _ [some (.tup (rs.map rowP)), some (.loc l), some (.loc M.length), none, some (pt r.1), some (pt r.2.1), some (.int r.2.2)] _ = _
              simp only [x_op, x_v1, x_v4, x_v5, x_v6, b_ok, t1, t2, o_sub, o_le]
              show _ = Res.ok (P.bl (decide (num kvs (ptIx (pt r.1)) - num kvs (ptIx (pt r.2.1)) ≤ r.2.2))) _
              rw [ptIx_pt (P0.lt _ k1), ptIx_pt (P0.lt _ k2)])
            rw [z_ret, x_args, x_cons]
            simp only [x_nil]
            simp only [b_ok]
            rw [z, s_ok, f_ret, List.append_assoc, hGc3]
            congr 2
            dsimp only
            rw [List.all_map, Bool.eq_iff_iff, List.all_eq_true, List.all_eq_true]
            constructor
            · intro z r hrr
              have := z r hrr
              obtain ⟨k1, k2⟩ := P0.rows r hrr
              have this : decide (num kvs (ptIx (pt r.1)) - num kvs (ptIx (pt r.2.1)) ≤ r.2.2) = true := this
              rwa [ptIx_pt (P0.lt _ k1), ptIx_pt (P0.lt _ k2)] at this
            · intro z r hrr
              have := z r hrr
              obtain ⟨k1, k2⟩ := P0.rows r hrr
              show decide (num kvs (ptIx (pt r.1)) - num kvs (ptIx (pt r.2.1)) ≤ r.2.2) = true
              rwa [ptIx_pt (P0.lt _ k1), ptIx_pt (P0.lt _ k2)]
          · simp [c5, hGc3]
    · have c1' : ¬ (kvs.length : Int) = (ks.length : Int) := by omega
      simp [c1, c1', hGc0]
end Hd
end
section
set_option linter.all false
set_option maxRecDepth 100000
set_option maxHeartbeats 1000000
namespace Hd
/-! ### no change: all rows hold -/
theorem step_noch {s : Bf} {i : Nat} {r : Row} (h : (bfStep s i r).ch = false) : bfStep s i r = s ∧ s.N r.1 ≤ s.N r.2.1 + r.2.2 := by
  unfold bfStep at *
  by_cases c : s.N r.2.1 + r.2.2 < s.N r.1
  · rw [if_pos c] at h; cases h
  · rw [if_neg c]; exact ⟨rfl, by omega⟩
theorem ch_mono : ∀ (qs : List Row) (i : Nat) (s : Bf), s.ch = true → (bfFrom i qs s).ch = true
  | [], _, _, h => h
  | r :: qs, i, s, h => by
    refine ch_mono qs (i + 1) (bfStep s i r) ?_
    unfold bfStep
    split
    · rfl
    · exact h
theorem from_noch : ∀ (qs : List Row) (i : Nat) (s : Bf), (bfFrom i qs s).ch = false → (bfFrom i qs s).N = s.N ∧ ∀ r ∈ qs, s.N r.1 ≤ s.N r.2.1 + r.2.2
  | [], _, s, _ => ⟨rfl, fun r hr => (by cases hr)⟩
  | r :: qs, i, s, h => by
    have h1 : (bfStep s i r).ch = false := by
      cases e : (bfStep s i r).ch with
      | false => rfl
      | true =>
        have := ch_mono qs (i + 1) _ e
        rw [show bfFrom i (r :: qs) s = bfFrom (i + 1) qs (bfStep s i r) from rfl, this] at h
        cases h
    obtain ⟨e, hle⟩ := step_noch h1
    have h2 : (bfFrom (i + 1) qs (bfStep s i r)).ch = false := h
    obtain ⟨h3, h4⟩ := from_noch qs (i + 1) _ h2
    rw [e] at h3 h4
    refine ⟨?_, fun q hq => ?_⟩
    · show (bfFrom (i + 1) qs (bfStep s i r)).N = _
      rw [e]; exact h3
    · rcases List.mem_cons.mp hq with rfl | z
      · exact hle
      · exact h4 q z
theorem settle_fits {rs : List Row} : ∀ (R : Nat) (s : Bf), (settle rs R s).1 = false → Fits rs (settle rs R s).2.N
  | 0, s, h => by cases h
  | R + 1, s, h => by
    unfold settle at h ⊢
    by_cases c : (bfRound rs s).ch = true
    · rw [if_pos c] at h ⊢
      exact settle_fits R _ h
    · rw [if_neg c] at h ⊢
      have q : (bfRound rs s).ch = false := by simpa using c
      obtain ⟨h1, h2⟩ := from_noch rs 0 ⟨false, s.N, s.ss, s.S⟩ q
      intro r hr
      have h1 : (bfRound rs s).N = s.N := h1
      show (bfRound rs s).N r.1 - (bfRound rs s).N r.2.1 ≤ r.2.2
      rw [h1]
      have : s.N r.1 ≤ s.N r.2.1 + r.2.2 := h2 r hr
      omega
/-! ### each cycle of last steps has a negative sum -/
def wt (rs : List Row) (s : Bf) (u : Nat) : Int := match rs[(s.S u).toNat]? with
  | some r => r.2.2
  | none => 0
def ws (rs : List Row) (s : Bf) : Nat → Nat → Int
  | 0, _ => 0
  | k + 1, u => wt rs s u + ws rs s k (nx rs s u)
theorem ws_add (rs : List Row) (s : Bf) : ∀ (a b u : Nat), ws rs s (a + b) u = ws rs s a u + ws rs s b (it rs s a u)
  | 0, b, u => by simp [ws, it]
  | a + 1, b, u => by
    rw [show a + 1 + b = (a + b) + 1 by omega, ws, ws_add rs s a b, ws, it]
    omega
theorem BInv.row {rs : List Row} {s : Bf} (h : BInv rs s) {u : Nat} (hu : u ∈ s.ss) : (u, nx rs s u, wt rs s u) ∈ rs ∧ s.N (nx rs s u) + wt rs s u ≤ s.N u ∧ ∃ i : Nat, s.S u = i ∧ rs[i]? = some (u, nx rs s u, wt rs s u) := by
  obtain ⟨i, r, h1, h2, h3, h4⟩ := h.pre u hu
  have e1 : nx rs s u = r.2.1 := by unfold nx; rw [h1, Int.toNat_natCast, h2]
  have e2 : wt rs s u = r.2.2 := by unfold wt; rw [h1, Int.toNat_natCast, h2]
  have e3 : r = (u, nx rs s u, wt rs s u) := by rw [e1, e2, ← h3]
  refine ⟨?_, by rw [e1, e2]; exact h4, i, h1, by rw [← e3]; exact h2⟩
  rw [← e3]
  exact List.mem_of_getElem? h2
theorem chain_le {rs : List Row} {s : Bf} (h : BInv rs s) : ∀ (k u : Nat), (∀ j, j < k → it rs s j u ∈ s.ss) → s.N (it rs s k u) + ws rs s k u ≤ s.N u
  | 0, u, _ => by simp [it, ws]
  | k + 1, u, hj => by
    have h0 := (h.row (hj 0 (Nat.succ_pos k))).2.1
    have ih := chain_le h k (nx rs s u) fun j hjk => hj (j + 1) (by omega)
    show s.N (it rs s k (nx rs s u)) + (wt rs s u + ws rs s k (nx rs s u)) ≤ s.N u
    have h0 : s.N (nx rs s u) + wt rs s u ≤ s.N u := h0
    omega
def Neg (rs : List Row) (s : Bf) : Prop := ∀ u p, 1 ≤ p → it rs s p u = u → (∀ j, 1 ≤ j → j < p → it rs s j u ≠ u) → (∀ j, j < p → it rs s j u ∈ s.ss) → ws rs s p u < 0
/-- around the ring from another point -/
theorem turn_ring {rs : List Row} {s : Bf} {u p : Nat} (hp : it rs s p u = u) (j : Nat) : it rs s p (it rs s j u) = it rs s j u ∧ ws rs s p (it rs s j u) = ws rs s p u := by
  have e1 : it rs s p (it rs s j u) = it rs s j u := by
    rw [← it_add, Nat.add_comm, it_add, hp]
  refine ⟨e1, ?_⟩
  have a1 := ws_add rs s j p u
  have a2 := ws_add rs s p j u
  rw [hp, Nat.add_comm] at a2
  omega
theorem it_mul {rs : List Row} {s : Bf} {u p : Nat} (hp : it rs s p u = u) (j : Nat) (hj : j ≤ p) : it rs s (p - j) (it rs s j u) = u := by
  rw [← it_add, show p - j + j = p by omega, hp]
/-- the points of a least ring are different -/
theorem ring_distinct {rs : List Row} {s : Bf} {u p : Nat} (hp : it rs s p u = u) (hm : ∀ j, 1 ≤ j → j < p → it rs s j u ≠ u) : ∀ i j, i < j → j < p → it rs s i u ≠ it rs s j u := by
  intro i j hij hj e
  have h1 : it rs s (p - j) (it rs s j u) = u := it_mul hp j (by omega)
  rw [← e, ← it_add] at h1
  exact hm (p - j + i) (by omega) (by omega) h1
theorem turn_least {rs : List Row} {s : Bf} {u p : Nat} (hp : it rs s p u = u) (hm : ∀ j, 1 ≤ j → j < p → it rs s j u ≠ u) (i : Nat) (hi : i < p) : ∀ j, 1 ≤ j → j < p → it rs s j (it rs s i u) ≠ it rs s i u := by
  intro j h1 h2 e
  rw [← it_add] at e
  by_cases c : j + i < p
  · exact ring_distinct hp hm i (j + i) (by omega) c e.symm
  · have e2 : it rs s (j + i) u = it rs s (j + i - p) u := by
      rw [show j + i = (j + i - p) + p by omega, it_add, hp]
      congr 1
      omega
    rw [e2] at e
    exact ring_distinct hp hm (j + i - p) i (by omega) hi e
theorem Neg.step {rs : List Row} {s : Bf} (hB : BInv rs s) (hN : Neg rs s) {i : Nat} {r : Row} (hi : rs[i]? = some r) : Neg rs (bfStep s i r) := by
  unfold bfStep
  by_cases c : s.N r.2.1 + r.2.2 < s.N r.1
  · rw [if_pos c]
    generalize hs' : (⟨true, up s.N r.1 (s.N r.2.1 + r.2.2), addPt s.ss r.1, up s.S r.1 i⟩ : Bf) = s'
    have eS : ∀ u, u ≠ r.1 → s'.S u = s.S u := fun u hu => by rw [← hs']; show up s.S r.1 i u = _; unfold up; rw [if_neg hu]
    have eS1 : s'.S r.1 = i := by rw [← hs']; show up s.S r.1 i r.1 = _; unfold up; rw [if_pos rfl]
    have n0 : ∀ u, u ≠ r.1 → nx rs s' u = nx rs s u := fun u hu => by unfold nx; rw [eS u hu]
    have w0 : ∀ u, u ≠ r.1 → wt rs s' u = wt rs s u := fun u hu => by unfold wt; rw [eS u hu]
    have n1 : nx rs s' r.1 = r.2.1 := by unfold nx; rw [eS1, Int.toNat_natCast, hi]
    have w1 : wt rs s' r.1 = r.2.2 := by unfold wt; rw [eS1, Int.toNat_natCast, hi]
    have ss' : ∀ u, u ∈ s'.ss → u ≠ r.1 → u ∈ s.ss := fun u hu ne => by
      rw [← hs'] at hu
      rcases addPt_mem.mp hu with z | z
      · exact z
      · exact absurd z ne
    have same : ∀ (k u : Nat), (∀ j, j < k → it rs s' j u ≠ r.1) → (∀ j, j ≤ k → it rs s' j u = it rs s j u) ∧ ws rs s' k u = ws rs s k u := by
      intro k
      induction k with
      | zero => intro u _; exact ⟨fun j hj => by rw [show j = 0 by omega]; rfl, rfl⟩
      | succ k ih =>
        intro u h
        have h0 : u ≠ r.1 := h 0 (Nat.succ_pos k)
        obtain ⟨a, b⟩ := ih (nx rs s' u) fun j hj => h (j + 1) (by omega)
        rw [n0 u h0] at a b
        refine ⟨fun j hj => ?_, ?_⟩
        · cases j with
          | zero => rfl
          | succ j => show it rs s' j (nx rs s' u) = it rs s j (nx rs s u); rw [n0 u h0]; exact a j (by omega)
        · show wt rs s' u + ws rs s' k (nx rs s' u) = wt rs s u + ws rs s k (nx rs s u)
          rw [w0 u h0, n0 u h0, b]
    -- a ring through the changed point
    have through : ∀ p, 1 ≤ p → it rs s' p r.1 = r.1 → (∀ j, 1 ≤ j → j < p → it rs s' j r.1 ≠ r.1) → (∀ j, j < p → it rs s' j r.1 ∈ s'.ss) → ws rs s' p r.1 < 0 := by
      intro p p1 hp hm hin
      obtain ⟨q, rfl⟩ : ∃ q, p = q + 1 := ⟨p - 1, by omega⟩
      have hb : ∀ j, j < q → it rs s' j r.2.1 ≠ r.1 := fun j hj => by
        have := hm (j + 1) (by omega) (by omega)
        rw [show it rs s' (j + 1) r.1 = it rs s' j (nx rs s' r.1) from rfl, n1] at this
        exact this
      obtain ⟨a, b⟩ := same q r.2.1 hb
      have e1 : it rs s q r.2.1 = r.1 := by
        rw [← a q (Nat.le_refl _), ← n1]
        exact hp
      have inn : ∀ j, j < q → it rs s j r.2.1 ∈ s.ss := fun j hj => by
        rw [← a j (by omega)]
        refine ss' _ ?_ (hb j hj)
        have := hin (j + 1) (by omega)
        rw [show it rs s' (j + 1) r.1 = it rs s' j (nx rs s' r.1) from rfl, n1] at this
        exact this
      have cl := chain_le hB q r.2.1 inn
      rw [e1] at cl
      show wt rs s' r.1 + ws rs s' q (nx rs s' r.1) < 0
      rw [w1, n1, b]
      omega
    intro u p p1 hp hm hin
    by_cases hc : ∃ j, j < p ∧ it rs s' j u = r.1
    · obtain ⟨j, hj, e⟩ := hc
      obtain ⟨t1, t2⟩ := turn_ring hp j
      have t3 := turn_least hp hm j hj
      rw [e] at t1 t2 t3
      rw [← t2]
      refine through p p1 t1 t3 fun k hk => ?_
      rw [← e, ← it_add]
      by_cases ck : k + j < p
      · exact hin _ ck
      · have e2 : it rs s' (k + j) u = it rs s' (k + j - p) u := by
          rw [show k + j = (k + j - p) + p by omega, it_add, hp]
          congr 1
          omega
        rw [e2]
        exact hin _ (by omega)
    · have hne : ∀ j, j < p → it rs s' j u ≠ r.1 := fun j hj z => hc ⟨j, hj, z⟩
      obtain ⟨a, b⟩ := same p u hne
      rw [b]
      refine hN u p p1 (by rw [← a p (Nat.le_refl _)]; exact hp) (fun j h1 h2 => by rw [← a j (by omega)]; exact hm j h1 h2) fun j hj => ?_
      rw [← a j (by omega)]
      exact ss' _ (hin j hj) (hne j hj)
  · rw [if_neg c]
    exact hN
theorem Neg.from {rs : List Row} : ∀ (qs : List Row) (i : Nat) (s : Bf), (∀ (k : Nat) (r : Row), qs[k]? = some r → rs[i + k]? = some r) → BInv rs s → Neg rs s → Neg rs (bfFrom i qs s)
  | [], _, s, _, _, h => h
  | r :: qs, i, s, hq, hB, h =>
    Neg.from qs (i + 1) (bfStep s i r) (fun k q hk => by
      have := hq (k + 1) q (by simpa using hk)
      rwa [show i + (k + 1) = i + 1 + k by omega] at this) (hB.step (hq 0 r rfl)).1 (h.step hB (hq 0 r rfl))
theorem it_same {rs : List Row} {s s' : Bf} (h : s'.S = s.S) : ∀ (k u : Nat), it rs s' k u = it rs s k u ∧ ws rs s' k u = ws rs s k u
  | 0, u => ⟨rfl, rfl⟩
  | k + 1, u => by
    have e : nx rs s' u = nx rs s u := by unfold nx; rw [h]
    have e2 : wt rs s' u = wt rs s u := by unfold wt; rw [h]
    obtain ⟨a, b⟩ := it_same (rs := rs) h k (nx rs s u)
    constructor
    · show it rs s' k (nx rs s' u) = it rs s k (nx rs s u)
      rw [e, a]
    · show wt rs s' u + ws rs s' k (nx rs s' u) = wt rs s u + ws rs s k (nx rs s u)
      rw [e, e2, b]
theorem Neg.same {rs : List Row} {s s' : Bf} (h : Neg rs s) (hS : s'.S = s.S) (hss : s'.ss = s.ss) : Neg rs s' := by
  intro u p p1 hp hm hin
  rw [(it_same hS p u).2]
  rw [(it_same hS p u).1] at hp
  exact h u p p1 hp (fun j h1 h2 => by rw [← (it_same (rs := rs) hS j u).1]; exact hm j h1 h2) (fun j hj => by rw [← (it_same (rs := rs) hS j u).1, ← hss]; exact hin j hj)
theorem Neg.round {rs : List Row} {s : Bf} (hB : BInv rs s) (h : Neg rs s) : Neg rs (bfRound rs s) :=
  Neg.from rs 0 ⟨false, s.N, s.ss, s.S⟩ (fun k r hk => by rw [Nat.zero_add]; exact hk) ⟨hB.pre, hB.zero⟩ (h.same rfl rfl)
theorem settle_neg {rs : List Row} : ∀ (R : Nat) (s : Bf), BInv rs s → Neg rs s → Neg rs (settle rs R s).2
  | 0, _, _, h => h
  | R + 1, s, hB, h => by
    unfold settle
    split
    · exact settle_neg R _ hB.round (h.round hB)
    · exact h.round hB
theorem s0_neg (rs : List Row) : Neg rs s0 := fun u p p1 _ _ hin => nomatch (show u ∈ ([] : List Nat) from hin 0 p1)
theorem end_neg (rs : List Row) : Neg rs (endS rs).2 := settle_neg _ _ (s0_inv rs) (s0_neg rs)
/-- the walk along last steps -/
theorem walk_of {rs : List Row} {s : Bf} (h : BInv rs s) : ∀ (k u : Nat), (∀ j, j < k → it rs s j u ∈ s.ss) → Wk rs u (it rs s k u) (ws rs s k u) ((List.range k).map fun j => it rs s j u)
  | 0, u, _ => .nil u
  | k + 1, u, hj => by
    have h0 := (h.row (hj 0 (Nat.succ_pos k))).1
    have ih := walk_of h k (nx rs s u) fun j hjk => hj (j + 1) (by omega)
    have := Wk.cons h0 ih
    rw [List.range_succ_eq_map, List.map_cons, List.map_map]
    exact this
theorem flag_fits {rs : List Row} (h : (endS rs).1 = false) : Fits rs (endS rs).2.N := settle_fits _ _ h
/-- a fitting leaves no negative way back -/
theorem no_neg {rs : List Row} {N : Nat → Int} (hf : Fits rs N) {u : Nat} {w : Int} {l : List Nat} (h : Wk rs u u w l) : 0 ≤ w := by
  have := h.fits hf
  omega
theorem ring_walk {rs : List Row} {u p : Nat} (p1 : 1 ≤ p) (hp : it rs (endS rs).2 p u = u) (hm : ∀ j, 1 ≤ j → j < p → it rs (endS rs).2 j u ≠ u) (hin : ∀ j, j < p → it rs (endS rs).2 j u ∈ (endS rs).2.ss) :
    ∃ w l, Wk rs u u w (u :: l) ∧ (u :: l).Nodup ∧ w < 0 := by
  have hB := end_inv rs (rounds rs + 1) s0 (s0_inv rs)
  have hw := walk_of hB p u hin
  have hw : Wk rs u (it rs (endS rs).2 p u) (ws rs (endS rs).2 p u) ((List.range p).map fun j => it rs (endS rs).2 j u) := hw
  rw [hp] at hw
  have nd : ((List.range p).map fun j => it rs (endS rs).2 j u).Nodup := by
    refine List.Pairwise.map (R := fun a b => a < b ∧ b < p) _ (fun a b hab => ring_distinct hp hm a b hab.1 hab.2) ?_
    have : (List.range p).Pairwise (· < ·) := List.pairwise_lt_range
    exact List.Pairwise.imp_of_mem (fun {a b} _ hb hab => ⟨hab, List.mem_range.mp hb⟩) this
  obtain ⟨q, rfl⟩ : ∃ q, p = q + 1 := ⟨p - 1, by omega⟩
  rw [List.range_succ_eq_map, List.map_cons] at hw nd
  exact ⟨_, _, hw, nd, end_neg rs u (q + 1) p1 hp hm hin⟩
end Hd
end
section
set_option linter.all false
set_option maxRecDepth 100000
set_option maxHeartbeats 1000000
namespace Hd
/-! ### Bellman and Ford from one point -/
def Psnd (rs : List Row) (o : Nat) (s : Bp) : Prop := ∀ u ∈ s.ks, ∃ l, Wk rs u o (s.N u) l
def PLe (s s' : Bp) : Prop := ∀ u ∈ s.ks, u ∈ s'.ks ∧ s'.N u ≤ s.N u
theorem PLe.refl (s : Bp) : PLe s s := fun u hu => ⟨hu, Int.le_refl _⟩
theorem PLe.trans {a b c : Bp} (h : PLe a b) (g : PLe b c) : PLe a c := fun u hu => ⟨(g u (h u hu).1).1, Int.le_trans (g u (h u hu).1).2 (h u hu).2⟩
theorem pstep {rs : List Row} {o : Nat} {s : Bp} (h : Psnd rs o s) {i : Nat} {r : Row} (hr : r ∈ rs) : Psnd rs o (bpStep s i r) ∧ PLe s (bpStep s i r) ∧ (r.2.1 ∈ s.ks → r.1 ∈ (bpStep s i r).ks ∧ (bpStep s i r).N r.1 ≤ s.N r.2.1 + r.2.2) := by
  unfold bpStep
  by_cases c : r.2.1 ∈ s.ks ∧ (r.1 ∉ s.ks ∨ s.N r.2.1 + r.2.2 < s.N r.1)
  · rw [if_pos c]
    refine ⟨fun u hu => ?_, fun u hu => ⟨addPt_mem.mpr (.inl hu), ?_⟩, fun _ => ⟨addPt_mem.mpr (.inr rfl), ?_⟩⟩
    · show ∃ l, Wk rs u o (up s.N r.1 (s.N r.2.1 + r.2.2) u) l
      unfold up
      by_cases e : u = r.1
      · rw [if_pos e]
        subst e
        obtain ⟨l, hl⟩ := h _ c.1
        have := Wk.cons hr hl
        rw [Int.add_comm] at this
        exact ⟨_, this⟩
      · rw [if_neg e]
        rcases addPt_mem.mp hu with z | z
        · exact h u z
        · exact absurd z e
    · show up s.N r.1 (s.N r.2.1 + r.2.2) u ≤ s.N u
      unfold up
      by_cases e : u = r.1
      · rw [if_pos e]
        subst e
        rcases c.2 with q | q
        · exact absurd hu q
        · omega
      · rw [if_neg e]; exact Int.le_refl _
    · show up s.N r.1 (s.N r.2.1 + r.2.2) r.1 ≤ _
      unfold up
      rw [if_pos rfl]
      exact Int.le_refl _
  · rw [if_neg c]
    refine ⟨h, PLe.refl s, fun h2 => ?_⟩
    have : ¬ (r.1 ∉ s.ks ∨ s.N r.2.1 + r.2.2 < s.N r.1) := fun z => c ⟨h2, z⟩
    constructor
    · by_cases q : r.1 ∈ s.ks
      · exact q
      · exact absurd (.inl q) this
    · by_cases q : s.N r.2.1 + r.2.2 < s.N r.1
      · exact absurd (.inr q) this
      · omega
theorem pfrom {rs : List Row} {o : Nat} : ∀ (qs : List Row) (i : Nat) (s : Bp), (∀ r ∈ qs, r ∈ rs) → Psnd rs o s → Psnd rs o (bpFrom i qs s) ∧ PLe s (bpFrom i qs s) ∧ ∀ r ∈ qs, r.2.1 ∈ s.ks → r.1 ∈ (bpFrom i qs s).ks ∧ (bpFrom i qs s).N r.1 ≤ s.N r.2.1 + r.2.2
  | [], _, s, _, h => ⟨h, PLe.refl s, fun r hr => (by cases hr)⟩
  | q :: qs, i, s, hq, h => by
    obtain ⟨h1, h2, h3⟩ := pstep h (i := i) (hq q List.mem_cons_self)
    obtain ⟨g1, g2, g3⟩ := pfrom qs (i + 1) (bpStep s i q) (fun r hr => hq r (List.mem_cons_of_mem _ hr)) h1
    refine ⟨g1, h2.trans g2, fun r hr hin => ?_⟩
    show r.1 ∈ (bpFrom (i + 1) qs (bpStep s i q)).ks ∧ (bpFrom (i + 1) qs (bpStep s i q)).N r.1 ≤ _
    rcases List.mem_cons.mp hr with rfl | z
    · obtain ⟨a, b⟩ := h3 hin
      exact ⟨(g2 _ a).1, Int.le_trans (g2 _ a).2 b⟩
    · obtain ⟨a, b⟩ := h2 _ hin
      obtain ⟨c, d⟩ := g3 r z a
      exact ⟨c, by omega⟩
theorem pch_mono : ∀ (qs : List Row) (i : Nat) (s : Bp), s.ch = true → (bpFrom i qs s).ch = true
  | [], _, _, h => h
  | r :: qs, i, s, h => by
    refine pch_mono qs (i + 1) (bpStep s i r) ?_
    unfold bpStep
    split
    · rfl
    · exact h
theorem pfrom_noch : ∀ (qs : List Row) (i : Nat) (s : Bp), (bpFrom i qs s).ch = false → bpFrom i qs s = s ∧ ∀ r ∈ qs, r.2.1 ∈ s.ks → r.1 ∈ s.ks ∧ s.N r.1 ≤ s.N r.2.1 + r.2.2
  | [], _, s, _ => ⟨rfl, fun r hr => (by cases hr)⟩
  | r :: qs, i, s, h => by
    have h1 : (bpStep s i r).ch = false := by
      cases e : (bpStep s i r).ch with
      | false => rfl
      | true =>
        have := pch_mono qs (i + 1) _ e
        rw [show bpFrom i (r :: qs) s = bpFrom (i + 1) qs (bpStep s i r) from rfl, this] at h
        cases h
    have e : bpStep s i r = s := by
      unfold bpStep at h1 ⊢
      split at h1
      · cases h1
      · rename_i c; rw [if_neg c]
    have hle : r.2.1 ∈ s.ks → r.1 ∈ s.ks ∧ s.N r.1 ≤ s.N r.2.1 + r.2.2 := fun h2 => by
      unfold bpStep at h1
      split at h1
      · cases h1
      · rename_i c
        have : ¬ (r.1 ∉ s.ks ∨ s.N r.2.1 + r.2.2 < s.N r.1) := fun z => c ⟨h2, z⟩
        constructor
        · by_cases q : r.1 ∈ s.ks
          · exact q
          · exact absurd (.inl q) this
        · by_cases q : s.N r.2.1 + r.2.2 < s.N r.1
          · exact absurd (.inr q) this
          · omega
    have h2 : (bpFrom (i + 1) qs (bpStep s i r)).ch = false := h
    rw [e] at h2
    obtain ⟨h3, h4⟩ := pfrom_noch qs (i + 1) s h2
    refine ⟨?_, fun q hq => ?_⟩
    · show bpFrom (i + 1) qs (bpStep s i r) = s
      rw [e]; exact h3
    · rcases List.mem_cons.mp hq with rfl | z
      · exact hle
      · exact h4 q z
def Pund (rs : List Row) (o m : Nat) (s : Bp) : Prop := ∀ u w l, Wk rs u o w l → l.length ≤ m → u ∈ s.ks ∧ s.N u ≤ w
def noCh (s : Bp) : Bp := ⟨false, s.ks, s.N, s.ss, s.S⟩
theorem pround {rs : List Row} {o m : Nat} {s : Bp} (h : Psnd rs o s) (hu : Pund rs o m s) : Psnd rs o (bpRound rs s) ∧ Pund rs o (m + 1) (bpRound rs s) := by
  obtain ⟨h1, h2, h3⟩ := pfrom (rs := rs) (o := o) rs 0 (noCh s) (fun _ h => h) h
  have h2 : PLe s (bpRound rs s) := h2
  refine ⟨h1, fun u w l hw hl => ?_⟩
  cases hw with
  | nil =>
    obtain ⟨a, b⟩ := hu o 0 [] (.nil o) (Nat.zero_le _)
    exact ⟨(h2 o a).1, Int.le_trans (h2 o a).2 b⟩
  | @cons _ v _ w1 k l' hr h' =>
    obtain ⟨a, b⟩ := hu v k l' h' (by simpa using hl)
    obtain ⟨c, d⟩ := h3 (u, v, w1) hr a
    exact ⟨c, Int.le_trans d (by show s.N v + w1 ≤ _; omega)⟩
theorem closed_all {rs : List Row} {o : Nat} {s : Bp} (hc : ∀ r ∈ rs, r.2.1 ∈ s.ks → r.1 ∈ s.ks ∧ s.N r.1 ≤ s.N r.2.1 + r.2.2) (h0 : o ∈ s.ks ∧ s.N o ≤ 0) : ∀ {u v : Nat} {w : Int} {l : List Nat}, Wk rs u v w l → v = o → u ∈ s.ks ∧ s.N u ≤ w := by
  intro u v w l h
  induction h with
  | nil u => intro e; subst e; exact h0
  | @cons u v x w k l hr _ ih =>
    intro e
    obtain ⟨a, b⟩ := ih e
    obtain ⟨c, d⟩ := hc _ hr a
    have d : s.N u ≤ s.N v + w := d
    exact ⟨c, by omega⟩
theorem psettle_spec {rs : List Row} {o : Nat} : ∀ (R m : Nat) (s : Bp), Psnd rs o s → Pund rs o m s → Psnd rs o (psettle rs R s).2 ∧ Pund rs o (m + R) (psettle rs R s).2
  | 0, m, s, h, hu => ⟨h, hu⟩
  | R + 1, m, s, h, hu => by
    obtain ⟨h1, h2⟩ := pround h hu
    unfold psettle
    by_cases c : (bpRound rs s).ch = true
    · rw [if_pos c]
      obtain ⟨a, b⟩ := psettle_spec R (m + 1) _ h1 h2
      rw [show m + 1 + R = m + (R + 1) by omega] at b
      exact ⟨a, b⟩
    · rw [if_neg c]
      refine ⟨h1, fun u w l hw _ => ?_⟩
      have q : (bpFrom 0 rs (noCh s)).ch = false := by
        have : (bpRound rs s).ch = false := by simpa using c
        exact this
      obtain ⟨e, hc⟩ := pfrom_noch rs 0 (noCh s) q
      have e : bpRound rs s = noCh s := e
      rw [e]
      have o0 := hu o 0 [] (.nil o) (Nat.zero_le _)
      exact closed_all (s := noCh s) hc o0 hw rfl
def srcB (o : Nat) : Bp := ⟨false, [o], zeroN, [], zeroN⟩
theorem src_snd (rs : List Row) (o : Nat) : Psnd rs o (srcB o) ∧ Pund rs o 0 (srcB o) := by
  constructor
  · intro u hu
    rw [List.mem_singleton.mp hu]
    exact ⟨[], .nil o⟩
  · intro u w l hw hl
    have : l = [] := List.length_eq_zero_iff.mp (by omega)
    subst this
    cases hw
    exact ⟨List.mem_singleton.mpr rfl, Int.le_refl _⟩
/-- what bound_of finds -/
def found (rs : List Row) (o : Nat) : Bp := (psettle rs ((ptsOf rs [0]).length + 1 + 1) (srcB o)).2
theorem starts_in {rs : List Row} {u v : Nat} {w : Int} {l : List Nat} (h : Wk rs u v w l) : ∀ x ∈ l, x ∈ ptsOf rs [0] := fun x hx => by
  obtain ⟨r, hr, e⟩ := h.points x hx
  exact ptsOf_mem.mpr (.inr ⟨r, hr, .inl e.symm⟩)
theorem found_spec {rs : List Row} {N : Nat → Int} (hf : Fits rs N) (o : Nat) : (∀ u ∈ (found rs o).ks, ∃ l, Wk rs u o ((found rs o).N u) l) ∧ ∀ u w l, Wk rs u o w l → u ∈ (found rs o).ks ∧ (found rs o).N u ≤ w := by
  obtain ⟨a, b⟩ := src_snd rs o
  obtain ⟨h1, h2⟩ := psettle_spec ((ptsOf rs [0]).length + 1 + 1) 0 _ a b
  refine ⟨h1, fun u w l hw => ?_⟩
  obtain ⟨c, m, wm, hle, nd, _⟩ := Wk.simple hf l.length (Nat.le_refl _) hw
  have hl := sub_len m (ptsOf rs [0]) nd (starts_in wm)
  obtain ⟨x, y⟩ := h2 u c m wm (by omega)
  exact ⟨x, Int.le_trans y hle⟩
theorem Wk.head {rs : List Row} {u v : Nat} {w : Int} {l : List Nat} (h : Wk rs u v w l) : l = [] ∧ u = v ∧ w = 0 ∨ ∃ l', l = u :: l' := by
  cases h with
  | nil => exact .inl ⟨rfl, rfl, rfl⟩
  | cons _ _ => exact .inr ⟨_, rfl⟩
/-- bound_of and the law's table agree -/
theorem found_bounds {rs : List Row} {N : Nat → Int} (hf : Fits rs N) {ps : List Nat} (hp : ∀ r ∈ rs, r.1 ∈ ps ∧ r.2.1 ∈ ps) {u o : Nat} (hu : u ∈ ps) (ho : o ∈ ps) : bounds rs ps u o = if u ∈ (found rs o).ks then some ((found rs o).N u) else none := by
  obtain ⟨f1, f2⟩ := found_spec hf o
  obtain ⟨b1, b2, b3⟩ := bounds_spec (ps := ps) hp
  have low : ∀ w l, Wk rs u o w l → ∃ c, bounds rs ps u o = some c ∧ c ≤ w := fun w l hw => by
    obtain ⟨c, m, wm, hle, nd, _⟩ := Wk.simple hf l.length (Nat.le_refl _) hw
    rcases wm.head with ⟨_, e, e0⟩ | ⟨m', e⟩
    · subst e
      obtain ⟨d, h1, h2⟩ := b2 u hu
      exact ⟨d, h1, by omega⟩
    · rw [e] at wm nd
      obtain ⟨d, h1, h2⟩ := b3 u o c m' hu ho wm (List.nodup_cons.mp nd).2
      exact ⟨d, h1, by omega⟩
  by_cases h : u ∈ (found rs o).ks
  · rw [if_pos h]
    obtain ⟨l, hl⟩ := f1 u h
    obtain ⟨c, e, hle⟩ := low _ _ hl
    obtain ⟨l', hl'⟩ := b1 _ _ _ e
    have := (f2 u c l' hl').2
    rw [e]
    congr 1
    omega
  · rw [if_neg h]
    cases e : bounds rs ps u o with
    | none => rfl
    | some c =>
      obtain ⟨l', hl'⟩ := b1 _ _ _ e
      exact absurd (f2 u c l' hl').1 h
/-- the bound is reached -/
theorem reach {rs : List Row} {N : Nat → Int} (hf : Fits rs N) {u o : Nat} (h : u ∈ (found rs o).ks) : ∃ N', Fits (rs ++ [(o, u, 0 - (found rs o).N u)]) N' := by
  obtain ⟨f1, f2⟩ := found_spec hf o
  let t := found rs o
  let L : Int := (N o).natAbs + (N u).natAbs + (t.N u).natAbs
  let F : Nat → Int := fun x => if x ∈ t.ks ∧ t.N x ≤ N x + L then t.N x else N x + L
  have F1 : ∀ x, F x ≤ N x + L := fun x => by
    show (if x ∈ t.ks ∧ t.N x ≤ N x + L then t.N x else N x + L) ≤ _
    split
    · rename_i q; exact q.2
    · exact Int.le_refl _
  have F2 : ∀ x, x ∈ t.ks → F x ≤ t.N x := fun x hx => by
    show (if x ∈ t.ks ∧ t.N x ≤ N x + L then t.N x else N x + L) ≤ _
    split
    · exact Int.le_refl _
    · rename_i q
      have : ¬ t.N x ≤ N x + L := fun z => q ⟨hx, z⟩
      omega
  have F3 : F u = t.N u := by
    show (if u ∈ t.ks ∧ t.N u ≤ N u + L then t.N u else N u + L) = _
    rw [if_pos]
    refine ⟨h, ?_⟩
    show t.N u ≤ N u + ((N o).natAbs + (N u).natAbs + (t.N u).natAbs)
    omega
  refine ⟨F, fun r hr => ?_⟩
  rcases List.mem_append.mp hr with q | q
  · have hn : N r.1 - N r.2.1 ≤ r.2.2 := hf r q
    by_cases c : r.2.1 ∈ t.ks ∧ t.N r.2.1 ≤ N r.2.1 + L
    · have e : F r.2.1 = t.N r.2.1 := if_pos c
      obtain ⟨l, hl⟩ := f1 _ c.1
      obtain ⟨a, b⟩ := f2 _ _ _ (Wk.cons (show (r.1, r.2.1, r.2.2) ∈ rs from q) hl)
      have := F2 r.1 a
      have b : t.N r.1 ≤ r.2.2 + t.N r.2.1 := b
      omega
    · have e : F r.2.1 = N r.2.1 + L := if_neg c
      have := F1 r.1
      omega
  · rw [List.mem_singleton.mp q]
    show F o - F u ≤ 0 - t.N u
    have o0 := f2 o 0 [] (.nil o)
    have := F2 o o0.1
    have o1 : t.N o ≤ 0 := o0.2
    omega
theorem beyond {rs : List Row} {N : Nat → Int} (hf : Fits rs N) {u o : Nat} (h : u ∈ (found rs o).ks) (N' : Nat → Int) : ¬ Fits (rs ++ [(o, u, -1 - (found rs o).N u)]) N' := by
  intro hN
  obtain ⟨f1, _⟩ := found_spec hf o
  obtain ⟨l, hl⟩ := f1 u h
  have w1 := hl.sub (rs' := rs ++ [(o, u, -1 - (found rs o).N u)]) fun r hr => List.mem_append_left _ hr
  have w2 : Wk (rs ++ [(o, u, -1 - (found rs o).N u)]) o u (-1 - (found rs o).N u) [o] := Wk.one (List.mem_append_right _ (List.mem_singleton.mpr rfl))
  have := (w1.append w2).fits hN
  omega
theorem Wk.size {rs : List Row} {B : Nat} (hB : ∀ r ∈ rs, (r.2.2).natAbs ≤ B) {u v : Nat} {w : Int} {l : List Nat} (h : Wk rs u v w l) : w.natAbs ≤ B * l.length := by
  induction h with
  | nil u => simp
  | @cons u v x w k l hr _ ih =>
    have : w.natAbs ≤ B := hB _ hr
    rw [List.length_cons, Nat.mul_succ]
    omega
theorem found_size {rs : List Row} {N : Nat → Int} (hf : Fits rs N) {B : Nat} (hB : ∀ r ∈ rs, (r.2.2).natAbs ≤ B) {u o : Nat} (h : u ∈ (found rs o).ks) : ((found rs o).N u).natAbs ≤ B * (ptsOf rs [0]).length := by
  obtain ⟨f1, f2⟩ := found_spec hf o
  obtain ⟨l, hl⟩ := f1 u h
  obtain ⟨c, m, wm, hle, nd, _⟩ := Wk.simple hf l.length (Nat.le_refl _) hl
  have := (f2 _ _ _ wm).2
  have e : (found rs o).N u = c := by omega
  rw [e]
  have hl := sub_len m (ptsOf rs [0]) nd (starts_in wm)
  exact Nat.le_trans (wm.size hB) (Nat.mul_le_mul_left _ hl)
end Hd
end
section
set_option linter.all false
set_option maxRecDepth 100000
set_option maxHeartbeats 1000000
namespace Hd
open PySem PySem.Spec PyProof.Rows L2 TV
theorem bp_lt {rs : List Row} (hr : ∀ r ∈ rs, okRow r) : ∀ (qs : List Row) (i : Nat) (s : Bp), (∀ r ∈ qs, r ∈ rs) → (∀ k ∈ s.ks, k < 12) → ∀ k ∈ (bpFrom i qs s).ks, k < 12
  | [], _, _, _, h => h
  | r :: qs, i, s, hq, h => by
    refine bp_lt hr qs (i + 1) (bpStep s i r) (fun q hm => hq q (List.mem_cons_of_mem _ hm)) ?_
    unfold bpStep
    split
    · exact addPt_lt h (hr r (hq r List.mem_cons_self)).1
    · exact h
theorem psettle_lt {rs : List Row} (hr : ∀ r ∈ rs, okRow r) : ∀ (R : Nat) (s : Bp), (∀ k ∈ s.ks, k < 12) → ∀ k ∈ (psettle rs R s).2.ks, k < 12
  | 0, _, h => h
  | R + 1, s, h => by
    have h1 : ∀ k ∈ (bpRound rs s).ks, k < 12 := bp_lt hr rs 0 (noCh s) (fun _ h => h) h
    unfold psettle
    split
    · exact psettle_lt hr R _ h1
    · exact h1
theorem found_lt {rs : List Row} (hr : ∀ r ∈ rs, okRow r) {o : Nat} (ho : o < 12) : ∀ k ∈ (found rs o).ks, k < 12 := psettle_lt hr _ _ (fun k hk => by rw [List.mem_singleton.mp hk]; exact ho)
/-- what bound_of tells -/
def bv (rs : List Row) (u o : Nat) : P := if u ∈ (found rs o).ks then .int ((found rs o).N u) else .non
theorem bv_locs (rs : List Row) (u o : Nat) : (bv rs u o).locs = [] := by unfold bv; split <;> rfl
theorem dict_pt (ρ : Rho) (M : Mem) (o : Nat) (f : FE) (hf : ∀ M, f ρ M = .ok (pt o) M) : eDict (pCons f (eC (.int 0)) pNil) ρ M = .ok (.loc M.length) (M ++ [.dct (dm [o] (di zeroN))]) := by
  unfold eDict pCons pNil
  simp only [hf, x_C, b_ok]
  have hg : (M ++ [MO.dct []])[M.length]? = some (.dct []) := by simp
  rw [hg]
  dsimp only
  have ha : addAll [] [(pt o, P.int 0)] = some (dm [o] (di zeroN)) := by
    unfold addAll
    rw [key_pt]
    dsimp only
    rw [if_pos ⟨key_dep o, by decide⟩]
    rfl
  rw [ha]
  simp
theorem get_dm {M : Mem} {l j : Nat} {ks : List Nat} {f : Nat → P} {z : P} (h : M[l]? = some (.dct (dm ks f))) (hk : ∀ i ∈ ks, i < 12) (hj : j < 12) : getM l (pt j) z M = .ok (if j ∈ ks then f j else z) M := by
  unfold getM
  have hd : dictOfM M l = some (dm ks f) := by unfold dictOfM; rw [h]
  rw [hd, key_pt]
  dsimp only
  rw [if_pos (key_dep j), look_dm hk hj]
  by_cases c : j ∈ ks
  · rw [if_pos c, if_pos c]; rfl
  · rw [if_neg c, if_neg c]; rfl
theorem bound_of_spec {rs : List Row} (hr : ∀ r ∈ rs, okRow r) {u o : Nat} (hu : u < 12) (ho : o < 12) (M : Mem) : F_bound_of [.tup (rs.map rowP), pt u, pt o] M = .ok (bv rs u o) M := by
  unfold F_bound_of mkF m_bound_of
  rw [if_pos (show [P.tup (rs.map rowP), pt u, pt o].length = 3 from rfl)]
  have hst : startR 4 [P.tup (rs.map rowP), pt u, pt o] = [some (.tup (rs.map rowP)), some (pt u), some (pt o), none] := rfl
  have g1 : (M ++ [MO.dct (dm [o] (di zeroN))])[M.length]? = some (.dct (dm [o] (di zeroN))) := by simp
  obtain ⟨R, hR, es⟩ := settled_spec rs hr g1 (fun i hi => by rw [List.mem_singleton.mp hi]; exact ho) (by simp) (fun r h => ⟨(hr r h).1, (hr r h).2.1⟩)
  have e2 : psettle rs R ⟨false, [o], zeroN, [], zeroN⟩ = psettle rs ((ptsOf rs [0]).length + 1 + 1) (srcB o) := by rw [hR]; rfl
  rw [e2] at es
  have hset : (M ++ [MO.dct (dm [o] (di zeroN))]).set M.length (.dct (dm (found rs o).ks (di (found rs o).N))) = M ++ [.dct (dm (found rs o).ks (di (found rs o).N))] := by simp
  have es : F_settled [.tup (rs.map rowP), .loc M.length] (M ++ [MO.dct (dm [o] (di zeroN))]) = .ok (.tup [.loc (M ++ [MO.dct (dm [o] (di zeroN))]).length, .bl (psettle rs ((ptsOf rs [0]).length + 1 + 1) (srcB o)).1]) ((M ++ [MO.dct (dm [o] (di zeroN))]).set M.length (.dct (dm (found rs o).ks (di (found rs o).N))) ++ [.dct (dm (found rs o).ss (di (found rs o).S))]) := es
  rw [hset] at es
  have g2 : (M ++ [MO.dct (dm (found rs o).ks (di (found rs o).N))] ++ [.dct (dm (found rs o).ss (di (found rs o).S))])[M.length]? = some (.dct (dm (found rs o).ks (di (found rs o).N))) := by simp
  have a1 : sAsg (eDict (pCons (eVar 2) (eC (.int 0)) pNil)) (TV.gName 3) [some (.tup (rs.map rowP)), some (pt u), some (pt o), none] M = .next [some (.tup (rs.map rowP)), some (pt u), some (pt o), some (.loc M.length)] (M ++ [.dct (dm [o] (di zeroN))]) := by
    rw [z_asg, dict_pt _ _ o _ (fun _ => rfl), s_ok]
    rfl
  have hd : (dictOfM (M ++ [MO.dct (dm (found rs o).ks (di (found rs o).N))] ++ [.dct (dm (found rs o).ss (di (found rs o).S))]) M.length).isSome = true := by unfold dictOfM; rw [g2]; rfl
  have gt : eGet1 (eVar 3) (eVar 1) [some (.tup (rs.map rowP)), some (pt u), some (pt o), some (.loc M.length)] (M ++ [MO.dct (dm (found rs o).ks (di (found rs o).N))] ++ [.dct (dm (found rs o).ss (di (found rs o).S))]) = .ok (bv rs u o) (M ++ [MO.dct (dm (found rs o).ks (di (found rs o).N))] ++ [.dct (dm (found rs o).ss (di (found rs o).S))]) := by
    unfold eGet1
    rw [x_v3, b_ok]
    dsimp only
    rw [if_pos hd, x_v1, b_ok, get_dm g2 (found_lt hr ho) hu]
    rfl
  rw [hst, z_seq, a1, t_next, z_seq, z_expr, x_args, x_cons, x_v0, b_ok, x_cons, x_v3, b_ok, x_nil, b_ok, b_ok, b_ok, es, s_ok, t_next, z_ret, gt, s_ok, f_ret, List.append_assoc]
  exact gc_app (fun k hk => by rw [bv_locs] at hk; cases hk)
theorem req_point (j : Nat) (M : Mem) : F_require_point [pt j] M = .ok .non M := by
  unfold F_require_point mkF m_require_point
  simp [startR, point_ok]
theorem is_false_loc (l : Nat) (M : Mem) : pIs false (.loc l) .non M = .ok (.bl false) M := rfl
theorem is_true_non (M : Mem) : pIs false .non .non M = .ok (.bl true) M := rfl
theorem tightest_spec {rs : List Row} (h : okRows rs) {u o : Nat} (hu : u < 12) (ho : o < 12) (M : Mem) : ((endS rs).1 = true ∧ F_tightest [.tup (rs.map rowP), pt u, pt o] M = .exc "InvalidOperation" [] M) ∨ ((endS rs).1 = false ∧ F_tightest [.tup (rs.map rowP), pt u, pt o] M = .ok (bv rs u o) M) := by
  unfold F_tightest mkF m_tightest
  rw [if_pos (show [P.tup (rs.map rowP), pt u, pt o].length = 3 from rfl)]
  have hst : startR 3 [P.tup (rs.map rowP), pt u, pt o] = [some (.tup (rs.map rowP)), some (pt u), some (pt o)] := rfl
  have pre : ∀ g : FS, sSeq (sExpr (eArgs F_require_differences (aCons (eVar 0) aNil))) (sSeq (sExpr (eArgs F_require_point (aCons (eVar 1) aNil))) (sSeq (sExpr (eArgs F_require_point (aCons (eVar 2) aNil))) g)) [some (.tup (rs.map rowP)), some (pt u), some (pt o)] M = g [some (.tup (rs.map rowP)), some (pt u), some (pt o)] M := fun g => by
    simp only [z_seq, z_expr, x_args, x_cons, x_v0, x_v1, x_v2, b_ok, x_nil, h.req, req_point, s_ok, t_next]
  rw [hst, pre]
  rcases fitted_spec rs h.1 M with ⟨hf, e⟩ | ⟨hf, ks, P0, kc, ep, e⟩
  · left
    refine ⟨hf, ?_⟩
    rw [z_seq, z_if, x_val, x_op, x_args, x_cons, x_v0, b_ok, x_nil, b_ok, b_ok, e, b_ok, x_C, b_ok, is_true_non, b_ok, cVal_bl, s_ok, if_pos rfl]
    rfl
  · right
    refine ⟨hf, ?_⟩
    rw [z_seq, z_if, x_val, x_op, x_args, x_cons, x_v0, b_ok, x_nil, b_ok, b_ok, e, b_ok, x_C, b_ok, is_false_loc, b_ok, cVal_bl, s_ok, if_neg (by simp), z_next, t_next, z_ret, x_args, x_cons, x_v0, b_ok, x_cons, x_v1, b_ok, x_cons, x_v2, b_ok, x_nil, b_ok, b_ok, b_ok, b_ok, bound_of_spec h.1 hu ho, s_ok, f_ret]
    exact gc_app (fun k hk => by rw [bv_locs] at hk; cases hk)
/-- what the law's own bound gives -/
def lb (rs : List Row) (u o : Nat) : P := if (endS rs).1 = true then .str "operation" else bv rs u o
theorem law_bound_spec {rs : List Row} (h : okRows rs) {u o : Nat} (hu : u < 12) (ho : o < 12) (M : Mem) : F_law_bound [.tup (rs.map rowP), pt u, pt o] M = .ok (lb rs u o) M := by
  unfold F_law_bound mkF m_law_bound
  rw [if_pos (show [P.tup (rs.map rowP), pt u, pt o].length = 3 from rfl)]
  have hst : startR 3 [P.tup (rs.map rowP), pt u, pt o] = [some (.tup (rs.map rowP)), some (pt u), some (pt o)] := rfl
  have body : sRet (eArgs F_tightest (aCons (eVar 0) (aCons (eVar 1) (aCons (eVar 2) aNil)))) [some (.tup (rs.map rowP)), some (pt u), some (pt o)] M = bindS (F_tightest [.tup (rs.map rowP), pt u, pt o] M) [some (.tup (rs.map rowP)), some (pt u), some (pt o)] fun p M1 => .ret p M1 := by
    simp only [z_ret, x_args, x_cons, x_v0, x_v1, x_v2, b_ok, x_nil]
  rw [hst]
  unfold sTry lb
  rw [body]
  rcases tightest_spec h hu ho M with ⟨hf, e⟩ | ⟨hf, e⟩
  · rw [e, if_pos hf]
    show gc M (fin (match m_x_InvalidOperation (Str.ofString "InvalidOperation") with | some true => sRet (eC (.str "operation")) [some (.tup (rs.map rowP)), some (pt u), some (pt o)] M | some false => .exc "InvalidOperation" [] [some (.tup (rs.map rowP)), some (pt u), some (pt o)] M | none => .bad)) = _
    have : m_x_InvalidOperation (Str.ofString "InvalidOperation") = some true := by decide
    rw [this]
    show gc M (.ok (.str "operation") M) = _
    exact g_same (fun k hk => by simp [P.locs] at hk)
  · rw [e, hf, if_neg (by simp), s_ok]
    show gc M (.ok (bv rs u o) M) = _
    exact g_same (fun k hk => by rw [bv_locs] at hk; cases hk)
end Hd
end
section
set_option linter.all false
set_option maxRecDepth 100000
set_option maxHeartbeats 1000000
namespace Hd
open PySem PySem.Spec PyProof.Rows L2 TV
theorem len_lst {M : Mem} {l : Nat} {xs : List P} (h : M[l]? = some (.lst xs)) : pLen [.loc l] M = .ok (.int (xs.length : Nat)) M := by
  unfold pLen lenOf
  simp [h]
def IsDice (o : Option MO) : Prop := ∃ a b c : Int, o = some (.lst [.int a, .int b, .int c])
/-- memory after draws: the dice at ld may be others, nothing else; more cells behind -/
structure Adv (ld : Nat) (M M' : Mem) : Prop where
  len : M.length ≤ M'.length
  get : ∀ l, l ≠ ld → l < M.length → M'[l]? = M[l]?
  dice : IsDice M'[ld]?
theorem Adv.refl {ld : Nat} {M : Mem} (h : IsDice M[ld]?) : Adv ld M M := ⟨Nat.le_refl _, fun _ _ _ => rfl, h⟩
theorem Adv.trans {ld : Nat} {M M1 M2 : Mem} (a : Adv ld M M1) (b : Adv ld M1 M2) : Adv ld M M2 :=
  ⟨Nat.le_trans a.len b.len, fun l h1 h2 => (b.get l h1 (Nat.lt_of_lt_of_le h2 a.len)).trans (a.get l h1 h2), b.dice⟩
theorem IsDice.lt {ld : Nat} {M : Mem} (h : IsDice M[ld]?) : ld < M.length := by
  obtain ⟨a, b, c, h⟩ := h
  exact (List.getElem?_eq_some_iff.mp h).1
theorem Adv.app {ld : Nat} {M M' : Mem} (a : Adv ld M M') (G : Mem) : Adv ld M (M' ++ G) :=
  ⟨by rw [List.length_append]; have := a.len; omega, fun l h1 h2 => by rw [List.getElem?_append_left (Nat.lt_of_lt_of_le h2 a.len)]; exact a.get l h1 h2, by rw [List.getElem?_append_left a.dice.lt]; exact a.dice⟩
theorem Adv.at {ld l : Nat} {M M' : Mem} {o : MO} (a : Adv ld M M') (h : M[l]? = some o) (ne : l ≠ ld) : M'[l]? = some o := (a.get l ne (List.getElem?_eq_some_iff.mp h).1).trans h
theorem Adv.kept {ld : Nat} {M M' : Mem} (a : Adv ld M M') : Kept M M' := by
  refine ⟨a.len, fun l hl => ?_⟩
  by_cases e : l = ld
  · subst e
    right
    intro o ho
    obtain ⟨x, y, z, h⟩ := a.dice
    rw [h] at ho
    cases ho
    intro k hk
    simp [MO.locs, locsL, P.locs] at hk
  · exact .inl (a.get l e hl)
theorem Adv.take {ld : Nat} {M M' : Mem} (a : Adv ld M M') (h : ld < M.length) : Adv ld M (M'.take M.length) := by
  have hl : (M'.take M.length).length = M.length := by rw [List.length_take]; exact Nat.min_eq_left a.len
  refine ⟨by rw [hl]; exact Nat.le_refl _, fun l h1 h2 => ?_, ?_⟩
  · rw [List.getElem?_take_of_lt h2]; exact a.get l h1 h2
  · rw [List.getElem?_take_of_lt h]; exact a.dice
theorem Adv.takeLen {ld : Nat} {M M' : Mem} (a : Adv ld M M') : (M'.take M.length).length = M.length := by rw [List.length_take]; exact Nat.min_eq_left a.len
theorem adv_set {ld : Nat} {M : Mem} (h : ld < M.length) (a b c : Int) : Adv ld M (M.set ld (.lst [.int a, .int b, .int c])) :=
  ⟨by simp, fun l h1 h2 => List.getElem?_set_ne (fun z => h1 z.symm), by rw [List.getElem?_set_self h]; exact ⟨a, b, c, rfl⟩⟩
theorem take_set {ld : Nat} {M : Mem} {o : MO} : (M.set ld o).take M.length = M.set ld o := by
  rw [← List.length_set (i := ld) (a := o), List.take_length]
section
variable {M : Mem} {ld : Nat} {a b c : Int}
theorem d_ix0 (h : M[ld]? = some (.lst [.int a, .int b, .int c])) : pIx (.loc ld) (.int 0) M = .ok (.int a) M := ix_lst (i := 0) h rfl
theorem d_ix1 (h : M[ld]? = some (.lst [.int a, .int b, .int c])) : pIx (.loc ld) (.int 1) M = .ok (.int b) M := ix_lst (i := 1) h rfl
theorem d_ix2 (h : M[ld]? = some (.lst [.int a, .int b, .int c])) : pIx (.loc ld) (.int 2) M = .ok (.int c) M := ix_lst (i := 2) h rfl
theorem d_st0 (h : M[ld]? = some (.lst [.int a, .int b, .int c])) (v : P) : storeM (.loc ld) (.int 0) v M = some (M.set ld (.lst [v, .int b, .int c])) := by
  unfold storeM
  dsimp only
  rw [h]
  rfl
theorem d_st2 (h : M[ld]? = some (.lst [.int a, .int b, .int c])) (v : P) : storeM (.loc ld) (.int 2) v M = some (M.set ld (.lst [.int a, .int b, v])) := by
  unfold storeM
  dsimp only
  rw [h]
  rfl
theorem o_mod (i j : Int) (h : 0 < j) : pMod (.int i) (.int j) M = .ok (.int (i % j)) M := if_pos h
theorem o_div (i j : Int) (h : 0 < j ∧ j < 1073741824) : pDiv (.int i) (.int j) M = .ok (.int (i / j)) M := if_pos h
theorem o_mul (i j : Int) (h : (-(2 ^ 64) < i ∧ i < 2 ^ 64) ∨ (-(2 ^ 64) < j ∧ j < 2 ^ 64)) : pMul (.int i) (.int j) M = .ok (.int (i * j)) M := if_pos h
theorem o_int (i : Int) : pInt [.int i] M = .ok (.int i) M := rfl
theorem roll_spec (h : M[ld]? = some (.lst [.int a, .int b, .int c])) {t : Int} (h0 : 0 < t) (h1 : t < 1073741824) : ∃ (r a' b' c' : Int), 0 ≤ r ∧ r < t ∧ F_law_roll [.loc ld, .int t] M = .ok (.int r) (M.set ld (.lst [.int a', .int b', .int c'])) := by
  have hlt : ld < M.length := (List.getElem?_eq_some_iff.mp h).1
  unfold F_law_roll mkF m_law_roll
  rw [if_pos (show [P.loc ld, P.int t].length = 2 from rfl)]
  have hst : startR 5 [P.loc ld, P.int t] = [some (.loc ld), some (.int t), none, none, none] := rfl
  have gcI : ∀ (r : Int) (x y z : Int), gc M (.ok (.int r) (M.set ld (.lst [.int x, .int y, .int z]))) = .ok (.int r) (M.set ld (.lst [.int x, .int y, .int z])) := fun r x y z => by
    rw [gc_kept (adv_set hlt x y z).kept (fun k hk => by simp [P.locs] at hk), take_set]
  rw [hst, z_seq, z_if]
  simp only [x_val, x_op, x_v0, x_C, b_ok, d_ix0 h, o_gt, cVal_bl, s_ok]
  by_cases c1 : 0 < a
  · refine ⟨a % t, a / t, b, c, Int.emod_nonneg _ (by omega), Int.emod_lt_of_pos _ h0, ?_⟩
    simp only [c1, decide_true, if_true, z_seq, z_asg, x_op, x_args, x_cons, x_v0, x_v1, x_C, x_nil, b_ok, d_ix0 h, o_int, o_mod _ _ h0, s_ok, t_next]
    have hset : List.set [some (P.loc ld), some (.int t), none, none, none] 2 (some (.int (a % t))) = [some (P.loc ld), some (.int t), some (.int (a % t)), none, none] := rfl
    rw [hset, z_store (v := .int (a / t)) (o := .loc ld) (i := .int 0) (by simp only [x_op, x_v0, x_v1, x_C, b_ok, d_ix0 h, o_div _ _ ⟨h0, h1⟩]) rfl rfl (d_st0 h _), t_next, z_ret, x_v2, s_ok, t_ret, f_ret, gcI]
  · let c' : Int := c + 1
    let M1 : Mem := M.set ld (.lst [.int a, .int b, .int c'])
    have g1 : M1[ld]? = some (.lst [.int a, .int b, .int c']) := List.getElem?_set_self hlt
    let one : Int := (b + 8209 * c') % 2305843009213693907
    have o1 : 0 ≤ one := Int.emod_nonneg _ (by decide)
    have o2 : one < 2305843009213693907 := Int.emod_lt_of_pos _ (by decide)
    let two : Int := (one * one + 97 * c') % 2305843009213693921 * 7368787 + one
    refine ⟨two / 65536 % t, a, b, c', Int.emod_nonneg _ (by omega), Int.emod_lt_of_pos _ h0, ?_⟩
    simp only [c1, decide_false, Bool.false_eq_true, if_false, z_next, t_next]
    rw [z_seq, z_store (v := .int c') (o := .loc ld) (i := .int 2) (by simp only [x_op, x_v0, x_C, b_ok, d_ix2 h, o_add]; rfl) rfl rfl (d_st2 h _), t_next]
    show gc M (fin (sSeq _ _ _ M1)) = _
    have p1 : ∀ i : Int, pMul (.int 8209) (.int i) M1 = .ok (.int (8209 * i)) M1 := fun i => o_mul _ _ (.inl (by decide))
    have p2 : ∀ i : Int, pMul (.int 97) (.int i) M1 = .ok (.int (97 * i)) M1 := fun i => o_mul _ _ (.inl (by decide))
    have p3 : ∀ i : Int, pMul (.int i) (.int 7368787) M1 = .ok (.int (i * 7368787)) M1 := fun i => o_mul _ _ (.inr (by decide))
    have p4 : pMul (.int one) (.int one) M1 = .ok (.int (one * one)) M1 := o_mul _ _ (.inl (by omega))
    have p5 : ∀ i : Int, pMod (.int i) (.int 2305843009213693907) M1 = .ok (.int (i % 2305843009213693907)) M1 := fun i => o_mod _ _ (by decide)
    have p6 : ∀ i : Int, pMod (.int i) (.int 2305843009213693921) M1 = .ok (.int (i % 2305843009213693921)) M1 := fun i => o_mod _ _ (by decide)
    have p7 : ∀ i : Int, pDiv (.int i) (.int 65536) M1 = .ok (.int (i / 65536)) M1 := fun i => o_div _ _ (by decide)
    have s1 : sAsg (eOp pMod (eArgs pInt (aCons (eOp pAdd (eOp pIx (eVar 0) (eC (.int 1))) (eOp pMul (eC (.int 8209)) (eOp pIx (eVar 0) (eC (.int 2))))) aNil)) (eC (.int 2305843009213693907))) (TV.gName 3) [some (.loc ld), some (.int t), none, none, none] M1 = .next [some (.loc ld), some (.int t), none, some (.int one), none] M1 := by
      simp only [z_asg, x_op, x_args, x_cons, x_v0, x_C, x_nil, b_ok, d_ix1 g1, d_ix2 g1, p1, o_add, o_int, p5, s_ok]
      rfl
    have s2 : sAsg (eOp pAdd (eOp pMul (eOp pMod (eArgs pInt (aCons (eOp pAdd (eOp pMul (eVar 3) (eVar 3)) (eOp pMul (eC (.int 97)) (eOp pIx (eVar 0) (eC (.int 2))))) aNil)) (eC (.int 2305843009213693921))) (eC (.int 7368787))) (eVar 3)) (TV.gName 4) [some (.loc ld), some (.int t), none, some (.int one), none] M1 = .next [some (.loc ld), some (.int t), none, some (.int one), some (.int two)] M1 := by
      simp only [z_asg, x_op, x_args, x_cons, x_v0, x_v3, x_C, x_nil, b_ok, d_ix2 g1, p2, p3, p4, o_add, o_int, p6, s_ok]
      rfl
    rw [z_seq, s1, t_next, z_seq, s2, t_next]
    simp only [z_ret, x_op, x_args, x_cons, x_v4, x_v1, x_C, x_nil, b_ok, p7, o_int, o_mod _ _ h0, s_ok, f_ret]
    exact gcI _ _ _ _
/-- a draw out of a list -/
theorem pick_spec (h : M[ld]? = some (.lst [.int a, .int b, .int c])) {li : Nat} {xs : List P} (hi : M[li]? = some (.lst xs)) (ne : li ≠ ld) (h0 : xs ≠ []) (h1 : xs.length < 1073741824) (hx : ∀ x ∈ xs, ∀ k ∈ x.locs, k < M.length) :
    ∃ (x : P) (a' b' c' : Int), x ∈ xs ∧ F_law_pick [.loc ld, .loc li] M = .ok x (M.set ld (.lst [.int a', .int b', .int c'])) := by
  have hpos : 0 < xs.length := List.length_pos_iff.mpr h0
  have hlt : ld < M.length := (List.getElem?_eq_some_iff.mp h).1
  obtain ⟨r, a', b', c', r0, r1, e⟩ := roll_spec h (t := (xs.length : Nat)) (by omega) (by omega)
  have hr : r.toNat < xs.length := by omega
  have gi : (M.set ld (.lst [.int a', .int b', .int c']))[li]? = some (.lst xs) := (adv_set hlt a' b' c').at hi ne
  have ix : pIx (.loc li) (.int r) (M.set ld (.lst [.int a', .int b', .int c'])) = .ok xs[r.toNat] (M.set ld (.lst [.int a', .int b', .int c'])) := by
    have := ix_lst gi (List.getElem?_eq_getElem hr)
    rwa [Int.toNat_of_nonneg r0] at this
  refine ⟨xs[r.toNat], a', b', c', List.getElem_mem hr, ?_⟩
  unfold F_law_pick mkF m_law_pick
  rw [if_pos (show [P.loc ld, P.loc li].length = 2 from rfl)]
  have hst : startR 2 [P.loc ld, P.loc li] = [some (.loc ld), some (.loc li)] := rfl
  rw [hst]
  simp only [z_ret, x_op, x_args, x_cons, x_v0, x_v1, x_nil, b_ok, len_lst hi, e, ix, s_ok, f_ret]
  rw [gc_kept (adv_set hlt a' b' c').kept (hx _ (List.getElem_mem hr)), take_set]
end
/-- the same, with what is known behind it -/
theorem roll_ok {ld : Nat} {M : Mem} (h : IsDice M[ld]?) {t : Int} (h0 : 0 < t) (h1 : t < 1073741824) : ∃ (r : Int) (M' : Mem), 0 ≤ r ∧ r < t ∧ F_law_roll [.loc ld, .int t] M = .ok (.int r) M' ∧ Adv ld M M' ∧ M'.length = M.length := by
  obtain ⟨a, b, c, h⟩ := h
  obtain ⟨r, a', b', c', r0, r1, e⟩ := roll_spec h h0 h1
  exact ⟨r, _, r0, r1, e, adv_set (List.getElem?_eq_some_iff.mp h).1 a' b' c', by simp⟩
theorem pick_ok {ld : Nat} {M : Mem} (h : IsDice M[ld]?) {li : Nat} {xs : List P} (hi : M[li]? = some (.lst xs)) (ne : li ≠ ld) (h0 : xs ≠ []) (h1 : xs.length < 1073741824) (hx : ∀ x ∈ xs, ∀ k ∈ x.locs, k < M.length) :
    ∃ (x : P) (M' : Mem), x ∈ xs ∧ F_law_pick [.loc ld, .loc li] M = .ok x M' ∧ Adv ld M M' ∧ M'.length = M.length := by
  obtain ⟨a, b, c, h⟩ := h
  obtain ⟨x, a', b', c', hx', e⟩ := pick_spec h hi ne h0 h1 hx
  exact ⟨x, _, hx', e, adv_set (List.getElem?_eq_some_iff.mp h).1 a' b' c', by simp⟩
theorem o_pow (i j : Int) (h : 0 ≤ j ∧ (Builtin.Int.intBits i : Int) * j ≤ 2 ^ 27) (M : Mem) : pPow (.int i) (.int j) M = .ok (.int (i ^ j.toNat)) M := if_pos h
theorem pow61 (M : Mem) : pPow (.int 10) (.int 61) M = .ok (.int (10 ^ 61)) M := o_pow 10 61 (by decide +kernel) M
theorem pow15 (M : Mem) : pPow (.int 10) (.int 15) M = .ok (.int (10 ^ 15)) M := o_pow 10 15 (by decide +kernel) M
theorem pow63 (M : Mem) : pPow (.int 10) (.int 63) M = .ok (.int (10 ^ 63)) M := o_pow 10 63 (by decide +kernel) M
theorem pow244 (M : Mem) : pPow (.int (10 ^ 61)) (.int 4) M = .ok (.int ((10 ^ 61) ^ 4)) M := o_pow (10 ^ 61) 4 (by decide +kernel) M
theorem pos244 : (0 : Int) < (10 ^ 61) ^ 4 := by decide +kernel
theorem dice_spec {M : Mem} {ls : Nat} {ns : List Int} (hs : M[ls]? = some (.scr ns)) (spot : Nat) (h3 : spot < 4) : ∃ a b : Int, F_law_dice [.loc ls, .int (spot : Nat)] M = .ok (.loc M.length) (M ++ [.lst [.int a, .int b, .int 0]]) := by
  have ln : pLen [.loc ls] M = .ok (.int (ns.length : Nat)) M := by unfold pLen lenOf; simp [hs]
  have cell : ∃ x : Int, eIf (tVal (eOp (pLt) (eVar 1) (eArgs pLen (aCons (eVar 0) aNil)))) (eOp pIx (eVar 0) (eVar 1)) (eOp pAdd (eOp pMul (eC (.int 37)) (eVar 1)) (eC (.int 23))) [some (.loc ls), some (.int (spot : Nat)), none, none] M = .ok (.int x) M := by
    by_cases c : spot < ns.length
    · refine ⟨ns[spot], ?_⟩
      have c' : (spot : Int) < (ns.length : Int) := by omega
      have ix : pIx (.loc ls) (.int (spot : Nat)) M = .ok (.int ns[spot]) M := by
        have e : pIxO (.loc ls) (.int (spot : Nat)) M = some (.int ns[spot]) := by
          unfold pIxO
          have : seqM M ls = some (ns.map P.int) := by unfold seqM; rw [hs]
          dsimp only
          rw [this]
          exact atI_nat (by simp [c])
        unfold pIx
        rw [e]
      simp only [x_if, x_val, x_op, x_v0, x_v1, x_args, x_cons, x_nil, b_ok, ln, o_lt, cVal_bl, c', decide_true, if_true, ix]
    · refine ⟨37 * (spot : Int) + 23, ?_⟩
      have c' : ¬ (spot : Int) < (ns.length : Int) := by omega
      have mu : pMul (.int 37) (.int (spot : Nat)) M = .ok (.int (37 * (spot : Nat))) M := o_mul _ _ (.inl (by decide))
      simp only [x_if, x_val, x_op, x_v0, x_v1, x_args, x_cons, x_nil, x_C, b_ok, ln, o_lt, cVal_bl, c', decide_false, Bool.false_eq_true, if_false, mu, o_add]
  obtain ⟨x, hx⟩ := cell
  unfold F_law_dice mkF m_law_dice
  rw [if_pos (show [P.loc ls, P.int (spot : Nat)].length = 2 from rfl)]
  have hst : startR 4 [P.loc ls, P.int (spot : Nat)] = [some (.loc ls), some (.int (spot : Nat)), none, none] := rfl
  have s1 : sAsg (eIf (tVal (eOp (pLt) (eVar 1) (eArgs pLen (aCons (eVar 0) aNil)))) (eOp pIx (eVar 0) (eVar 1)) (eOp pAdd (eOp pMul (eC (.int 37)) (eVar 1)) (eC (.int 23)))) (TV.gName 2) [some (.loc ls), some (.int (spot : Nat)), none, none] M = .next [some (.loc ls), some (.int (spot : Nat)), some (.int x), none] M := by
    rw [z_asg, hx, s_ok]
    rfl
  let g : Int := (if x < 0 then -x else x) % (10 ^ 61) ^ 4
  have ab : pAbs [.int x] M = .ok (.int (if x < 0 then -x else x)) M := rfl
  have s2 : sAsg (eOp pMod (eArgs pAbs (aCons (eArgs pInt (aCons (eVar 2) aNil)) aNil)) (eOp pPow (eOp pPow (eC (.int 10)) (eC (.int 61))) (eC (.int 4)))) (TV.gName 3) [some (.loc ls), some (.int (spot : Nat)), some (.int x), none] M = .next [some (.loc ls), some (.int (spot : Nat)), some (.int x), some (.int g)] M := by
    rw [z_asg, x_op, x_args, x_cons, x_args, x_cons, x_v2, b_ok, x_nil, b_ok, b_ok, o_int, b_ok, x_nil, b_ok, b_ok, ab, b_ok, x_op, x_op, x_C, b_ok, x_C, b_ok, pow61, b_ok, x_C, b_ok, pow244, b_ok, o_mod _ _ pos244, s_ok]
    rfl
  rw [hst, z_seq, s1, t_next, z_seq, s2, t_next]
  have mx : ∀ i : Int, ∃ a, pMax2 [.int 0, .int i] M = .ok (.int a) M := fun i => ⟨_, rfl⟩
  obtain ⟨a, ha⟩ := mx (g - 10 ^ 15)
  have m1 : ∀ i : Int, pMul (.int i) (.int 59) M = .ok (.int (i * 59)) M := fun i => o_mul _ _ (.inr (by decide))
  have m2 : ∀ i : Int, pMul (.int 613) (.int i) M = .ok (.int (613 * i)) M := fun i => o_mul _ _ (.inl (by decide))
  have m3 : ∀ i : Int, pMul (.int 17) (.int i) M = .ok (.int (17 * i)) M := fun i => o_mul _ _ (.inl (by decide))
  have m4 : ∀ i : Int, pMod (.int i) (.int 2147483543) M = .ok (.int (i % 2147483543)) M := fun i => o_mod _ _ (by decide)
  have ib : ∀ k : Bool, pInt [.bl k] M = .ok (.int (if k then 1 else 0)) M := fun _ => rfl
  have gl : ∀ p q r : P, gList [p, q, r] M = .ok (.loc M.length) (M ++ [.lst [p, q, r]]) := fun _ _ _ => rfl
  refine ⟨a, g % 2147483543 * 59 + 613 * (spot : Int) + 17 * (if decide (x < 0) then 1 else 0) + 9, ?_⟩
  simp only [z_ret, x_args, x_cons, x_nil, x_op, x_v3, x_v1, x_v2, x_C, b_ok, o_sub, pow15, ha, m1, m2, m3, m4, o_lt, ib, o_add, gl, s_ok, f_ret]
  rw [gc_loc (o := .lst [.int a, .int (g % 2147483543 * 59 + 613 * (spot : Int) + 17 * (if decide (x < 0) then 1 else 0) + 9), .int 0]) (kept_app _ _) (Nat.le_refl _) (by simp) (fun k hk => by simp [MO.locs, locsL, P.locs] at hk)]
  simp
end Hd
end
section
set_option linter.all false
set_option maxRecDepth 100000
set_option maxHeartbeats 1000000
namespace Hd
open PySem PySem.Spec PyProof.Rows L2 TV
/-! ### points and rows -/
def p11 : List Nat := [0, 1, 2, 3, 4, 5, 6, 7, 8, 9, 10]
theorem points_spec (M : Mem) : F_law_points [] M = .ok (.loc M.length) (M ++ [.lst (p11.map pt)]) := by
  unfold F_law_points mkF m_law_points
  rw [if_pos (show ([] : List P).length = 0 from rfl)]
  have hst : startR 1 [] = [none] := rfl
  let M1 : Mem := M ++ [.lst ([0, 1, 2, 3, 4, 5, 6, 7].map pt)]
  let M2 : Mem := M1 ++ [.lst ([8, 9, 10].map pt)]
  have a1 : sAsg (eArgs gList (aCons (eC (.str "")) (aCons (eC (.str "i")) (aCons (eC (.str "j")) (aCons (eC (.str "n")) (aCons (eC (.str "*2")) (aCons (eArgs gTuple (aCons (eC (.str "a")) (aCons (eC (.str "i")) (aCons (eC (.int 0)) aNil)))) (aCons (eArgs gTuple (aCons (eC (.str "a")) (aCons (eC (.str "")) (aCons (eC (.int 2)) aNil)))) (aCons (eC (.str "*10")) aNil))))))))) (TV.gName 0) [none] M = .next [some (.loc M.length)] M1 := rfl
  have a2 : eArgs gList (aCons (eArgs gTuple (aCons (eC (.str "a")) (aCons (eC (.str "i")) (aCons (eUn pNeg (eC (.int 1))) aNil)))) (aCons (eC (.str "*1")) (aCons (eArgs gTuple (aCons (eC (.str "b")) (aCons (eC (.str "")) (aCons (eC (.int 0)) aNil)))) aNil))) [some (.loc M.length)] M1 = .ok (.loc M1.length) M2 := rfl
  have ad := add_loc (M := M2) (a := M.length) (b := M1.length) (xs := [0, 1, 2, 3, 4, 5, 6, 7].map pt) (ys := [8, 9, 10].map pt) (by simp [M2, M1]) (by simp [M2]) (by decide)
  rw [hst, z_seq, a1, t_next, z_ret, x_op, x_v0, b_ok, a2, b_ok, ad, s_ok, f_ret]
  have e : M2 ++ [MO.lst ([0, 1, 2, 3, 4, 5, 6, 7].map pt ++ [8, 9, 10].map pt)] = M ++ [.lst ([0, 1, 2, 3, 4, 5, 6, 7].map pt), .lst ([8, 9, 10].map pt), .lst (p11.map pt)] := by simp [M2, M1, p11]
  rw [e, gc_loc (o := .lst (p11.map pt)) (kept_app _ _) (by simp [M2, M1]) (by simp [M2, M1]) (fun k hk => by rw [show (MO.lst (p11.map pt)).locs = locsL (p11.map pt) from rfl, flat_pts] at hk; cases hk)]
  simp
def drawn (r : Row) : Prop := r.1 < 11 ∧ r.2.1 < 11 ∧ (r.2.2).natAbs ≤ 7 * 10 ^ 57
theorem drawn.ok {r : Row} (h : drawn r) : okRow r := ⟨by have := h.1; omega, by have := h.2.1; omega, by
  unfold small
  have := h.2.2
  have e : 7 * 10 ^ 57 = 7000000000000000000000000000000000000000000000000000000000 := by decide
  rw [e] at this
  omega⟩
def ws8 : List P := [.int 0, .int 0, .int 1, .int (-1), .int 2, .int (-2), .int 5, .int (-7)]
theorem ws8_mem {x : P} (h : x ∈ ws8) : ∃ i : Int, x = .int i ∧ i.natAbs ≤ 7 := by
  simp only [ws8, List.mem_cons, List.not_mem_nil, or_false] at h
  rcases h with rfl | rfl | rfl | rfl | rfl | rfl | rfl | rfl <;> exact ⟨_, rfl, by decide⟩
noncomputable abbrev rowBody : FS := (sSeq (sAsg (eArgs F_law_pick (aCons (eVar 0) (aCons (eArgs gList (aCons (eC (.int 0)) (aCons (eC (.int 0)) (aCons (eC (.int 1)) (aCons (eUn pNeg (eC (.int 1))) (aCons (eC (.int 2)) (aCons (eUn pNeg (eC (.int 2))) (aCons (eC (.int 5)) (aCons (eUn pNeg (eC (.int 7))) aNil))))))))) aNil))) (TV.gName 5))
    (sExpr (eApp (eVar 2) (eArgs gTuple (aCons (eArgs F_law_pick (aCons (eVar 0) (aCons (eVar 1) aNil))) (aCons (eArgs F_law_pick (aCons (eVar 0) (aCons (eVar 1) aNil))) (aCons (eOp pMul (eVar 5) (eVar 3)) aNil)))))))
structure RowSt (ld : Nat) (M0 M : Mem) (lp lf : Nat) (js : List Nat) (rs : List Row) : Prop where
  adv : Adv ld M0 M
  p : M[lp]? = some (.lst (js.map pt))
  f : M[lf]? = some (.lst (rs.map rowP))
  pd : lp ≠ ld
  fd : lf ≠ ld
  pf : lp ≠ lf
  f0 : M0.length ≤ lf
theorem ws8_lit (ρ : Rho) (M : Mem) : eArgs gList (aCons (eC (.int 0)) (aCons (eC (.int 0)) (aCons (eC (.int 1)) (aCons (eUn pNeg (eC (.int 1))) (aCons (eC (.int 2)) (aCons (eUn pNeg (eC (.int 2))) (aCons (eC (.int 5)) (aCons (eUn pNeg (eC (.int 7))) aNil)))))))) ρ M = .ok (.loc M.length) (M ++ [.lst ws8]) := rfl
theorem row_turn {ld lp lf : Nat} {M0 M : Mem} {js : List Nat} {rs : List Row} (s : RowSt ld M0 M lp lf js rs) (h0 : js ≠ []) (h5 : ∀ j ∈ js, j < 11) (hl : js.length ≤ 11) (hr : rs.length < 100) {tm : Int} (ht : tm.natAbs ≤ 10 ^ 57) (x4 x5 : Option P) : ∃ (r : Row) (M' : Mem) (y5 : P), drawn r ∧ RowSt ld M0 M' lp lf js (rs ++ [r]) ∧
    rowBody [some (.loc ld), some (.loc lp), some (.loc lf), some (.int tm), x4, x5] M = .next [some (.loc ld), some (.loc lp), some (.loc lf), some (.int tm), x4, some y5] M' := by
  have hx : ∀ M : Mem, ∀ x ∈ js.map pt, ∀ k ∈ x.locs, k < M.length := fun M x hx k hk => by
    obtain ⟨j, _, rfl⟩ := List.mem_map.mp hx
    rw [locs_pt] at hk
    cases hk
  have ne : js.map pt ≠ [] := by simpa using h0
  have ll : (js.map pt).length < 1073741824 := by rw [List.length_map]; omega
  have a0 := s.adv.app [.lst ws8]
  have g0 : (M ++ [MO.lst ws8])[M.length]? = some (.lst ws8) := by simp
  have d0 : M.length ≠ ld := fun z => by have := s.adv.dice.lt; omega
  obtain ⟨p3, M1, m3, e3, a1, l1⟩ := pick_ok a0.dice g0 d0 (by simp [ws8]) (by decide) (fun x hx k hk => by
    obtain ⟨i, rfl, _⟩ := ws8_mem hx
    simp [P.locs] at hk)
  obtain ⟨i, rfl, i7⟩ := ws8_mem m3
  have A1 : Adv ld M M1 := (Adv.refl s.adv.dice).app _ |>.trans a1
  obtain ⟨p1, M2, m1, e1, a2, l2⟩ := pick_ok a1.dice (A1.at s.p s.pd) s.pd ne ll (hx _)
  obtain ⟨p2, M3, m2, e2, a3, l3⟩ := pick_ok a2.dice ((A1.trans a2).at s.p s.pd) s.pd ne ll (hx _)
  obtain ⟨j1, hj1, rfl⟩ := List.mem_map.mp m1
  obtain ⟨j2, hj2, rfl⟩ := List.mem_map.mp m2
  have A3 := A1.trans (a2.trans a3)
  have aall := s.adv.trans A3
  have pall := A3.at s.p s.pd
  have fall := A3.at s.f s.fd
  have flt : lf < M3.length := (List.getElem?_eq_some_iff.mp fall).1
  have hmul : pMul (.int i) (.int tm) M3 = .ok (.int (i * tm)) M3 := o_mul _ _ (.inl (by omega))
  refine ⟨(j1, j2, i * tm), M3.set lf (.lst ((rs ++ [(j1, j2, i * tm)]).map rowP)), .int i, ⟨h5 _ hj1, h5 _ hj2, ?_⟩, ⟨⟨?_, ?_, ?_⟩, ?_, ?_, s.pd, s.fd, s.pf, s.f0⟩, ?_⟩
  · show (i * tm).natAbs ≤ _
    rw [Int.natAbs_mul]
    exact Nat.mul_le_mul i7 ht
  · rw [List.length_set]; exact aall.len
  · intro l q1 q2
    rw [List.getElem?_set_ne (by have := s.f0; omega)]
    exact aall.get l q1 q2
  · rw [List.getElem?_set_ne s.fd]; exact aall.dice
  · rw [List.getElem?_set_ne (fun z => s.pf z.symm)]; exact pall
  · rw [List.getElem?_set_self flt]
  · unfold rowBody
    have tp : ∀ p q r : P, ∀ M, gTuple [p, q, r] M = .ok (.tup [p, q, r]) M := fun _ _ _ _ => rfl
    have s1 : sAsg (eArgs F_law_pick (aCons (eVar 0) (aCons (eArgs gList (aCons (eC (.int 0)) (aCons (eC (.int 0)) (aCons (eC (.int 1)) (aCons (eUn pNeg (eC (.int 1))) (aCons (eC (.int 2)) (aCons (eUn pNeg (eC (.int 2))) (aCons (eC (.int 5)) (aCons (eUn pNeg (eC (.int 7))) aNil))))))))) aNil))) (TV.gName 5) [some (.loc ld), some (.loc lp), some (.loc lf), some (.int tm), x4, x5] M = .next [some (.loc ld), some (.loc lp), some (.loc lf), some (.int tm), x4, some (.int i)] M1 := by
      rw [z_asg, x_args, x_cons, x_v0, b_ok, x_cons, ws8_lit, b_ok, x_nil, b_ok, b_ok, b_ok, e3, s_ok]
      rfl
    have ev : eArgs gTuple (aCons (eArgs F_law_pick (aCons (eVar 0) (aCons (eVar 1) aNil))) (aCons (eArgs F_law_pick (aCons (eVar 0) (aCons (eVar 1) aNil))) (aCons (eOp pMul (eVar 5) (eVar 3)) aNil))) [some (.loc ld), some (.loc lp), some (.loc lf), some (.int tm), x4, some (.int i)] M1 = .ok (rowP (j1, j2, i * tm)) M3 := by
      rw [x_args, x_cons, x_args, x_cons, x_v0, b_ok, x_cons, x_v1, b_ok, x_nil, b_ok, b_ok, b_ok, e1, b_ok, x_cons, x_args, x_cons, x_v0, b_ok, x_cons, x_v1, b_ok, x_nil, b_ok, b_ok, b_ok, e2, b_ok, x_cons, x_op, x_v5, b_ok, x_v3, b_ok, hmul, b_ok, x_nil, b_ok, b_ok, b_ok, b_ok, tp]
      rfl
    have fM1 : M1[lf]? = some (.lst (rs.map rowP)) := A1.at s.f s.fd
    rw [z_seq, s1, t_next, z_expr]
    unfold eApp
    rw [x_v2, b_ok]
    dsimp only
    rw [fM1]
    dsimp only
    rw [ev, b_ok]
    rw [fall]
    dsimp only
    rw [if_pos (by rw [List.length_map]; exact Nat.lt_trans hr (by decide)), s_ok, List.map_append]
    rfl
theorem row_loop {ld lp lf : Nat} {M0 : Mem} {js : List Nat} (h0 : js ≠ []) (h5 : ∀ j ∈ js, j < 11) (hl : js.length ≤ 11) {tm : Int} (ht : tm.natAbs ≤ 10 ^ 57) : ∀ (is : List P) (M : Mem) (rs : List Row) (x4 x5 : Option P), RowSt ld M0 M lp lf js rs → (∀ r ∈ rs, drawn r) → rs.length + is.length ≤ 20 → ∃ (rs' : List Row) (M' : Mem) (y4 y5 : Option P),
    RowSt ld M0 M' lp lf js rs' ∧ (∀ r ∈ rs', drawn r) ∧ rs'.length = rs.length + is.length ∧
    loopF (fun _ => true) (TV.gName 4) rowBody is [some (.loc ld), some (.loc lp), some (.loc lf), some (.int tm), x4, x5] M = .next [some (.loc ld), some (.loc lp), some (.loc lf), some (.int tm), y4, y5] M'
  | [], M, rs, x4, x5, s, hd, _ => ⟨rs, M, x4, x5, s, hd, rfl, by simp [loopF]⟩
  | i :: is, M, rs, x4, x5, s, hd, hn => by
    rw [List.length_cons] at hn
    obtain ⟨r, M1, y5, hr, s1, e1⟩ := row_turn s h0 h5 hl (by omega) ht (some i) x5
    obtain ⟨rs', M', z4, z5, s', hd', hl', e'⟩ := row_loop h0 h5 hl ht is M1 (rs ++ [r]) (some i) (some y5) s1 (fun q hq => by
      rcases List.mem_append.mp hq with z | z
      · exact hd q z
      · rw [List.mem_singleton.mp z]; exact hr) (by rw [List.length_append, List.length_singleton]; omega)
    refine ⟨rs', M', z4, z5, s', hd', by rw [hl', List.length_append, List.length_singleton, List.length_cons]; omega, ?_⟩
    rw [loopF, if_pos rfl]
    have hg : TV.gName 4 i [some (.loc ld), some (.loc lp), some (.loc lf), some (.int tm), x4, x5] = some [some (.loc ld), some (.loc lp), some (.loc lf), some (.int tm), some i, x5] := rfl
    rw [hg]
    dsimp only
    rw [e1, l_next]
    exact e'
theorem flat_rows (rs : List Row) : locsL (rs.map rowP) = [] := by
  induction rs with
  | nil => rfl
  | cons r rs ih =>
    rw [List.map_cons, locsL, ih]
    show locsL [pt r.1, pt r.2.1, .int r.2.2] ++ [] = []
    simp [locsL, locs_pt, P.locs]
theorem pow57 (M : Mem) : pPow (.int 10) (.int 57) M = .ok (.int (10 ^ 57)) M := o_pow 10 57 (by decide +kernel) M
def ts4 : List P := [.int 1, .int 1, .int 1, .int (10 ^ 57)]
/-- drawn differences -/
theorem rows_spec {ld : Nat} {M : Mem} (h : IsDice M[ld]?) : ∃ (rs : List Row) (M' : Mem), F_law_rows [.loc ld] M = .ok (.tup (rs.map rowP)) M' ∧ Adv ld M M' ∧ M'.length = M.length ∧ rs.length ≤ 8 ∧ ∀ r ∈ rs, drawn r := by
  have hlt := h.lt
  let M1 : Mem := M ++ [.lst (p11.map pt)]
  let M2 : Mem := M1 ++ [.lst [.int 3, .int 4, .int 8, .int 11]]
  have A2 : Adv ld M M2 := ((Adv.refl h).app _).app _
  have g2 : M2[M1.length]? = some (.lst [.int 3, .int 4, .int 8, .int 11]) := by simp [M2]
  obtain ⟨p, M3, hp, e3, a3, l3⟩ := pick_ok A2.dice g2 (by simp [M1]; omega) (by simp) (by decide) (fun x hx k hk => by
    simp only [List.mem_cons, List.not_mem_nil, or_false] at hx
    rcases hx with rfl | rfl | rfl | rfl <;> simp [P.locs] at hk)
  have gp : M3[M.length]? = some (.lst (p11.map pt)) := a3.at (by simp [M2, M1]) (by omega)
  obtain ⟨js, n, hn, hjs, js0, js5, jsl⟩ : ∃ (js : List Nat) (n : Int), p = .int n ∧ cutP (p11.map pt) none (some n) = js.map pt ∧ js ≠ [] ∧ (∀ j ∈ js, j < 11) ∧ js.length ≤ 11 := by
    simp only [List.mem_cons, List.not_mem_nil, or_false] at hp
    rcases hp with rfl | rfl | rfl | rfl
    · exact ⟨[0, 1, 2], 3, rfl, rfl, by simp, by simp, by simp⟩
    · exact ⟨[0, 1, 2, 3], 4, rfl, rfl, by simp, by simp, by simp⟩
    · exact ⟨[0, 1, 2, 3, 4, 5, 6, 7], 8, rfl, rfl, by simp, by simp, by simp⟩
    · exact ⟨p11, 11, rfl, rfl, by simp [p11], by simp [p11], by simp [p11]⟩
  subst hn
  let M4 : Mem := M3 ++ [.lst (js.map pt)]
  let M5 : Mem := M4 ++ [.lst []]
  let M6 : Mem := M5 ++ [.lst ts4]
  have A4 : Adv ld M M4 := (A2.trans a3).app _
  have A6 : Adv ld M M6 := (A4.app _).app _
  have ml : M.length ≤ M3.length := (A2.trans a3).len
  obtain ⟨tp', M7, ht, e7, a7, l7⟩ := pick_ok A6.dice (li := M5.length) (xs := ts4) (by simp [M6]) (by simp [M5, M4]; omega) (by simp [ts4]) (by decide) (fun x hx k hk => by
    simp only [ts4, List.mem_cons, List.not_mem_nil, or_false] at hx
    rcases hx with rfl | rfl | rfl | rfl <;> simp [P.locs] at hk)
  obtain ⟨tm, rfl, htm⟩ : ∃ tm : Int, tp' = .int tm ∧ tm.natAbs ≤ 10 ^ 57 := by
    simp only [ts4, List.mem_cons, List.not_mem_nil, or_false] at ht
    rcases ht with rfl | rfl | rfl | rfl
    · exact ⟨1, rfl, by decide⟩
    · exact ⟨1, rfl, by decide⟩
    · exact ⟨1, rfl, by decide⟩
    · exact ⟨10 ^ 57, rfl, by decide +kernel⟩
  have A7 : Adv ld M M7 := A6.trans a7
  have sl : eSl (eArgs F_law_points aNil) oNone (oSome (eArgs F_law_pick (aCons (eVar 0) (aCons (eArgs gList (aCons (eC (.int 3)) (aCons (eC (.int 4)) (aCons (eC (.int 8)) (aCons (eC (.int 11)) aNil))))) aNil)))) [some (.loc ld), none, none, none, none, none] M = .ok (.loc M3.length) M4 := by
    have w1 : eArgs F_law_points aNil [some (.loc ld), none, none, none, none, none] M = .ok (.loc M.length) M1 := by
      rw [x_args, x_nil, b_ok, points_spec]
    have w2 : eArgs gList (aCons (eC (.int 3)) (aCons (eC (.int 4)) (aCons (eC (.int 8)) (aCons (eC (.int 11)) aNil)))) [some (.loc ld), none, none, none, none, none] M1 = .ok (.loc M1.length) M2 := rfl
    have w3 : oNone [some (.loc ld), none, none, none, none, none] M1 = .ok none M1 := rfl
    have w4 : oSome (eArgs F_law_pick (aCons (eVar 0) (aCons (eArgs gList (aCons (eC (.int 3)) (aCons (eC (.int 4)) (aCons (eC (.int 8)) (aCons (eC (.int 11)) aNil))))) aNil))) [some (.loc ld), none, none, none, none, none] M1 = .ok (some n) M3 := by
      unfold oSome
      rw [x_args, x_cons, x_v0, b_ok, x_cons, w2, b_ok, x_nil, b_ok, b_ok, b_ok, e3, b_ok]
    unfold eSl
    rw [w1, b_ok, w3, b_ok, w4, b_ok]
    unfold pSl
    dsimp only
    rw [seqM_of gp]
    dsimp only
    rw [hjs]
  have tl : eArgs F_law_pick (aCons (eVar 0) (aCons (eArgs gList (aCons (eC (.int 1)) (aCons (eC (.int 1)) (aCons (eC (.int 1)) (aCons (eOp pPow (eC (.int 10)) (eC (.int 57))) aNil))))) aNil)) [some (.loc ld), none, none, none, none, none] M5 = .ok (.int tm) M7 := by
    have w : eArgs gList (aCons (eC (.int 1)) (aCons (eC (.int 1)) (aCons (eC (.int 1)) (aCons (eOp pPow (eC (.int 10)) (eC (.int 57))) aNil)))) [some (.loc ld), none, none, none, none, none] M5 = .ok (.loc M5.length) M6 := by
      simp only [x_args, x_cons, x_nil, x_C, b_ok, x_op, pow57]
      rfl
    rw [x_args, x_cons, x_v0, b_ok, x_cons, w, b_ok, x_nil, b_ok, b_ok, b_ok, e7]
  obtain ⟨r, M8, r0, r1, e8, a8, l8⟩ := roll_ok A7.dice (t := 9) (by decide) (by decide)
  have s8 : RowSt ld M M8 M3.length M4.length js [] := by
    refine ⟨A7.trans a8, (a7.trans a8).at (by simp [M6, M5, M4]) (by omega), (a7.trans a8).at (by simp [M6, M5]) (by simp [M4]; omega), by omega, by simp [M4]; omega, by simp [M4], by simp [M4]; omega⟩
  have hul : (upto 0 r.toNat).length = r.toNat := by unfold upto; simp
  obtain ⟨rs, M9, y4, y5, s9, hd, hln, e9⟩ := row_loop js0 js5 jsl htm (upto 0 r.toNat) M8 [] none none s8 (by simp) (by rw [hul]; simp; omega)
  rw [hul] at hln
  refine ⟨rs, M9.take M.length, ?_, s9.adv.take hlt, s9.adv.takeLen, by simp at hln; omega, hd⟩
  unfold F_law_rows mkF m_law_rows
  rw [if_pos (show [P.loc ld].length = 1 from rfl)]
  have hst : startR 6 [P.loc ld] = [some (.loc ld), none, none, none, none, none] := rfl
  have par : ∀ (fa fb fc : FE) (ρ : Rho) (M : Mem), sPar3 1 2 3 fa fb fc ρ M = bindS (fa ρ M) ρ fun p M1 => bindS (fb ρ M1) ρ fun q M2 => bindS (fc ρ M2) ρ fun r M3 => .next (((ρ.set 1 (some p)).set 2 (some q)).set 3 (some r)) M3 := fun _ _ _ _ _ => rfl
  rw [hst, z_seq, par, sl, s_ok, lst0, s_ok]
  show gc M (fin (sThen (bindS (eArgs F_law_pick _ _ M5) _ _) _)) = _
  rw [tl, s_ok, t_next]
  have hset : List.set (List.set (List.set [some (P.loc ld), none, none, none, none, none] 1 (some (.loc M3.length))) 2 (some (.loc M4.length))) 3 (some (.int tm)) = [some (P.loc ld), some (.loc M3.length), some (.loc M4.length), some (.int tm), none, none] := rfl
  rw [hset, z_seq, z_for]
  have it : iArgs rng1 (aCons (eArgs F_law_roll (aCons (eVar 0) (aCons (eC (.int 9)) aNil))) aNil) [some (P.loc ld), some (.loc M3.length), some (.loc M4.length), some (.int tm), none, none] M7 = .ok ⟨upto 0 r.toNat, fun _ => true⟩ M8 := by
    unfold iArgs
    rw [x_cons, x_args, x_cons, x_v0, b_ok, x_cons, x_C, b_ok, x_nil, b_ok, b_ok, b_ok, e8, b_ok, x_nil, b_ok, b_ok, rng_one _ (by constructor <;> omega)]
  rw [it, s_ok]
  dsimp only
  have e9 : loopF (fun _ => true) (TV.gName 4) rowBody (upto 0 r.toNat) [some (.loc ld), some (.loc M3.length), some (.loc M4.length), some (.int tm), none, none] M8 = _ := e9
  rw [e9, t_next, z_ret, x_args, x_cons, x_v2, b_ok, x_nil, b_ok, b_ok]
  have tp : pTupleOf [.loc M4.length] M9 = .ok (.tup (rs.map rowP)) M9 := by
    unfold pTupleOf
    dsimp only
    rw [seqM_of s9.f]
  rw [tp, s_ok, f_ret]
  exact gc_kept s9.adv.kept (fun k hk => by rw [show (P.tup (rs.map rowP)).locs = locsL (rs.map rowP) from rfl, flat_rows] at hk; cases hk)
end Hd
end
section
set_option linter.all false
set_option maxRecDepth 100000
set_option maxHeartbeats 1000000
namespace Hd
open PySem PySem.Spec PyProof.Rows L2 TV
theorem x_lc1 {fi : FI} {gt : FG} {ft : FT} {fe : FE} {own : List Nat} {ρ : Rho} {M0 M : Mem} {I : Iter} {c : P → Bool} {f : P → P} (hi : fi ρ M0 = .ok I M) (hg : ∀ acc, I.guard (M ++ [.lst acc]) = true) (hl : I.items.length ≤ sizeLine)
    (hb : ∀ p ∈ I.items, ∃ ρ1, gt p (wipeR ρ own) = some ρ1 ∧ ∀ acc, ft ρ1 (M ++ [.lst acc]) = .ok (c p) (M ++ [.lst acc]) ∧ (c p = true → fe ρ1 (M ++ [.lst acc]) = .ok (f p) (M ++ [.lst acc]))) :
    eLc fi gt ft fe own ρ M0 = .ok (.loc M.length) (M ++ [.lst ((I.items.filter c).map f)]) := by
  unfold eLc
  rw [hi]
  have := lc_run (c := c) (f := f) hg I.items [] hb (by simpa using hl)
  simpa using this
theorem in_list {M : Mem} {l j : Nat} {ks : List Nat} (hl : M[l]? = some (.lst (ks.map pt))) (kl : ∀ i ∈ ks, i < 12) (hj : j < 12) : pIn true (pt j) (.loc l) M = .ok (.bl (!decide (j ∈ ks))) M := by
  have e : pInB (pt j) (.loc l) M = some (decide (j ∈ ks)) := by
    unfold pInB
    dsimp only
    rw [hl]
    dsimp only
    rw [toD_pt, toD_lst hl (nice_pts ks) (Nat.le_trans (dep_pts ks) (by decide))]
    dsimp only
    rw [if_pos ⟨shaped_pt j, shaped_list (nice_pts ks) (Nat.lt_of_le_of_lt (dep_pts ks) (by decide))⟩]
    congr 1
    rw [datL_map, List.map_map, List.any_map]
    rw [Bool.eq_iff_iff, List.any_eq_true]
    constructor
    · rintro ⟨i, hi, h⟩
      have h : PyData.eqv (dat (pt i)) (encPt j) = true := h
      rw [dat_pt, eqv_pt (kl i hi) hj] at h
      simpa [← of_decide_eq_true h] using hi
    · intro h
      refine ⟨j, by simpa using h, ?_⟩
      show PyData.eqv (dat (pt j)) (encPt j) = true
      rw [dat_pt, eqv_pt hj hj]
      simp
  unfold pIn
  rw [e]
  rfl
/-- the new points of a row, as the law finds them -/
def newPts (ks : List Nat) (r : Row) : List Nat := (r.1 :: (if r.2.1 = r.1 then [] else [r.2.1])).filter fun j => !decide (j ∈ ks)
theorem newPts_eq (ks : List Nat) (r : Row) : ks ++ newPts ks r = addPt (addPt ks r.1) r.2.1 := by
  unfold newPts addPt
  by_cases h1 : r.1 ∈ ks
  · by_cases h2 : r.2.1 = r.1
    · rw [h2]; simp [h1]
    · by_cases h3 : r.2.1 ∈ ks <;> simp [h1, h2, h3]
  · by_cases h2 : r.2.1 = r.1
    · rw [h2]; simp [h1]
    · by_cases h3 : r.2.1 ∈ ks <;> simp [h1, h2, h3]
theorem newPts_lt {ks : List Nat} {r : Row} (h : okRow r) : ∀ j ∈ newPts ks r, j < 12 := by
  intro j hj
  have := (List.mem_filter.mp hj).1
  rcases List.mem_cons.mp this with z | z
  · rw [z]; exact h.1
  · split at z
    · cases z
    · rw [List.mem_singleton.mp z]; exact h.2.1
theorem newPts_len (ks : List Nat) (r : Row) : (newPts ks r).length ≤ 2 := by
  unfold newPts
  refine Nat.le_trans (List.length_filter_le _ _) ?_
  split <;> simp
noncomputable abbrev anBody : FS := (sAsg (eOp pAdd (eVar 1) (eLc (iOver (eOp pAdd (eArgs gList (aCons (eVar 2) aNil)) (eOp pMul (eArgs gList (aCons (eVar 3) aNil)) (eArgs pInt (aCons (eOp (pNe) (eVar 3) (eVar 2)) aNil))))) (TV.gName 5) (tVal (eOp (pIn true) (eVar 5) (eVar 1))) (eVar 5) [5])) (TV.gName 1))
theorem list1 (p : P) (M : Mem) : gList [p] M = .ok (.loc M.length) (M ++ [.lst [p]]) := rfl
theorem an_turn {M : Mem} {l : Nat} {ks : List Nat} (hl : M[l]? = some (.lst (ks.map pt))) (kl : ∀ i ∈ ks, i < 12) (kn : ks.Nodup) {r : Row} (hr : okRow r) (a c : Option P) : ∃ (G : Mem) (l' : Nat),
    anBody [a, some (.loc l), some (pt r.1), some (pt r.2.1), c, none] M = .next [a, some (.loc l'), some (pt r.1), some (pt r.2.1), c, none] (M ++ G) ∧ (M ++ G)[l']? = some (.lst ((addPt (addPt ks r.1) r.2.1).map pt)) ∧ l ≤ l' := by
  let M1 : Mem := M ++ [.lst [pt r.1]]
  let M2 : Mem := M1 ++ [.lst [pt r.2.1]]
  let k : Int := if (!decide (r.2.1 = r.1)) = true then 1 else 0
  let ys : List P := (List.replicate k.toNat [pt r.2.1]).flatten
  let M3 : Mem := M2 ++ [.lst ys]
  let M4 : Mem := M3 ++ [.lst ([pt r.1] ++ ys)]
  have hys : [pt r.1] ++ ys = (r.1 :: (if r.2.1 = r.1 then [] else [r.2.1])).map pt := by
    show [pt r.1] ++ (List.replicate k.toNat [pt r.2.1]).flatten = _
    by_cases h : r.2.1 = r.1
    · have : k = 0 := by show (if _ then _ else _) = _; simp [h]
      rw [this]; simp [h]
    · have : k = 1 := by show (if _ then _ else _) = _; simp [h]
      rw [this]; simp [h]
  have hyl : ([pt r.1] ++ ys).length ≤ 2 := by
    rw [hys]
    split <;> simp
  have k0 : k = 0 ∨ k = 1 := by
    show (if _ then _ else _) = _ ∨ (if _ then _ else _) = _
    split <;> simp
  have mul : pMul (.loc M1.length) (.int k) M2 = .ok (.loc M2.length) M3 := by
    have g : M2[M1.length]? = some (.lst [pt r.2.1]) := by simp [M2]
    show (match M2[M1.length]? with | some (MO.lst xs) => if -(2 ^ 63) ≤ k ∧ k < 2 ^ 63 ∧ xs.length * k.toNat ≤ sizeLine then Res.ok (P.loc M2.length) (M2 ++ [MO.lst (List.replicate k.toNat xs).flatten]) else .bad | _ => .bad) = _
    rw [g]
    dsimp only
    rw [if_pos]
    rcases k0 with e | e <;> rw [e, List.length_singleton] <;> decide
  have add1 : pAdd (.loc M.length) (.loc M2.length) M3 = .ok (.loc M3.length) M4 := by
    have g1 : M3[M.length]? = some (.lst [pt r.1]) := by simp [M3, M2, M1]
    have g2 : M3[M2.length]? = some (.lst ys) := by simp [M3]
    refine add_loc g1 g2 ?_
    rw [List.length_append] at hyl
    exact Nat.le_trans hyl (by decide)
  have ev : eOp pAdd (eArgs gList (aCons (eVar 2) aNil)) (eOp pMul (eArgs gList (aCons (eVar 3) aNil)) (eArgs pInt (aCons (eOp (pNe) (eVar 3) (eVar 2)) aNil))) [a, some (.loc l), some (pt r.1), some (pt r.2.1), c, none] M = .ok (.loc M3.length) M4 := by
    simp only [x_op, x_args, x_cons, x_v2, x_v3, x_nil, b_ok, list1, ne_pt hr.2.1 hr.1]
    show (Res.bind (pInt [.bl (!decide (r.2.1 = r.1))] M2) fun q M2' => pMul (.loc M1.length) q M2').bind (fun q M => pAdd (.loc _) q M) = _
    have : pInt [.bl (!decide (r.2.1 = r.1))] M2 = .ok (.int k) M2 := rfl
    rw [this, b_ok, mul, b_ok]
    exact add1
  have g4 : M4[M3.length]? = some (.lst ((r.1 :: (if r.2.1 = r.1 then [] else [r.2.1])).map pt)) := by rw [← hys]; simp [M4]
  obtain ⟨I, hi, hit, hg⟩ := over_lst ev g4
  have hl4 : M4[l]? = some (.lst (ks.map pt)) := by
    show (M ++ [MO.lst [pt r.1]] ++ [MO.lst [pt r.2.1]] ++ [MO.lst ys] ++ [MO.lst ([pt r.1] ++ ys)])[l]? = _
    simp only [List.append_assoc]
    exact getl hl
  have lc := x_lc1 (c := fun p => !decide (ptIx p ∈ ks)) (f := id) (gt := TV.gName 5) (ft := tVal (eOp (pIn true) (eVar 5) (eVar 1))) (fe := eVar 5) (own := [5]) hi (fun acc => hg _ (getl g4)) (by
      rw [hit, List.length_map]
      exact Nat.le_trans (show _ ≤ 2 by split <;> simp) (by decide)) (by
    intro p hp
    rw [hit] at hp
    obtain ⟨j, hj, rfl⟩ := List.mem_map.mp hp
    have hj12 : j < 12 := by
      rcases List.mem_cons.mp hj with z | z
      · rw [z]; exact hr.1
      · split at z
        · cases z
        · rw [List.mem_singleton.mp z]; exact hr.2.1
    refine ⟨_, rfl, fun acc => ⟨?_, fun _ => rfl⟩⟩
    show tVal _ [a, some (.loc l), some (pt r.1), some (pt r.2.1), c, some (pt j)] _ = _
    rw [x_val, x_op, x_v5, b_ok, x_v1, b_ok, in_list (getl hl4) kl hj12, b_ok, cVal_bl, ptIx_pt hj12])
  have hf : (((r.1 :: (if r.2.1 = r.1 then [] else [r.2.1])).map pt).filter (fun p => !decide (ptIx p ∈ ks))).map id = (newPts ks r).map pt := by
    rw [List.map_id]
    unfold newPts
    have : ∀ js : List Nat, (∀ j ∈ js, j < 12) → (js.map pt).filter (fun p => !decide (ptIx p ∈ ks)) = (js.filter fun j => !decide (j ∈ ks)).map pt := by
      intro js
      induction js with
      | nil => intro _; rfl
      | cons j js ih =>
        intro h
        rw [List.map_cons, List.filter_cons, List.filter_cons, ptIx_pt (h j List.mem_cons_self), ih fun i hi => h i (List.mem_cons_of_mem _ hi)]
        split <;> simp
    refine this _ fun j hj => ?_
    rcases List.mem_cons.mp hj with z | z
    · rw [z]; exact hr.1
    · split at z
      · cases z
      · rw [List.mem_singleton.mp z]; exact hr.2.1
  rw [hit, hf] at lc
  have hl5 : (M4 ++ [MO.lst ((newPts ks r).map pt)])[l]? = some (.lst (ks.map pt)) := getl hl4
  have g5 : (M4 ++ [MO.lst ((newPts ks r).map pt)])[M4.length]? = some (.lst ((newPts ks r).map pt)) := by simp
  have add2 := add_loc hl5 g5 (by
    rw [List.length_map, List.length_map]
    have := newPts_len ks r
    have := small_len kl kn
    have := line_1000 (n := 1000) (Nat.le_refl _)
    omega)
  rw [← List.map_append, newPts_eq] at add2
  refine ⟨[.lst [pt r.1], .lst [pt r.2.1], .lst ys, .lst ([pt r.1] ++ ys), .lst ((newPts ks r).map pt), .lst ((addPt (addPt ks r.1) r.2.1).map pt)], (M4 ++ [MO.lst ((newPts ks r).map pt)]).length, ?_, ?_, ?_⟩
  · unfold anBody
    rw [z_asg, x_op, x_v1, b_ok, lc, b_ok, add2, s_ok]
    have : M4 ++ [MO.lst ((newPts ks r).map pt)] ++ [MO.lst ((addPt (addPt ks r.1) r.2.1).map pt)] = M ++ [.lst [pt r.1], .lst [pt r.2.1], .lst ys, .lst ([pt r.1] ++ ys), .lst ((newPts ks r).map pt), .lst ((addPt (addPt ks r.1) r.2.1).map pt)] := by simp [M4, M3, M2, M1]
    rw [this]
    rfl
  · simp [M4, M3, M2, M1]
  · have := (List.getElem?_eq_some_iff.mp hl).1
    simp only [M4, M3, M2, M1, List.length_append, List.length_singleton]
    omega
theorem an_loop {a : Option P} : ∀ (rs : List Row) (M : Mem) (l : Nat) (ks : List Nat) (x y z : Option P), (∀ r ∈ rs, okRow r) → M[l]? = some (.lst (ks.map pt)) → (∀ i ∈ ks, i < 12) → ks.Nodup → ∃ (G : Mem) (l' : Nat) (x' y' z' : Option P),
    loopF (fun _ => true) (TV.gTup [(TV.gName 2), (TV.gName 3), (TV.gName 4)]) anBody (rs.map rowP) [a, some (.loc l), x, y, z, none] M = .next [a, some (.loc l'), x', y', z', none] (M ++ G) ∧ (M ++ G)[l']? = some (.lst ((ptsOf rs ks).map pt)) ∧ l ≤ l'
  | [], M, l, ks, x, y, z, _, hl, _, _ => ⟨[], l, x, y, z, by simp [loopF], by simpa [ptsOf] using hl, Nat.le_refl _⟩
  | r :: rs, M, l, ks, x, y, z, hr, hl, kl, kn => by
    obtain ⟨G, l', e, h', hle⟩ := an_turn hl kl kn (hr r List.mem_cons_self) a (some (.int r.2.2))
    have hk1 := addPt_lt (addPt_lt kl (hr r List.mem_cons_self).1) (hr r List.mem_cons_self).2.1
    obtain ⟨G2, l2, x', y', z', e2, h2, hle2⟩ := an_loop rs (M ++ G) l' (addPt (addPt ks r.1) r.2.1) (some (pt r.1)) (some (pt r.2.1)) (some (.int r.2.2)) (fun q hq => hr q (List.mem_cons_of_mem _ hq)) h' hk1 (addPt_nodup (addPt_nodup kn))
    refine ⟨G ++ G2, l2, x', y', z', ?_, ?_, Nat.le_trans hle hle2⟩
    · rw [List.map_cons, loopF, if_pos rfl]
      have hg : TV.gTup [(TV.gName 2), (TV.gName 3), (TV.gName 4)] (rowP r) [a, some (.loc l), x, y, z, none] = some [a, some (.loc l), some (pt r.1), some (pt r.2.1), some (.int r.2.2), none] := rfl
      rw [hg]
      dsimp only
      rw [e, l_next, e2, List.append_assoc]
    · rw [← List.append_assoc]; exact h2
theorem ends_spec {rs : List Row} (hr : ∀ r ∈ rs, okRow r) (M : Mem) : F_law_ends [.tup (rs.map rowP)] M = .ok (.loc M.length) (M ++ [.lst ((ptsOf rs [0]).map pt)]) := by
  obtain ⟨G, lp, x, y, z, el, hp, hle⟩ := an_loop (a := some (.tup (rs.map rowP))) rs (M ++ [.lst [pt 0]]) M.length [0] none none none hr (by simp) (by simp) (by simp)
  unfold F_law_ends mkF m_law_ends
  rw [if_pos (show [P.tup (rs.map rowP)].length = 1 from rfl)]
  have hst : startR 6 [P.tup (rs.map rowP)] = [some (.tup (rs.map rowP)), none, none, none, none, none] := rfl
  have a1 : sAsg (eArgs gList (aCons (eC (.str "")) aNil)) (TV.gName 1) [some (.tup (rs.map rowP)), none, none, none, none, none] M = .next [some (.tup (rs.map rowP)), some (.loc M.length), none, none, none, none] (M ++ [.lst [pt 0]]) := rfl
  rw [hst, z_seq, a1, t_next, z_seq, z_for, over_tup (fa := eVar 0) rfl, s_ok]
  have el : loopF (fun _ => true) (TV.gTup [(TV.gName 2), (TV.gName 3), (TV.gName 4)]) anBody (rs.map rowP) [some (.tup (rs.map rowP)), some (.loc M.length), none, none, none, none] (M ++ [.lst [pt 0]]) = _ := el
  rw [el, t_next, z_ret, x_v1, s_ok, f_ret]
  rw [List.append_assoc] at hp ⊢
  rw [gc_loc (o := .lst ((ptsOf rs [0]).map pt)) (kept_app _ _) hle hp (fun k hk => by rw [show (MO.lst ((ptsOf rs [0]).map pt)).locs = locsL ((ptsOf rs [0]).map pt) from rfl, flat_pts] at hk; cases hk)]
  simp
end Hd
end
section
set_option linter.all false
set_option maxRecDepth 100000
set_option maxHeartbeats 1000000
namespace Hd
open PySem PySem.Spec PyProof.Rows L2 TV
/-! ### a dict of pairs of points -/
abbrev TT := List ((Nat × Nat) × Int)
def pp (i j : Nat) : P := .tup [pt i, pt j]
def kp (i j : Nat) : NestedKey := .tup [key i, key j]
theorem keyOf_pp (i j : Nat) : keyOf (pp i j) = some (kp i j) := by
  unfold pp kp
  simp only [keyOf, keysOf, key_pt]
  rfl
theorem key_dep2 (j : Nat) : (key j).depth ≤ 2 := by
  unfold key
  exact pt_all (Q := fun p => ((keyOf p).getD (.text "")).depth ≤ 2) (by decide +kernel) j
theorem kp_dep (i j : Nat) : (kp i j).depth ≤ 8 := by
  have h1 := key_dep2 i
  have h2 := key_dep2 j
  unfold kp
  simp only [NestedKey.depth, NestedKey.depthAll]
  omega
theorem kp_inj {i j i' j' : Nat} (h1 : i < 12) (h2 : j < 12) (h3 : i' < 12) (h4 : j' < 12) (h : kp i j = kp i' j') : i = i' ∧ j = j' := by
  unfold kp at h
  simp only [NestedKey.tup.injEq, List.cons.injEq, and_true] at h
  constructor
  · by_cases c : i = i'
    · exact c
    · exact absurd h.1 (key_ne h1 h3 c)
  · by_cases c : j = j'
    · exact c
    · exact absurd h.2 (key_ne h2 h4 c)
def asP (T : TT) : List (P × P) := T.map fun e => (pp e.1.1 e.1.2, .int e.2)
def lookT (T : TT) (p : Nat × Nat) : Option Int := (T.find? fun e => decide (e.1 = p)).map (·.2)
def putT (T : TT) (p : Nat × Nat) (c : Int) : TT := if (lookT T p).isSome = true then T.map (fun e => if e.1 = p then (e.1, c) else e) else T ++ [(p, c)]
def tab (T : TT) : Tab := fun i j => lookT T (i, j)
structure TOk (T : TT) : Prop where
  lt : ∀ e ∈ T, e.1.1 < 12 ∧ e.1.2 < 12
  nd : (T.map (·.1)).Nodup
theorem look_asP : ∀ {T : TT}, (∀ e ∈ T, e.1.1 < 12 ∧ e.1.2 < 12) → ∀ {i j : Nat}, i < 12 → j < 12 → lookK (asP T) (kp i j) = (lookT T (i, j)).map P.int
  | [], _, _, _, _, _ => rfl
  | e :: T, h, i, j, hi, hj => by
    have ih := look_asP (T := T) (fun x hx => h x (List.mem_cons_of_mem _ hx)) hi hj
    have he := h e List.mem_cons_self
    unfold lookK lookT at ih ⊢
    show (List.find? _ ((pp e.1.1 e.1.2, P.int e.2) :: asP T)).map _ = _
    rw [List.find?_cons, List.find?_cons, keyOf_pp]
    by_cases c : e.1 = (i, j)
    · have c1 : e.1.1 = i := congrArg Prod.fst c
      have c2 : e.1.2 = j := congrArg Prod.snd c
      rw [c1, c2]
      simp [c]
    · have : ¬ kp e.1.1 e.1.2 = kp i j := fun z => c (by
        obtain ⟨a, b⟩ := kp_inj he.1 he.2 hi hj z
        exact Prod.ext a b)
      simp only [Option.some.injEq, this, decide_false, c, ih]
theorem lookT_cons (e : (Nat × Nat) × Int) (T : TT) (p : Nat × Nat) : lookT (e :: T) p = if e.1 = p then some e.2 else lookT T p := by
  unfold lookT
  rw [List.find?_cons]
  by_cases c : e.1 = p <;> simp [c]
theorem has_asP : ∀ {T : TT}, (∀ e ∈ T, e.1.1 < 12 ∧ e.1.2 < 12) → ∀ {i j : Nat}, i < 12 → j < 12 → hasK (asP T) (kp i j) = (lookT T (i, j)).isSome
  | [], _, _, _, _, _ => rfl
  | e :: T, h, i, j, hi, hj => by
    have ih := has_asP (T := T) (fun x hx => h x (List.mem_cons_of_mem _ hx)) hi hj
    have he := h e List.mem_cons_self
    show (decide (keyOf (pp e.1.1 e.1.2) = some (kp i j)) || hasK (asP T) (kp i j)) = _
    rw [keyOf_pp, ih, lookT_cons]
    by_cases c : e.1 = (i, j)
    · have c1 : e.1.1 = i := congrArg Prod.fst c
      have c2 : e.1.2 = j := congrArg Prod.snd c
      rw [c1, c2]
      simp [c]
    · have : ¬ kp e.1.1 e.1.2 = kp i j := fun z => c (by
        obtain ⟨a, b⟩ := kp_inj he.1 he.2 hi hj z
        exact Prod.ext a b)
      simp [this, c]
theorem put_asP {T : TT} (h : ∀ e ∈ T, e.1.1 < 12 ∧ e.1.2 < 12) {i j : Nat} (hi : i < 12) (hj : j < 12) (c : Int) : TV.putK (asP T) (kp i j) (pp i j) (.int c) = asP (putT T (i, j) c) := by
  unfold TV.putK putT
  rw [has_asP h hi hj]
  by_cases q : (lookT T (i, j)).isSome = true
  · rw [if_pos q, if_pos q]
    unfold asP
    rw [List.map_map, List.map_map]
    apply List.map_congr_left
    intro e he
    have h1 := h e he
    show (if keyOf (pp e.1.1 e.1.2) = some (kp i j) then (pp e.1.1 e.1.2, P.int c) else (pp e.1.1 e.1.2, .int e.2)) = (pp (if e.1 = (i, j) then (e.1, c) else e).1.1 (if e.1 = (i, j) then (e.1, c) else e).1.2, P.int (if e.1 = (i, j) then (e.1, c) else e).2)
    rw [keyOf_pp]
    by_cases d : e.1 = (i, j)
    · have c1 : e.1.1 = i := congrArg Prod.fst d
      have c2 : e.1.2 = j := congrArg Prod.snd d
      rw [if_pos d, if_pos (by rw [c1, c2])]
    · have : ¬ kp e.1.1 e.1.2 = kp i j := fun z => d (by
        obtain ⟨a, b⟩ := kp_inj h1.1 h1.2 hi hj z
        exact Prod.ext a b)
      rw [if_neg d, if_neg (fun z => this (Option.some.inj z))]
  · rw [if_neg q, if_neg q]
    unfold asP
    rw [List.map_append]
    rfl
theorem lookT_none : ∀ {T : TT} {p : Nat × Nat}, lookT T p = none ↔ p ∉ T.map (·.1)
  | [], p => by simp [lookT]
  | e :: T, p => by
    rw [lookT_cons, List.map_cons, List.mem_cons]
    have ih := lookT_none (T := T) (p := p)
    by_cases c : e.1 = p
    · simp [c]
    · have c' : ¬ p = e.1 := fun z => c z.symm
      rw [if_neg c, ih]
      simp [c']
theorem lookT_map (p : Nat × Nat) (c : Int) : ∀ (T : TT) (q : Nat × Nat), lookT (T.map fun e => if e.1 = p then (e.1, c) else e) q = if q = p ∧ (lookT T p).isSome = true then some c else lookT T q
  | [], q => by simp [lookT]
  | e :: T, q => by
    have ih := lookT_map p c T q
    rw [List.map_cons, lookT_cons, ih, lookT_cons, lookT_cons]
    by_cases h1 : e.1 = p
    · by_cases h2 : q = p
      · subst h2; simp [h1]
      · have h3 : ¬ p = q := fun z => h2 z.symm
        simp [h1, h2, h3]
    · by_cases h2 : q = p
      · subst h2; simp [h1]
      · simp [h1, h2]
theorem lookT_app (T : TT) (p q : Nat × Nat) (c : Int) (h : lookT T p = none) : lookT (T ++ [(p, c)]) q = if q = p then some c else lookT T q := by
  induction T with
  | nil =>
    rw [List.nil_append, lookT_cons]
    by_cases h2 : q = p
    · simp [h2]
    · have h3 : ¬ p = q := fun z => h2 z.symm
      simp [h2, h3, lookT]
  | cons e T ih =>
    rw [lookT_cons] at h
    by_cases h1 : e.1 = p
    · rw [if_pos h1] at h; cases h
    · rw [if_neg h1] at h
      rw [List.cons_append, lookT_cons, ih h, lookT_cons]
      by_cases h2 : q = p
      · subst h2; simp [h1]
      · simp [h2]
theorem lookT_put (T : TT) (p q : Nat × Nat) (c : Int) : lookT (putT T p c) q = if q = p then some c else lookT T q := by
  unfold putT
  by_cases h : (lookT T p).isSome = true
  · rw [if_pos h, lookT_map]
    simp [h]
  · rw [if_neg h]
    have h' : lookT T p = none := by
      cases e : lookT T p with
      | none => rfl
      | some x => rw [e] at h; exact absurd rfl h
    exact lookT_app T p q c h'
theorem tab_put (T : TT) (i j : Nat) (c : Int) : tab (putT T (i, j) c) = put2 (tab T) i j c := by
  funext x y
  unfold tab put2
  rw [lookT_put]
  by_cases h : x = i ∧ y = j
  · obtain ⟨rfl, rfl⟩ := h; simp
  · have : ¬ (x, y) = (i, j) := fun z => h ⟨congrArg Prod.fst z, congrArg Prod.snd z⟩
    rw [if_neg this, if_neg h]
theorem TOk.put {T : TT} (h : TOk T) {i j : Nat} (hi : i < 12) (hj : j < 12) (c : Int) : TOk (putT T (i, j) c) := by
  unfold putT
  by_cases q : (lookT T (i, j)).isSome = true
  · rw [if_pos q]
    refine ⟨fun e he => ?_, ?_⟩
    · obtain ⟨x, hx, rfl⟩ := List.mem_map.mp he
      have := h.lt x hx
      by_cases d : x.1 = (i, j)
      · rw [if_pos d]; exact this
      · rw [if_neg d]; exact this
    · rw [List.map_map]
      have : T.map ((fun x : (Nat × Nat) × Int => x.1) ∘ fun e => if e.1 = (i, j) then (e.1, c) else e) = T.map (·.1) := by
        apply List.map_congr_left
        intro e _
        show (if e.1 = (i, j) then (e.1, c) else e).1 = e.1
        split <;> rfl
      rw [this]
      exact h.nd
  · rw [if_neg q]
    refine ⟨fun e he => ?_, ?_⟩
    · rcases List.mem_append.mp he with z | z
      · exact h.lt e z
      · rw [List.mem_singleton.mp z]; exact ⟨hi, hj⟩
    · rw [List.map_append, List.nodup_append]
      refine ⟨h.nd, by simp, fun a ha b hb z => ?_⟩
      have hb : b = (i, j) := by simpa using hb
      have hn : lookT T (i, j) = none := by
        cases e : lookT T (i, j) with
        | none => rfl
        | some x => rw [e] at q; exact absurd rfl q
      rw [lookT_none] at hn
      rw [z, hb] at ha
      exact hn ha
theorem TOk.len {T : TT} (h : TOk T) : T.length ≤ 144 := by
  have nd : (T.map fun e => e.1.1 * 12 + e.1.2).Nodup := by
    have h2 : T.map (fun e => e.1.1 * 12 + e.1.2) = (T.map (·.1)).map fun p => p.1 * 12 + p.2 := by rw [List.map_map]; rfl
    rw [h2]
    refine List.Pairwise.map (R := fun a b => a ≠ b ∧ a.2 < 12 ∧ b.2 < 12) _ (fun a b hab z => ?_) (List.Pairwise.imp_of_mem (fun {a b} ha hb hab => ⟨hab, ?_, ?_⟩) h.nd)
    · refine hab.1 (Prod.ext ?_ ?_) <;> omega
    · obtain ⟨e, he, rfl⟩ := List.mem_map.mp ha; exact (h.lt e he).2
    · obtain ⟨e, he, rfl⟩ := List.mem_map.mp hb; exact (h.lt e he).2
  have := few 144 (ks := T.map fun e => e.1.1 * 12 + e.1.2) (fun i hi => by
    obtain ⟨e, he, rfl⟩ := List.mem_map.mp hi
    have := h.lt e he
    omega) nd
  simpa using this
section
variable {M : Mem} {l i j : Nat} {T : TT}
theorem store_pp (h : M[l]? = some (.dct (asP T))) (ok : TOk T) (hi : i < 12) (hj : j < 12) (c : Int) : storeM (.loc l) (pp i j) (.int c) M = some (M.set l (.dct (asP (putT T (i, j) c)))) := by
  unfold storeM
  dsimp only
  rw [h]
  dsimp only
  rw [keyOf_pp]
  dsimp only
  rw [if_pos ⟨kp_dep i j, by unfold asP; rw [List.length_map]; exact Nat.lt_of_le_of_lt ok.len (by decide)⟩, put_asP ok.lt hi hj]
theorem in_pp (h : M[l]? = some (.dct (asP T))) (ok : TOk T) (hi : i < 12) (hj : j < 12) : pIn false (pp i j) (.loc l) M = .ok (.bl (tab T i j).isSome) M := by
  have hd : dictOfM M l = some (asP T) := by unfold dictOfM; rw [h]
  unfold pIn pInB
  dsimp only
  rw [h]
  dsimp only
  rw [hd, keyOf_pp]
  dsimp only
  rw [if_pos (kp_dep i j), has_asP ok.lt hi hj]
  rfl
theorem ix_pp (h : M[l]? = some (.dct (asP T))) (ok : TOk T) (hi : i < 12) (hj : j < 12) {c : Int} (hc : tab T i j = some c) : pIx (.loc l) (pp i j) M = .ok (.int c) M := by
  have hd : dictOfM M l = some (asP T) := by unfold dictOfM; rw [h]
  have hs : seqM M l = none := by unfold seqM; rw [h]
  have e : pIxO (.loc l) (pp i j) M = some (.int c) := by
    unfold pIxO
    dsimp only
    rw [hs]
    dsimp only
    rw [hd, keyOf_pp]
    dsimp only
    rw [if_pos (kp_dep i j), look_asP ok.lt hi hj, show lookT T (i, j) = some c from hc]
    rfl
  unfold pIx
  rw [e]
theorem get_pp (h : M[l]? = some (.dct (asP T))) (ok : TOk T) (hi : i < 12) (hj : j < 12) (z : P) : getM l (pp i j) z M = .ok (match tab T i j with | some c => .int c | none => z) M := by
  unfold getM
  have hd : dictOfM M l = some (asP T) := by unfold dictOfM; rw [h]
  rw [hd, keyOf_pp]
  dsimp only
  rw [if_pos (kp_dep i j), look_asP ok.lt hi hj]
  show Res.ok (((tab T i j).map P.int).getD z) M = _
  cases tab T i j <;> rfl
end
end Hd
end
section
set_option linter.all false
set_option maxRecDepth 100000
set_option maxHeartbeats 1000000
namespace Hd
open PySem PySem.Spec PyProof.Rows L2 TV
/-! ### the law's table of bounds -/
structure BSt (M0 M : Mem) (lp lf : Nat) (ps : List Nat) (T : TT) : Prop where
  len : M0.length ≤ M.length
  kept : ∀ l, l < M0.length → M[l]? = M0[l]?
  p : M[lp]? = some (.lst (ps.map pt))
  f : M[lf]? = some (.dct (asP T))
  ok : TOk T
  f0 : M0.length ≤ lf
  ne : lp ≠ lf
theorem BSt.app {M0 M : Mem} {lp lf : Nat} {ps : List Nat} {T : TT} (s : BSt M0 M lp lf ps T) (G : Mem) : BSt M0 (M ++ G) lp lf ps T :=
  ⟨by rw [List.length_append]; have := s.len; omega, fun l hl => by rw [List.getElem?_append_left (Nat.lt_of_lt_of_le hl s.len)]; exact s.kept l hl, getl s.p, getl s.f, s.ok, s.f0, s.ne⟩
theorem BSt.put {M0 M : Mem} {lp lf : Nat} {ps : List Nat} {T : TT} (s : BSt M0 M lp lf ps T) {i j : Nat} (hi : i < 12) (hj : j < 12) (c : Int) : BSt M0 (M.set lf (.dct (asP (putT T (i, j) c)))) lp lf ps (putT T (i, j) c) :=
  ⟨by rw [List.length_set]; exact s.len, fun l hl => by rw [List.getElem?_set_ne (by have := s.f0; omega)]; exact s.kept l hl, by rw [List.getElem?_set_ne (fun z => s.ne z.symm)]; exact s.p, by rw [List.getElem?_set_self (List.getElem?_eq_some_iff.mp s.f).1], s.ok.put hi hj c, s.f0, s.ne⟩
abbrev ra (a : Option P) (lp lf : Nat) (x3 x4 x5 x6 x7 x8 : Option P) : Rho := [a, some (.loc lp), some (.loc lf), x3, x4, x5, x6, x7, x8]
theorem tup_pp (i j : Nat) (M : Mem) : gTuple [pt i, pt j] M = .ok (pp i j) M := rfl
section
variable {M0 : Mem} {lp lf : Nat} {ps : List Nat} {a : Option P}
abbrev zBody : FS := sStore (eC (.int 0)) (eVar 2) (eArgs gTuple (aCons (eVar 3) (aCons (eVar 3) aNil)))
theorem z_loop {guard : Mem → Bool} (hg : ∀ M, M[lp]? = some (.lst (ps.map pt)) → guard M = true) : ∀ (qs : List Nat) (M : Mem) (T : TT) (x3 x4 x5 x6 x7 x8 : Option P), (∀ j ∈ qs, j < 12) → BSt M0 M lp lf ps T → ∃ M' T' y3, BSt M0 M' lp lf ps T' ∧ tab T' = qs.foldl (fun d p => put2 d p p 0) (tab T) ∧
    loopF guard (TV.gName 3) zBody (qs.map pt) (ra a lp lf x3 x4 x5 x6 x7 x8) M = .next (ra a lp lf y3 x4 x5 x6 x7 x8) M'
  | [], M, T, x3, x4, x5, x6, x7, x8, _, s => ⟨M, T, x3, s, rfl, by rw [List.map_nil, loopF, if_pos (hg M s.p)]⟩
  | q :: qs, M, T, x3, x4, x5, x6, x7, x8, hq, s => by
    have q12 := hq q List.mem_cons_self
    obtain ⟨M', T', y3, s', e', l'⟩ := z_loop hg qs (M.set lf (.dct (asP (putT T (q, q) 0)))) (putT T (q, q) 0) (some (pt q)) x4 x5 x6 x7 x8 (fun j hj => hq j (List.mem_cons_of_mem _ hj)) (s.put q12 q12 0)
    rw [tab_put] at e'
    refine ⟨M', T', y3, s', e', ?_⟩
    rw [List.map_cons, loopF, if_pos (hg M s.p)]
    have hg1 : TV.gName 3 (pt q) (ra a lp lf x3 x4 x5 x6 x7 x8) = some (ra a lp lf (some (pt q)) x4 x5 x6 x7 x8) := rfl
    rw [hg1]
    dsimp only
    have st : zBody (ra a lp lf (some (pt q)) x4 x5 x6 x7 x8) M = .next (ra a lp lf (some (pt q)) x4 x5 x6 x7 x8) (M.set lf (.dct (asP (putT T (q, q) 0)))) := by
      unfold zBody
      exact z_store (v := .int 0) (o := .loc lf) (i := pp q q) rfl rfl (by rw [x_args, x_cons, x_v3, b_ok, x_cons, x_v3, b_ok, x_nil, b_ok, b_ok, b_ok, tup_pp]) (store_pp s.f s.ok q12 q12 0)
    rw [st, l_next]
    exact l'
abbrev eBody : FS := sStore (eArgs pMinL (aCons (eOp pAdd (eArgs gList (aCons (eVar 6) aNil)) (eIf (tVal (eOp (pIn false) (eArgs gTuple (aCons (eVar 4) (aCons (eVar 5) aNil))) (eVar 2))) (eArgs gList (aCons (eOp pIx (eVar 2) (eArgs gTuple (aCons (eVar 4) (aCons (eVar 5) aNil)))) aNil)) (eArgs gList aNil))) aNil)) (eVar 2) (eArgs gTuple (aCons (eVar 4) (aCons (eVar 5) aNil)))
theorem zs {fv fo fi : FE} {ρ : Rho} {M M1 M' : Mem} {v o i : P} (hv : fv ρ M = .ok v M1) (ho : fo ρ M1 = .ok o M1) (hi : fi ρ M1 = .ok i M1) (h : storeM o i v M1 = some M') : sStore fv fo fi ρ M = .next ρ M' := by
  unfold sStore
  rw [hv]
  simp only [s_ok]
  rw [ho]
  simp only [s_ok]
  rw [hi]
  simp only [s_ok, h]
theorem minL_lst {M : Mem} {l : Nat} {ns : List Int} (h : M[l]? = some (.lst (ns.map P.int))) (hn : ns ≠ []) : pMinL [.loc l] M = .ok (.int (minL ns)) M := by
  have e2 : allInt (ns.map P.int) = some ns := by
    clear h hn
    induction ns with
    | nil => rfl
    | cons a l ih => simp [allInt, ih]
  unfold pMinL
  dsimp only
  rw [seqM_of h]
  show (match allInt (ns.map P.int) with | some ns => if ns = [] then Res.bad else Res.ok (P.int (minL ns)) M | none => Res.bad) = _
  rw [e2]
  dsimp only
  rw [if_neg hn]
theorem e_turn {M : Mem} {T : TT} (s : BSt M0 M lp lf ps T) (r : Row) (h1 : r.1 < 12) (h2 : r.2.1 < 12) (x3 x7 x8 : Option P) : ∃ M' T', BSt M0 M' lp lf ps T' ∧ tab T' = edge (tab T) r ∧
    eBody (ra a lp lf x3 (some (pt r.1)) (some (pt r.2.1)) (some (.int r.2.2)) x7 x8) M = .next (ra a lp lf x3 (some (pt r.1)) (some (pt r.2.1)) (some (.int r.2.2)) x7 x8) M' := by
  have tp : ∀ M, eArgs gTuple (aCons (eVar 4) (aCons (eVar 5) aNil)) (ra a lp lf x3 (some (pt r.1)) (some (pt r.2.1)) (some (.int r.2.2)) x7 x8) M = .ok (pp r.1 r.2.1) M := fun M => by
    rw [x_args, x_cons, x_v4, b_ok, x_cons, x_v5, b_ok, x_nil, b_ok, b_ok, b_ok, tup_pp]
  have s1 := s.app [.lst [.int r.2.2]]
  have i1 := in_pp s1.f s1.ok h1 h2
  cases c : tab T r.1 r.2.1 with
  | none =>
    let M3 : Mem := M ++ [.lst [.int r.2.2]] ++ [.lst []] ++ [.lst [.int r.2.2]]
    have s3 : BSt M0 M3 lp lf ps T := (s1.app _).app _
    have val : eArgs pMinL (aCons (eOp pAdd (eArgs gList (aCons (eVar 6) aNil)) (eIf (tVal (eOp (pIn false) (eArgs gTuple (aCons (eVar 4) (aCons (eVar 5) aNil))) (eVar 2))) (eArgs gList (aCons (eOp pIx (eVar 2) (eArgs gTuple (aCons (eVar 4) (aCons (eVar 5) aNil)))) aNil)) (eArgs gList aNil))) aNil) (ra a lp lf x3 (some (pt r.1)) (some (pt r.2.1)) (some (.int r.2.2)) x7 x8) M = .ok (.int r.2.2) M3 := by
      have ad := add_loc (M := M ++ [MO.lst [.int r.2.2]] ++ [MO.lst []]) (a := M.length) (b := (M ++ [MO.lst [.int r.2.2]]).length) (xs := [.int r.2.2]) (ys := []) (by simp) (by simp) (by simp; decide)
      have mi : pMinL [.loc (M ++ [MO.lst [.int r.2.2]] ++ [MO.lst []]).length] M3 = .ok (.int r.2.2) M3 := minL_lst (ns := [r.2.2]) (by simp [M3]) (by simp)
      rw [c] at i1
      rw [x_args, x_cons, x_op, x_args, x_cons, x_v6, b_ok, x_nil, b_ok, b_ok, list1, b_ok, x_if, x_val, x_op, tp, b_ok, x_v2, b_ok, i1, b_ok, cVal_bl, b_ok, if_neg (by simp), lst0, b_ok, ad, b_ok, x_nil, b_ok, b_ok]
      exact mi
    refine ⟨_, _, s3.put h1 h2 r.2.2, ?_, zs val rfl (tp _) (store_pp s3.f s3.ok h1 h2 r.2.2)⟩
    rw [tab_put]
    unfold edge
    rw [c]
  | some d =>
    let M3 : Mem := M ++ [.lst [.int r.2.2]] ++ [.lst [.int d]] ++ [.lst [.int r.2.2, .int d]]
    have s3 : BSt M0 M3 lp lf ps T := (s1.app _).app _
    have ix := ix_pp s1.f s1.ok h1 h2 c
    have val : eArgs pMinL (aCons (eOp pAdd (eArgs gList (aCons (eVar 6) aNil)) (eIf (tVal (eOp (pIn false) (eArgs gTuple (aCons (eVar 4) (aCons (eVar 5) aNil))) (eVar 2))) (eArgs gList (aCons (eOp pIx (eVar 2) (eArgs gTuple (aCons (eVar 4) (aCons (eVar 5) aNil)))) aNil)) (eArgs gList aNil))) aNil) (ra a lp lf x3 (some (pt r.1)) (some (pt r.2.1)) (some (.int r.2.2)) x7 x8) M = .ok (.int (if r.2.2 ≤ d then r.2.2 else d)) M3 := by
      have ad := add_loc (M := M ++ [MO.lst [.int r.2.2]] ++ [MO.lst [.int d]]) (a := M.length) (b := (M ++ [MO.lst [.int r.2.2]]).length) (xs := [.int r.2.2]) (ys := [.int d]) (by simp) (by simp) (by simp; decide)
      have mi : pMinL [.loc (M ++ [MO.lst [.int r.2.2]] ++ [MO.lst [.int d]]).length] M3 = .ok (.int (minL [r.2.2, d])) M3 := minL_lst (ns := [r.2.2, d]) (by simp [M3]) (by simp)
      rw [c] at i1
      rw [x_args, x_cons, x_op, x_args, x_cons, x_v6, b_ok, x_nil, b_ok, b_ok, list1, b_ok, x_if, x_val, x_op, tp, b_ok, x_v2, b_ok, i1, b_ok, cVal_bl, b_ok, if_pos (by simp), x_args, x_cons, x_op, x_v2, b_ok, tp, b_ok, ix, b_ok, x_nil, b_ok, b_ok, list1, b_ok, ad, b_ok, x_nil, b_ok, b_ok]
      exact mi
    refine ⟨_, _, s3.put h1 h2 _, ?_, zs val rfl (tp _) (store_pp s3.f s3.ok h1 h2 _)⟩
    rw [tab_put]
    unfold edge
    rw [c]
theorem e_loop : ∀ (qs : List Row) (M : Mem) (T : TT) (x3 x4 x5 x6 x7 x8 : Option P), (∀ r ∈ qs, r.1 < 12 ∧ r.2.1 < 12) → BSt M0 M lp lf ps T → ∃ M' T' y4 y5 y6, BSt M0 M' lp lf ps T' ∧ tab T' = edges qs (tab T) ∧
    loopF (fun _ => true) (TV.gTup [(TV.gName 4), (TV.gName 5), (TV.gName 6)]) eBody (qs.map rowP) (ra a lp lf x3 x4 x5 x6 x7 x8) M = .next (ra a lp lf x3 y4 y5 y6 x7 x8) M'
  | [], M, T, x3, x4, x5, x6, x7, x8, _, s => ⟨M, T, x4, x5, x6, s, rfl, by simp [loopF]⟩
  | r :: qs, M, T, x3, x4, x5, x6, x7, x8, hq, s => by
    obtain ⟨M1, T1, s1, t1, e1⟩ := e_turn (a := a) s r (hq r List.mem_cons_self).1 (hq r List.mem_cons_self).2 x3 x7 x8
    obtain ⟨M', T', y4, y5, y6, s', e', l'⟩ := e_loop qs M1 T1 x3 (some (pt r.1)) (some (pt r.2.1)) (some (.int r.2.2)) x7 x8 (fun j hj => hq j (List.mem_cons_of_mem _ hj)) s1
    rw [t1] at e'
    refine ⟨M', T', y4, y5, y6, s', e', ?_⟩
    rw [List.map_cons, loopF, if_pos rfl]
    have hg1 : TV.gTup [(TV.gName 4), (TV.gName 5), (TV.gName 6)] (rowP r) (ra a lp lf x3 x4 x5 x6 x7 x8) = some (ra a lp lf x3 (some (pt r.1)) (some (pt r.2.1)) (some (.int r.2.2)) x7 x8) := rfl
    rw [hg1]
    dsimp only
    rw [e1, l_next]
    exact l'
abbrev rBody : FS := (sIf (TV.tAnd (tVal (eOp (pIn false) (eArgs gTuple (aCons (eVar 4) (aCons (eVar 7) aNil))) (eVar 2))) (tVal (eOp (pIn false) (eArgs gTuple (aCons (eVar 7) (aCons (eVar 5) aNil))) (eVar 2)))) (sSeq (sAsg (eOp pAdd (eOp pIx (eVar 2) (eArgs gTuple (aCons (eVar 4) (aCons (eVar 7) aNil)))) (eOp pIx (eVar 2) (eArgs gTuple (aCons (eVar 7) (aCons (eVar 5) aNil))))) (TV.gName 8))
    (sStore (eArgs pMin2 (aCons (eVar 8) (aCons (eGet2 (eVar 2) (eArgs gTuple (aCons (eVar 4) (aCons (eVar 5) aNil))) (eVar 8)) aNil))) (eVar 2) (eArgs gTuple (aCons (eVar 4) (aCons (eVar 5) aNil))))) sNext)
theorem min2 (i j : Int) (M : Mem) : pMin2 [.int i, .int j] M = .ok (.int (if j < i then j else i)) M := rfl
theorem r_turn {M : Mem} {T : TT} (s : BSt M0 M lp lf ps T) {k i j : Nat} (hk : k < 12) (hi : i < 12) (hj : j < 12) (x3 x6 x8 : Option P) : ∃ M' T' y8, BSt M0 M' lp lf ps T' ∧ tab T' = relax (tab T) k i j ∧
    rBody (ra a lp lf x3 (some (pt i)) (some (pt j)) x6 (some (pt k)) x8) M = .next (ra a lp lf x3 (some (pt i)) (some (pt j)) x6 (some (pt k)) y8) M' := by
  have t1 : ∀ M y8, eArgs gTuple (aCons (eVar 4) (aCons (eVar 7) aNil)) (ra a lp lf x3 (some (pt i)) (some (pt j)) x6 (some (pt k)) y8) M = .ok (pp i k) M := fun M y8 => by
    rw [x_args, x_cons, x_v4, b_ok, x_cons, x_v7, b_ok, x_nil, b_ok, b_ok, b_ok, tup_pp]
  have t2 : ∀ M y8, eArgs gTuple (aCons (eVar 7) (aCons (eVar 5) aNil)) (ra a lp lf x3 (some (pt i)) (some (pt j)) x6 (some (pt k)) y8) M = .ok (pp k j) M := fun M y8 => by
    rw [x_args, x_cons, x_v7, b_ok, x_cons, x_v5, b_ok, x_nil, b_ok, b_ok, b_ok, tup_pp]
  have t3 : ∀ M y8, eArgs gTuple (aCons (eVar 4) (aCons (eVar 5) aNil)) (ra a lp lf x3 (some (pt i)) (some (pt j)) x6 (some (pt k)) y8) M = .ok (pp i j) M := fun M y8 => by
    rw [x_args, x_cons, x_v4, b_ok, x_cons, x_v5, b_ok, x_nil, b_ok, b_ok, b_ok, tup_pp]
  have i1 := in_pp s.f s.ok hi hk
  have i2 := in_pp s.f s.ok hk hj
  unfold rBody
  rw [z_if, x_tand, x_val, x_op, t1, b_ok, x_v2, b_ok, i1, b_ok, cVal_bl, b_ok]
  cases c1 : tab T i k with
  | none =>
    refine ⟨M, T, x8, s, ?_, ?_⟩
    · unfold relax; rw [c1]
    · simp
  | some b1 =>
    rw [if_pos (by simp), x_val, x_op, t2, b_ok, x_v2, b_ok, i2, b_ok, cVal_bl, s_ok]
    cases c2 : tab T k j with
    | none =>
      refine ⟨M, T, x8, s, ?_, ?_⟩
      · unfold relax; rw [c1, c2]
      · simp
    | some b2 =>
      have ix1 := ix_pp s.f s.ok hi hk c1
      have ix2 := ix_pp s.f s.ok hk hj c2
      have gt := get_pp s.f s.ok hi hj (.int (b1 + b2))
      have hd : (dictOfM M lf).isSome = true := by unfold dictOfM; rw [s.f]; rfl
      let v : Int := match tab T i j with | some c => if c < b1 + b2 then c else b1 + b2 | none => b1 + b2
      have a1 : sAsg (eOp pAdd (eOp pIx (eVar 2) (eArgs gTuple (aCons (eVar 4) (aCons (eVar 7) aNil)))) (eOp pIx (eVar 2) (eArgs gTuple (aCons (eVar 7) (aCons (eVar 5) aNil))))) (TV.gName 8) (ra a lp lf x3 (some (pt i)) (some (pt j)) x6 (some (pt k)) x8) M = .next (ra a lp lf x3 (some (pt i)) (some (pt j)) x6 (some (pt k)) (some (.int (b1 + b2)))) M := by
        rw [z_asg, x_op, x_op, x_v2, b_ok, t1, b_ok, ix1, b_ok, x_op, x_v2, b_ok, t2, b_ok, ix2, b_ok, o_add, s_ok]
        rfl
      have val : eArgs pMin2 (aCons (eVar 8) (aCons (eGet2 (eVar 2) (eArgs gTuple (aCons (eVar 4) (aCons (eVar 5) aNil))) (eVar 8)) aNil)) (ra a lp lf x3 (some (pt i)) (some (pt j)) x6 (some (pt k)) (some (.int (b1 + b2)))) M = .ok (.int v) M := by
        have g : eGet2 (eVar 2) (eArgs gTuple (aCons (eVar 4) (aCons (eVar 5) aNil))) (eVar 8) (ra a lp lf x3 (some (pt i)) (some (pt j)) x6 (some (pt k)) (some (.int (b1 + b2)))) M = .ok (match tab T i j with | some c => .int c | none => .int (b1 + b2)) M := by
          unfold eGet2
          rw [x_v2, b_ok]
          dsimp only
          rw [if_pos hd, t3, b_ok, x_v8, b_ok, gt]
          all_goals (cases tab T i j <;> rfl)
        rw [x_args, x_cons, x_v8, b_ok, x_cons, g, b_ok, x_nil, b_ok, b_ok, b_ok]
        show pMin2 _ M = .ok (.int (match tab T i j with | some c => if c < b1 + b2 then c else b1 + b2 | none => b1 + b2)) M
        cases tab T i j with
        | none => rw [min2]; simp
        | some c => rw [min2]
      refine ⟨_, _, some (.int (b1 + b2)), s.put hi hj v, ?_, ?_⟩
      · rw [tab_put]
        unfold relax
        rw [c1, c2]
        all_goals rfl
      · rw [if_pos (by simp), z_seq, a1, t_next]
        exact zs val rfl (t3 _ _) (store_pp s.f s.ok hi hj v)
theorem r_loop {guard : Mem → Bool} (hg : ∀ M, M[lp]? = some (.lst (ps.map pt)) → guard M = true) {k i : Nat} (hk : k < 12) (hi : i < 12) : ∀ (js : List Nat) (M : Mem) (T : TT) (x3 x5 x6 x8 : Option P), (∀ j ∈ js, j < 12) → BSt M0 M lp lf ps T → ∃ M' T' y5 y8, BSt M0 M' lp lf ps T' ∧ tab T' = fwRow (tab T) k i js ∧
    loopF guard (TV.gName 5) rBody (js.map pt) (ra a lp lf x3 (some (pt i)) x5 x6 (some (pt k)) x8) M = .next (ra a lp lf x3 (some (pt i)) y5 x6 (some (pt k)) y8) M'
  | [], M, T, x3, x5, x6, x8, _, s => ⟨M, T, x5, x8, s, rfl, by rw [List.map_nil, loopF, if_pos (hg M s.p)]⟩
  | j :: js, M, T, x3, x5, x6, x8, hj, s => by
    obtain ⟨M1, T1, y8, s1, t1, e1⟩ := r_turn (a := a) s hk hi (hj j List.mem_cons_self) x3 x6 x8
    obtain ⟨M', T', z5, z8, s', e', l'⟩ := r_loop hg hk hi js M1 T1 x3 (some (pt j)) x6 y8 (fun q hq => hj q (List.mem_cons_of_mem _ hq)) s1
    rw [t1] at e'
    refine ⟨M', T', z5, z8, s', e', ?_⟩
    rw [List.map_cons, loopF, if_pos (hg M s.p)]
    have hg1 : TV.gName 5 (pt j) (ra a lp lf x3 (some (pt i)) x5 x6 (some (pt k)) x8) = some (ra a lp lf x3 (some (pt i)) (some (pt j)) x6 (some (pt k)) x8) := rfl
    rw [hg1]
    dsimp only
    rw [e1, l_next]
    exact l'
noncomputable abbrev mBody : FS := sFor (iOver (eVar 1)) (TV.gName 5) rBody
noncomputable abbrev kBody : FS := sFor (iOver (eVar 1)) (TV.gName 4) mBody
theorem over_ps {M : Mem} {T : TT} (s : BSt M0 M lp lf ps T) (x3 x4 x5 x6 x7 x8 : Option P) : iOver (eVar 1) (ra a lp lf x3 x4 x5 x6 x7 x8) M = .ok ⟨ps.map pt, fun M' => ask (M'[lp]? = some (.lst (ps.map pt)))⟩ M := by
  unfold iOver
  rw [x_v1]
  show (match overI (.loc lp) M with | some I => Res.ok I M | none => .bad) = _
  unfold overI
  dsimp only
  rw [s.p]
theorem m_loop {guard : Mem → Bool} (hg : ∀ M, M[lp]? = some (.lst (ps.map pt)) → guard M = true) (hp : ∀ j ∈ ps, j < 12) {k : Nat} (hk : k < 12) : ∀ (is : List Nat) (M : Mem) (T : TT) (x3 x4 x5 x6 x8 : Option P), (∀ j ∈ is, j < 12) → BSt M0 M lp lf ps T → ∃ M' T' y4 y5 y8, BSt M0 M' lp lf ps T' ∧ tab T' = fwMid (tab T) k is ps ∧
    loopF guard (TV.gName 4) mBody (is.map pt) (ra a lp lf x3 x4 x5 x6 (some (pt k)) x8) M = .next (ra a lp lf x3 y4 y5 x6 (some (pt k)) y8) M'
  | [], M, T, x3, x4, x5, x6, x8, _, s => ⟨M, T, x4, x5, x8, s, rfl, by rw [List.map_nil, loopF, if_pos (hg M s.p)]⟩
  | i :: is, M, T, x3, x4, x5, x6, x8, hi, s => by
    obtain ⟨M1, T1, y5, y8, s1, t1, e1⟩ := r_loop (a := a) (guard := fun M' => ask (M'[lp]? = some (.lst (ps.map pt)))) (fun M h => ask_true h) hk (hi i List.mem_cons_self) ps M T x3 x5 x6 x8 hp s
    obtain ⟨M', T', z4, z5, z8, s', e', l'⟩ := m_loop hg hp hk is M1 T1 x3 (some (pt i)) y5 x6 y8 (fun q hq => hi q (List.mem_cons_of_mem _ hq)) s1
    rw [t1] at e'
    refine ⟨M', T', z4, z5, z8, s', e', ?_⟩
    rw [List.map_cons, loopF, if_pos (hg M s.p)]
    have hg1 : TV.gName 4 (pt i) (ra a lp lf x3 x4 x5 x6 (some (pt k)) x8) = some (ra a lp lf x3 (some (pt i)) x5 x6 (some (pt k)) x8) := rfl
    rw [hg1]
    dsimp only
    unfold mBody
    rw [z_for, over_ps s, s_ok]
    dsimp only
    rw [e1, l_next]
    exact l'
theorem k_loop {guard : Mem → Bool} (hg : ∀ M, M[lp]? = some (.lst (ps.map pt)) → guard M = true) (hp : ∀ j ∈ ps, j < 12) : ∀ (ks : List Nat) (M : Mem) (T : TT) (x3 x4 x5 x6 x7 x8 : Option P), (∀ j ∈ ks, j < 12) → BSt M0 M lp lf ps T → ∃ M' T' y4 y5 y7 y8, BSt M0 M' lp lf ps T' ∧ tab T' = fwAll (tab T) ks ps ∧
    loopF guard (TV.gName 7) kBody (ks.map pt) (ra a lp lf x3 x4 x5 x6 x7 x8) M = .next (ra a lp lf x3 y4 y5 x6 y7 y8) M'
  | [], M, T, x3, x4, x5, x6, x7, x8, _, s => ⟨M, T, x4, x5, x7, x8, s, rfl, by rw [List.map_nil, loopF, if_pos (hg M s.p)]⟩
  | k :: ks, M, T, x3, x4, x5, x6, x7, x8, hk, s => by
    obtain ⟨M1, T1, y4, y5, y8, s1, t1, e1⟩ := m_loop (a := a) (guard := fun M' => ask (M'[lp]? = some (.lst (ps.map pt)))) (fun M h => ask_true h) hp (hk k List.mem_cons_self) ps M T x3 x4 x5 x6 x8 hp s
    obtain ⟨M', T', z4, z5, z7, z8, s', e', l'⟩ := k_loop hg hp ks M1 T1 x3 y4 y5 x6 (some (pt k)) y8 (fun q hq => hk q (List.mem_cons_of_mem _ hq)) s1
    rw [t1] at e'
    refine ⟨M', T', z4, z5, z7, z8, s', e', ?_⟩
    rw [List.map_cons, loopF, if_pos (hg M s.p)]
    have hg1 : TV.gName 7 (pt k) (ra a lp lf x3 x4 x5 x6 x7 x8) = some (ra a lp lf x3 x4 x5 x6 (some (pt k)) x8) := rfl
    rw [hg1]
    dsimp only
    unfold kBody
    rw [z_for, over_ps s, s_ok]
    dsimp only
    rw [e1, l_next]
    exact l'
end
theorem flat_asP (T : TT) : (MO.dct (asP T)).locs = [] := by
  show locsL ((asP T).map (·.1)) ++ locsL ((asP T).map (·.2)) = []
  unfold asP
  rw [List.map_map, List.map_map]
  have h1 : ∀ T : TT, locsL (T.map ((fun x : P × P => x.1) ∘ fun e => (pp e.1.1 e.1.2, P.int e.2))) = [] := by
    intro T
    induction T with
    | nil => rfl
    | cons e T ih =>
      rw [List.map_cons, locsL, ih]
      show locsL [pt e.1.1, pt e.1.2] ++ [] = []
      simp [locsL, locs_pt]
  have h2 : ∀ T : TT, locsL (T.map ((fun x : P × P => x.2) ∘ fun e => (pp e.1.1 e.1.2, P.int e.2))) = [] := by
    intro T
    induction T with
    | nil => rfl
    | cons e T ih => rw [List.map_cons, locsL, ih]; rfl
  rw [h1, h2]
  rfl
theorem law_bounds_spec {rs : List Row} (hr : ∀ r ∈ rs, okRow r) (M : Mem) : ∃ T, TOk T ∧ tab T = bounds rs (ptsOf rs [0]) ∧ F_law_bounds [.tup (rs.map rowP)] M = .ok (.loc M.length) (M ++ [.dct (asP T)]) := by
  have hp : ∀ j ∈ ptsOf rs [0], j < 12 := ptsOf_lt hr (by simp)
  have ee := ends_spec hr M
  generalize hps : ptsOf rs [0] = ps at *
  let M1 : Mem := M ++ [.lst (ps.map pt)]
  let M2 : Mem := M1 ++ [.dct []]
  have s0 : BSt M M2 M.length M1.length ps [] := by
    refine ⟨by simp [M2, M1], fun l hl => ?_, by simp [M2, M1], by simp [M2, asP], ⟨by simp, by simp⟩, by simp [M1], by simp [M1]⟩
    show (M ++ [MO.lst (ps.map pt)] ++ [MO.dct []])[l]? = _
    rw [List.append_assoc, List.getElem?_append_left hl]
  have hg : ∀ M' : Mem, M'[M.length]? = some (.lst (ps.map pt)) → (fun M' : Mem => ask (M'[M.length]? = some (.lst (ps.map pt)))) M' = true := fun M' h => ask_true h
  obtain ⟨M3, T3, y3, s3, t3, e3⟩ := z_loop (a := some (.tup (rs.map rowP))) (x4 := none) (x5 := none) (x6 := none) (x7 := none) (x8 := none) hg ps M2 [] none hp s0
  obtain ⟨M4, T4, y4, y5, y6, s4, t4, e4⟩ := e_loop (a := some (.tup (rs.map rowP))) rs M3 T3 y3 none none none none none (fun r h => ⟨(hr r h).1, (hr r h).2.1⟩) s3
  obtain ⟨M5, T5, z4, z5, z7, z8, s5, t5, e5⟩ := k_loop (a := some (.tup (rs.map rowP))) hg hp ps M4 T4 y3 y4 y5 y6 none none hp s4
  refine ⟨T5, s5.ok, ?_, ?_⟩
  · rw [t5, t4, t3]
    rfl
  · unfold F_law_bounds mkF m_law_bounds
    rw [if_pos (show [P.tup (rs.map rowP)].length = 1 from rfl)]
    have hst : startR 9 [P.tup (rs.map rowP)] = [some (.tup (rs.map rowP)), none, none, none, none, none, none, none, none] := rfl
    have d0 : ∀ ρ M, eDict0 ρ M = .ok (.loc M.length) (M ++ [.dct []]) := fun _ _ => rfl
    rw [hst, z_seq, z_par, x_args, x_cons, x_v0, b_ok, x_nil, b_ok, b_ok, ee, s_ok, d0, s_ok, t_next]
    have hset : List.set (List.set [some (P.tup (rs.map rowP)), none, none, none, none, none, none, none, none] 1 (some (.loc M.length))) 2 (some (.loc M1.length)) = ra (some (.tup (rs.map rowP))) M.length M1.length none none none none none none := rfl
    show gc M (fin (sSeq _ _ (List.set (List.set [some (P.tup (rs.map rowP)), none, none, none, none, none, none, none, none] 1 (some (.loc M.length))) 2 (some (.loc M1.length))) M2)) = _
    rw [hset, z_seq, z_for, over_ps s0, s_ok]
    dsimp only
    rw [e3, t_next, z_seq, z_for, over_tup (fa := eVar 0) rfl, s_ok]
    have e4 : loopF (fun _ => true) (TV.gTup [(TV.gName 4), (TV.gName 5), (TV.gName 6)]) eBody (rs.map rowP) (ra (some (.tup (rs.map rowP))) M.length M1.length y3 none none none none none) M3 = _ := e4
    rw [e4, t_next, z_seq, z_for, over_ps s4, s_ok]
    have e5 : loopF (fun M' : Mem => ask (M'[M.length]? = some (.lst (ps.map pt)))) (TV.gName 7) kBody (ps.map pt) (ra (some (.tup (rs.map rowP))) M.length M1.length y3 y4 y5 y6 none none) M4 = _ := e5
    dsimp only
    rw [e5, t_next, z_ret, x_v2, s_ok, f_ret]
    have kp : Kept M M5 := ⟨s5.len, fun l hl => .inl (s5.kept l hl)⟩
    rw [gc_loc (o := .dct (asP T5)) kp s5.f0 s5.f (fun k hk => by rw [flat_asP] at hk; cases hk)]
    congr 2
    apply List.ext_getElem?
    intro l
    by_cases hl : l < M.length
    · rw [List.getElem?_take_of_lt hl, s5.kept l hl]
    · rw [List.getElem?_eq_none (by rw [List.length_take]; omega), List.getElem?_eq_none (by omega)]
end Hd
end
section
set_option linter.all false
set_option maxRecDepth 100000
set_option maxHeartbeats 1000000
namespace Hd
open PySem PySem.Spec PyProof.Rows L2 TV
/-! ### order, texts -/
mutual
theorem eqv_same : ∀ (p : P), nice p = true → PyData.eqv (dat p) (dat p) = true
  | .non, _ => by simp [dat, PyData.eqv]
  | .bl b, _ => by simp [dat, PyData.eqv]
  | .int i, _ => by simp [dat, PyData.eqv]
  | .str x, _ => by simp [dat, PyData.eqv]
  | .tup ps, h => by simp only [dat, PyData.eqv]; exact eqvL_same ps h
  | .ty _, h => by cases h
  | .loc _, h => by cases h
theorem eqvL_same : ∀ (ps : List P), niceL ps = true → PyData.eqvAll (datL ps) (datL ps) = true
  | [], _ => by simp [datL, PyData.eqvAll]
  | p :: ps, h => by
    simp only [niceL, Bool.and_eq_true] at h
    simp only [datL, PyData.eqvAll, eqv_same p h.1, eqvL_same ps h.2, Bool.and_self]
end
theorem eq_lsts {M : Mem} {l l' : Nat} {xs : List P} (h1 : M[l]? = some (.lst xs)) (h2 : M[l']? = some (.lst xs)) (n1 : niceL xs = true) (d1 : depL xs ≤ 7) : pEq (.loc l) (.loc l') M = .ok (.bl true) M := by
  have e := eqv_go (neg := false) (toD_lst h1 n1 d1) (toD_lst h2 n1 d1) (shaped_list n1 (by omega)) (shaped_list n1 (by omega))
  refine e.trans ?_
  rw [PyData.eqv, eqvL_same xs n1]
  simp
theorem ne_lsts {M : Mem} {l l' : Nat} {xs : List P} (h1 : M[l]? = some (.lst xs)) (h2 : M[l']? = some (.lst xs)) (n1 : niceL xs = true) (d1 : depL xs ≤ 7) : pNe (.loc l) (.loc l') M = .ok (.bl false) M := by
  have e := eqv_go (neg := true) (toD_lst h1 n1 d1) (toD_lst h2 n1 d1) (shaped_list n1 (by omega)) (shaped_list n1 (by omega))
  refine e.trans ?_
  rw [PyData.eqv, eqvL_same xs n1]
  simp
theorem canon_S (ps : List Nat) : (canon ps).filter isS = canonS.filter (fun j => decide (j ∈ ps)) := by
  unfold canon
  rw [List.filter_append]
  have h1 : (canonS.filter fun j => decide (j ∈ ps)).filter isS = canonS.filter fun j => decide (j ∈ ps) := by
    rw [List.filter_eq_self]
    intro j hj
    have hj := (List.mem_filter.mp hj).1
    exact (canonS_mem ⟨j, (show ∀ j ∈ canonS, j < 12 by decide) j hj⟩).mpr hj
  have h2 : (canonT.filter fun j => decide (j ∈ ps)).filter isS = [] := by
    rw [List.filter_eq_nil_iff]
    intro j hj
    have hj := (List.mem_filter.mp hj).1
    have := (canonT_mem ⟨j, (show ∀ j ∈ canonT, j < 12 by decide) j hj⟩).mpr hj
    have this : isS j = false := this
    simp [this]
  rw [h1, h2, List.append_nil]
theorem canon_T (ps : List Nat) : ((canon ps).filter fun j => !isS j) = canonT.filter (fun j => decide (j ∈ ps)) := by
  unfold canon
  rw [List.filter_append]
  have h1 : ((canonS.filter fun j => decide (j ∈ ps)).filter fun j => !isS j) = [] := by
    rw [List.filter_eq_nil_iff]
    intro j hj
    have hj := (List.mem_filter.mp hj).1
    have : isS j = true := (canonS_mem ⟨j, (show ∀ j ∈ canonS, j < 12 by decide) j hj⟩).mpr hj
    simp [this]
  have h2 : ((canonT.filter fun j => decide (j ∈ ps)).filter fun j => !isS j) = canonT.filter fun j => decide (j ∈ ps) := by
    rw [List.filter_eq_self]
    intro j hj
    have hj := (List.mem_filter.mp hj).1
    have : isS j = false := (canonT_mem ⟨j, (show ∀ j ∈ canonT, j < 12 by decide) j hj⟩).mpr hj
    simp [this]
  rw [h1, h2, List.nil_append]
theorem canon_head {ps : List Nat} (h : 0 ∈ ps) : ∃ r, canon ps = 0 :: r := by
  unfold canon canonS
  rw [List.filter_cons]
  simp [h]
theorem cut1 (p : P) (r : List P) : cutP (p :: r) none (some 1) = [p] := by
  unfold cutP
  show ((p :: r).drop 0).take (HT.sIx (p :: r).length (p :: r).length (some 1) - 0) = [p]
  have : HT.sIx (p :: r).length (p :: r).length (some 1) = 1 := by
    rw [show (1 : Int) = ((1 : Nat) : Int) from rfl, HT.sIx_nat, List.length_cons]
    omega
  rw [this]
  rfl
/-- [key for key in keys if ..] -/
theorem pick_lc {M : Mem} {ρ : Rho} {l k : Nat} {ks : List Nat} {ft : FT} {c : Nat → Bool} {g : P → Bool} (hgc : ∀ j, g (pt j) = c j) (hv : eVar 0 ρ M = .ok (.loc l) M) (hl : M[l]? = some (.lst (ks.map pt))) (k1 : ks.length ≤ 1000) (hk : ∀ q M, eVar k ((wipeR ρ [k]).set k (some q)) M = .ok q M)
    (hf : ∀ j M, ft ((wipeR ρ [k]).set k (some (pt j))) M = .ok (c j) M) : eLc (iOver (eVar 0)) (TV.gName k) ft (eVar k) [k] ρ M = .ok (.loc M.length) (M ++ [.lst ((ks.filter c).map pt)]) := by
  obtain ⟨I, hi, hit, hg⟩ := over_lst (fa := eVar 0) hv hl
  have hlt : l < M.length := (List.getElem?_eq_some_iff.mp hl).1
  rw [x_lc (c := g) (f := id) hi (fun acc => hg _ (getl hl)) (by rw [hit, List.length_map]; exact line_1000 k1) ?_, hit, filter_pts ks c g hgc]
  intro p hp
  rw [hit] at hp
  obtain ⟨j, hj, rfl⟩ := List.mem_map.mp hp
  exact ⟨_, rfl, fun acc => ⟨by rw [hf, hgc], fun _ => hk _ _⟩⟩
theorem law_is_order_spec {ps : List Nat} (h0 : 0 ∈ ps) (hp : ∀ j ∈ ps, j < 12) (nd : ps.Nodup) {M : Mem} {l : Nat} (hl : M[l]? = some (.lst ((canon ps).map pt))) : F_law_is_order [.loc l] M = .ok (.bl true) M := by
  have cp := canon_perm hp nd
  have c12 : (canon ps).length ≤ 12 := by rw [cp.length_eq]; exact small_len hp nd
  have cl : ∀ j ∈ canon ps, j < 12 := fun j hj => hp j (cp.mem_iff.mp hj)
  have cn : (canon ps).Nodup := cp.nodup_iff.mpr nd
  unfold F_law_is_order mkF m_law_is_order
  rw [if_pos (show [P.loc l].length = 1 from rfl)]
  have hst : startR 3 [P.loc l] = [some (.loc l), none, none] := rfl
  let M1 : Mem := M ++ [.lst (((canon ps).filter isS).map pt)]
  have w1 := pick_lc (M := M) (ρ := [some (.loc l), none, none]) (k := 2) (ft := TV.tNot (tVal (eArgs pIsi (aCons (eVar 2) (aCons (eC (.ty "tuple")) aNil))))) (c := isS) (g := gS) gS_pt rfl hl (by omega) (fun _ _ => rfl) (fun j M => by
    show TV.tNot _ [some (.loc l), none, some (pt j)] M = _
    rw [x_tnot, x_val, x_args, x_cons, x_v2, b_ok, x_cons, x_C, b_ok, x_nil, b_ok, b_ok, b_ok, isi_pt_tup, b_ok, cVal_bl, b_ok, Bool.not_not])
  have a1 : sAsg (eLc (iOver (eVar 0)) (TV.gName 2) (TV.tNot (tVal (eArgs pIsi (aCons (eVar 2) (aCons (eC (.ty "tuple")) aNil))))) (eVar 2) [2]) (TV.gName 1) [some (.loc l), none, none] M = .next [some (.loc l), some (.loc M.length), none] M1 := by
    rw [z_asg, w1, s_ok]
    rfl
  have hl1 : M1[l]? = some (.lst ((canon ps).map pt)) := getl hl
  obtain ⟨r, er⟩ := canon_head h0
  have sl : eSl (eVar 0) oNone (oSome (eC (.int 1))) [some (.loc l), some (.loc M.length), none] M1 = .ok (.loc M1.length) (M1 ++ [.lst [pt 0]]) := by
    unfold eSl
    rw [x_v0, b_ok]
    show (Res.bind (Res.ok (some (1 : Int)) M1) fun hi M3 => pSl (.loc l) none hi M3) = _
    rw [b_ok]
    unfold pSl
    dsimp only
    rw [seqM_of hl1]
    dsimp only
    rw [er, List.map_cons, cut1]
  let M2 : Mem := M1 ++ [.lst [pt 0]]
  let M3 : Mem := M2 ++ [.lst [pt 0]]
  have gl : eArgs gList (aCons (eC (.str "")) aNil) [some (.loc l), some (.loc M.length), none] M2 = .ok (.loc M2.length) M3 := rfl
  have q1 := eq_lsts (M := M3) (l := M1.length) (l' := M2.length) (xs := [pt 0]) (by simp [M3, M2]) (by simp [M3]) (by decide +kernel) (by decide +kernel)
  -- sorted words
  have gW : M3[M.length]? = some (.lst (((canon ps).filter isS).map pt)) := by simp [M3, M2, M1]
  have s1 := sort_s (M := M3) (l := M.length) (ks := (canon ps).filter isS) (seqM_of gW) (fun j hj => (List.mem_filter.mp hj).2)
  rw [sort_canon (cs := canonS) canonS_sorted (by decide) (by decide) (fun j hj => ⟨cl j (List.mem_filter.mp hj).1, (canonS_mem ⟨j, cl j (List.mem_filter.mp hj).1⟩).mp (List.mem_filter.mp hj).2⟩) (cn.filter _) M3] at s1
  have f1 : (canonS.filter fun j => decide (j ∈ (canon ps).filter isS)) = canonS.filter fun j => decide (j ∈ ps) := by
    rw [canon_S]
    apply List.filter_congr
    intro j hj
    simp [List.mem_filter, hj]
  rw [f1] at s1
  let M4 : Mem := M3 ++ [.lst ((canonS.filter fun j => decide (j ∈ ps)).map pt)]
  have hl4 : M4[l]? = some (.lst ((canon ps).map pt)) := getl (getl (getl hl1))
  have w2 := pick_lc (M := M4) (ρ := [some (.loc l), some (.loc M.length), none]) (k := 2) (ft := tVal (eArgs pIsi (aCons (eVar 2) (aCons (eC (.ty "tuple")) aNil)))) (c := fun j => !isS j) (g := fun p => !gS p) (fun j => by rw [gS_pt]) rfl hl4 (by omega) (fun _ _ => rfl) (fun j M => by
    show tVal _ [some (.loc l), some (.loc _), some (pt j)] M = _
    rw [x_val, x_args, x_cons, x_v2, b_ok, x_cons, x_C, b_ok, x_nil, b_ok, b_ok, b_ok, isi_pt_tup, b_ok, cVal_bl])
  let M5 : Mem := M4 ++ [.lst (((canon ps).filter fun j => !isS j).map pt)]
  have s2 := sort_t (M := M5) (l := M4.length) (ks := (canon ps).filter fun j => !isS j) (seqM_of (by simp [M5])) (fun j hj => by simpa using (List.mem_filter.mp hj).2)
  rw [sort_canon (cs := canonT) canonT_sorted (by decide) (by decide) (fun j hj => ⟨cl j (List.mem_filter.mp hj).1, (canonT_mem ⟨j, cl j (List.mem_filter.mp hj).1⟩).mp (by simpa using (List.mem_filter.mp hj).2)⟩) (cn.filter _) M5] at s2
  have f2 : (canonT.filter fun j => decide (j ∈ (canon ps).filter fun j => !isS j)) = canonT.filter fun j => decide (j ∈ ps) := by
    rw [canon_T]
    apply List.filter_congr
    intro j hj
    simp [List.mem_filter, hj]
  rw [f2] at s2
  let M6 : Mem := M5 ++ [.lst ((canonT.filter fun j => decide (j ∈ ps)).map pt)]
  have ad := add_loc (M := M6) (a := M3.length) (b := M5.length) (xs := (canonS.filter fun j => decide (j ∈ ps)).map pt) (ys := (canonT.filter fun j => decide (j ∈ ps)).map pt) (by simp [M6, M5, M4]) (by simp [M6]) (by
    rw [List.length_map, List.length_map]
    have h1 := List.length_filter_le (fun j => decide (j ∈ ps)) canonS
    have h2 := List.length_filter_le (fun j => decide (j ∈ ps)) canonT
    have e1 : canonS.length = 8 := rfl
    have e2 : canonT.length = 4 := rfl
    have : 12 < sizeLine := by decide
    omega)
  rw [← List.map_append, show canonS.filter (fun j => decide (j ∈ ps)) ++ canonT.filter (fun j => decide (j ∈ ps)) = canon ps from rfl] at ad
  let M7 : Mem := M6 ++ [.lst ((canon ps).map pt)]
  have q2 := eq_lsts (M := M7) (l := l) (l' := M6.length) (xs := (canon ps).map pt) (getl (getl (getl hl4))) (by simp [M7]) (nice_pts _) (Nat.le_trans (dep_pts _) (by decide))
  rw [hst, z_seq, a1, t_next, z_ret, x_and, x_op, sl, b_ok]
  show gc M (fin (bindS (Res.bind (Res.bind (eArgs gList (aCons (eC (.str "")) aNil) [some (.loc l), some (.loc M.length), none] M2) _) _) _ _)) = _
  rw [gl, b_ok, q1, b_ok, cAnd_bl, if_pos rfl, x_op, x_v0, b_ok, x_op, x_args, x_cons, x_v1, b_ok, x_nil, b_ok, b_ok]
  rw [s1, b_ok, x_args, x_cons]
  have w2' : eLc (iOver (eVar 0)) (TV.gName 2) (tVal (eArgs pIsi (aCons (eVar 2) (aCons (eC (.ty "tuple")) aNil)))) (eVar 2) [2] [some (.loc l), some (.loc M.length), none] (M3 ++ [.lst ((canonS.filter fun j => decide (j ∈ ps)).map pt)]) = .ok (.loc M4.length) M5 := w2
  rw [w2', b_ok, x_nil, b_ok, b_ok]
  have s2' : pSorted [.loc M4.length] M5 = .ok (.loc M5.length) M6 := s2
  rw [s2', b_ok, ad, b_ok]
  have q2' : pEq (.loc l) (.loc M6.length) (M6 ++ [.lst ((canon ps).map pt)]) = .ok (.bl true) M7 := q2
  rw [q2', s_ok, f_ret]
  have : M7 = M ++ [.lst (((canon ps).filter isS).map pt), .lst [pt 0], .lst [pt 0], .lst ((canonS.filter fun j => decide (j ∈ ps)).map pt), .lst (((canon ps).filter fun j => !isS j).map pt), .lst ((canonT.filter fun j => decide (j ∈ ps)).map pt), .lst ((canon ps).map pt)] := by simp [M7, M6, M5, M4, M3, M2, M1]
  rw [this]
  exact g_blA _ _
end Hd
end
section
set_option linter.all false
set_option maxRecDepth 100000
set_option maxHeartbeats 1000000
namespace Hd
open PySem PySem.Spec PyProof.Rows L2 TV
/-! ### texts of points -/
def tx (p : P) : Str := match p with
  | .str z => z
  | p => ((toR [] p).map PyData.shown).getD ""
def sxL : List Str := ["", "i", "j", "n", "*2", "('a', 'i', 0)", "('a', '', 2)", "*10", "('a', 'i', -1)", "*1", "('b', '', 0)", "far"]
def sx (j : Nat) : Str := sxL.getD j ""
theorem sx_all : ptL.map tx = sxL := by decide +kernel
theorem sx_eq (j : Nat) : sx j = tx (pt j) := by
  unfold sx pt
  rw [← sx_all, List.getD_eq_getElem?_getD, List.getD_eq_getElem?_getD, List.getElem?_map]
  cases ptL[j]? <;> rfl
theorem str_pt (j : Nat) (M : Mem) : pStr [pt j] M = .ok (.str (sx j)) M := by
  rw [sx_eq]
  refine ptL_all (Q := fun p => pStr [p] M = .ok (.str (tx p)) M) rfl rfl rfl rfl rfl ?_ ?_ rfl ?_ rfl ?_ rfl j
  all_goals
    show (if _ ∧ _ ∧ _ then _ else _) = _
    rw [if_pos (by decide +kernel)]
    rfl
theorem nice_sx (j : Nat) : nice (.str (sx j)) = true := by
  rw [sx_eq]
  exact pt_all (Q := fun p => nice (.str (tx p)) = true) (by decide +kernel) j
def st (j : Nat) : P := .str (sx j)
def leS (i j : Nat) : Bool := PySem.W.dataLe false (fun k => dat (st k)) i j
theorem encM_st (j : Nat) (M : Mem) : encM M (st j) = dat (st j) := rfl
theorem le_st (M : Mem) (i j : Nat) : PySem.W.dataLe false (encM M) (st i) (st j) = leS i j := rfl
end Hd
end
section
set_option linter.all false
set_option maxRecDepth 100000
set_option maxHeartbeats 1000000
namespace Hd
open PySem PySem.Spec PyProof.Rows L2 TV
theorem nice_sts {xs : List P} {ks : List Nat} (h : xs.Perm (ks.map st)) : niceL xs = true ∧ depL xs ≤ 7 := by
  refine ⟨niceL_iff.mpr fun p hp => ?_, depL_le.mpr fun p hp => ?_⟩
  · obtain ⟨j, _, rfl⟩ := List.mem_map.mp (h.mem_iff.mp hp)
    exact nice_sx j
  · obtain ⟨j, _, rfl⟩ := List.mem_map.mp (h.mem_iff.mp hp)
    exact Nat.zero_le _
/-- [str(key) for key in ..] -/
theorem str_lc {M : Mem} {ρ : Rho} {fi : FI} {I : Iter} {k : Nat} {ks : List Nat} (hi : fi ρ M = .ok I M) (hit : I.items = ks.map pt) (hg : ∀ acc, I.guard (M ++ [.lst acc]) = true) (k1 : ks.length ≤ 1000) (hk : ∀ q M, eVar k ((wipeR ρ [k]).set k (some q)) M = .ok q M) (kl : ∀ j ∈ ks, j < 12) : eLc fi (TV.gName k) tYesF (eArgs pStr (aCons (eVar k) aNil)) [k] ρ M = .ok (.loc M.length) (M ++ [.lst (ks.map st)]) := by
  rw [x_lc (c := fun _ => true) (f := fun p => st (ptIx p)) hi hg (by rw [hit, List.length_map]; exact line_1000 k1) ?_, hit, List.filter_eq_self.mpr (fun _ _ => rfl), List.map_map]
  · congr 4
    apply List.map_congr_left
    intro j hj
    show st (ptIx (pt j)) = st j
    rw [ptIx_pt (kl j hj)]
  · intro p hp
    rw [hit] at hp
    obtain ⟨j, hj, rfl⟩ := List.mem_map.mp hp
    refine ⟨_, rfl, fun acc => ⟨rfl, fun _ => ?_⟩⟩
    rw [x_args, x_cons, hk, b_ok, x_nil, b_ok, b_ok, str_pt, ptIx_pt (kl j hj)]
    rfl
end Hd
end
section
set_option linter.all false
set_option maxRecDepth 100000
set_option maxHeartbeats 1000000
namespace Hd
open PySem PySem.Spec PyProof.Rows L2 TV
theorem sort_st {M : Mem} {l : Nat} {ks : List Nat} (hl : seqM M l = some (ks.map st)) : pSorted [.loc l] M = .ok (.loc M.length) (M ++ [.lst (sortP M (ks.map st))]) := by
  unfold pSorted
  dsimp only
  rw [hl]
  dsimp only
  rw [if_pos]
  refine ask_true ⟨?_, ?_, ?_⟩
  · intro p hp
    obtain ⟨j, hj, rfl⟩ := List.mem_map.mp hp
    exact ⟨rfl, by show (PyData.str (sx j)).depth ≤ 60; simp [PyData.depth]⟩
  · intro d hd d' hd'
    rw [List.map_map] at hd hd'
    obtain ⟨j, hj, rfl⟩ := List.mem_map.mp hd
    obtain ⟨j', hj', rfl⟩ := List.mem_map.mp hd'
    show PySem.W.alike (PyData.str (sx j)) (PyData.str (sx j')) = true
    generalize sx j = z
    generalize sx j' = z'
    rfl
  · right
    intro d hd
    rw [List.map_map] at hd
    obtain ⟨j, hj, rfl⟩ := List.mem_map.mp hd
    refine ⟨(fun q => ?_), (fun xs q => ?_)⟩
    · exact absurd (show PyData.str (sx j) = PyData.none from q) (by simp)
    · exact absurd (show PyData.str (sx j) = PyData.tuple xs from q) (by simp)
end Hd
end
section
set_option linter.all false
set_option maxRecDepth 100000
set_option maxHeartbeats 1000000
namespace Hd
open PySem PySem.Spec PyProof.Rows L2 TV
theorem anti_st : ∀ i j : Fin 12, leS i j = true → leS j i = true → i = j := by decide +kernel
end Hd
end
section
set_option linter.all false
set_option maxRecDepth 100000
set_option maxHeartbeats 1000000
namespace Hd
open PySem PySem.Spec PyProof.Rows L2 TV
theorem sort_same {ks ks' : List Nat} (h : ks.Perm ks') (hk : ∀ j ∈ ks, j < 12) (M M' : Mem) : sortP M (ks.map st) = sortP M' (ks'.map st) := by
  have T := PySem.W.sortLe_total (listOrd itemOrd) false (fun b => PySem.W.keyToks (TV.encM M b))
  have p1 : (sortP M (ks.map st)).Perm (ks.map st) := List.mergeSort_perm _ _
  have p2 : (sortP M' (ks'.map st)).Perm (ks'.map st) := List.mergeSort_perm _ _
  have w1 : (sortP M (ks.map st)).Pairwise (fun a b => PySem.W.dataLe false (encM M) a b = true) := List.pairwise_mergeSort (fun a b c h1 h2 => T.trans a b c h1 h2) (fun a b => by rw [Bool.or_eq_true]; exact T.total a b) _
  have T' := PySem.W.sortLe_total (listOrd itemOrd) false (fun b => PySem.W.keyToks (TV.encM M' b))
  have w2 : (sortP M' (ks'.map st)).Pairwise (fun a b => PySem.W.dataLe false (encM M') a b = true) := List.pairwise_mergeSort (fun a b c h1 h2 => T'.trans a b c h1 h2) (fun a b => by rw [Bool.or_eq_true]; exact T'.total a b) _
  refine List.Perm.eq_of_pairwise (le := fun a b => PySem.W.dataLe false (encM M) a b = true) ?_ w1 ?_ (p1.trans ((h.map st).trans p2.symm))
  · intro a b ha hb h1 h2
    obtain ⟨i, hi, rfl⟩ := List.mem_map.mp (p1.mem_iff.mp ha)
    obtain ⟨j, hj, rfl⟩ := List.mem_map.mp (p2.mem_iff.mp hb)
    rw [le_st] at h1 h2
    have := anti_st ⟨i, hk i hi⟩ ⟨j, hk j (h.mem_iff.mpr hj)⟩ h1 h2
    rw [Fin.mk.injEq] at this
    rw [this]
  · refine w2.imp_of_mem fun {a b} ha hb hab => ?_
    obtain ⟨i, hi, rfl⟩ := List.mem_map.mp (p2.mem_iff.mp ha)
    obtain ⟨j, hj, rfl⟩ := List.mem_map.mp (p2.mem_iff.mp hb)
    rw [le_st] at hab
    rw [le_st]
    exact hab
end Hd
end
section
set_option linter.all false
set_option maxRecDepth 100000
set_option maxHeartbeats 1000000
namespace Hd
open PySem PySem.Spec PyProof.Rows L2 TV
/-! ### how great the numbers get -/
abbrev BB : Nat := 7 * 10 ^ 57
def Bd (B : Nat) (N : Nat → Int) : Prop := ∀ u, (N u).natAbs ≤ B
theorem step_bd {B c : Nat} {s : Bf} {i : Nat} {r : Row} (h : Bd B s.N) (hr : (r.2.2).natAbs ≤ c) : Bd (B + c) (bfStep s i r).N := by
  unfold bfStep
  split
  · intro u
    show (up s.N r.1 (s.N r.2.1 + r.2.2) u).natAbs ≤ _
    unfold up
    split
    · have h1 := h r.2.1
      omega
    · have := h u; omega
  · intro u; have := h u; omega
theorem from_bd {c : Nat} : ∀ (qs : List Row) (i : Nat) (s : Bf) (B : Nat), (∀ r ∈ qs, (r.2.2).natAbs ≤ c) → Bd B s.N → Bd (B + c * qs.length) (bfFrom i qs s).N
  | [], _, _, _, _, h => h
  | r :: qs, i, s, B, hr, h => by
    have := from_bd qs (i + 1) (bfStep s i r) (B + c) (fun q hq => hr q (List.mem_cons_of_mem _ hq)) (step_bd h (hr r List.mem_cons_self))
    intro u
    have := this u
    rw [List.length_cons, Nat.mul_succ]
    show ((bfFrom (i + 1) qs (bfStep s i r)).N u).natAbs ≤ _
    omega
theorem settle_bd {rs : List Row} {c : Nat} (hr : ∀ r ∈ rs, (r.2.2).natAbs ≤ c) : ∀ (R : Nat) (s : Bf) (B : Nat), Bd B s.N → Bd (B + c * rs.length * R) (settle rs R s).2.N
  | 0, s, B, h => h
  | R + 1, s, B, h => by
    have h1 : Bd (B + c * rs.length) (bfRound rs s).N := from_bd rs 0 ⟨false, s.N, s.ss, s.S⟩ B hr h
    have e : c * rs.length * (R + 1) = c * rs.length * R + c * rs.length := Nat.mul_succ _ _
    unfold settle
    split
    · have := settle_bd hr R (bfRound rs s) (B + c * rs.length) h1
      intro u
      have := this u
      omega
    · intro u
      have h1 := h1 u
      show ((bfRound rs s).N u).natAbs ≤ _
      omega
theorem fit_bd {rs : List Row} {c : Nat} (hc : c ≤ 10 ^ 60) (hr : ∀ r ∈ rs, (r.2.2).natAbs ≤ c) (h6 : rs.length ≤ 60) {ks : List Nat} (P0 : Pts rs ks) (j : Nat) : (fitN rs j).natAbs < 10 ^ 70 := by
  have h0 : Bd 0 s0.N := fun u => by show (zeroN u).natAbs ≤ 0; simp [zeroN]
  have h := settle_bd hr (rounds rs + 1) s0 0 h0
  have k5 := small_len P0.lt P0.nd
  have hR : rounds rs + 1 ≤ 25 := by
    have := P0.len
    have e : rounds rs = 2 * (ptsOf rs [0]).length := rfl
    omega
  have hm : c * rs.length * (rounds rs + 1) ≤ 10 ^ 60 * 60 * 25 := Nat.mul_le_mul (Nat.mul_le_mul hc h6) hR
  have h1 : ((endS rs).2.N j).natAbs ≤ 0 + c * rs.length * (rounds rs + 1) := h j
  have h2 : ((endS rs).2.N 0).natAbs ≤ 0 + c * rs.length * (rounds rs + 1) := h 0
  have e : (10 ^ 60 * 60 * 25 : Nat) + 10 ^ 60 * 60 * 25 < 10 ^ 70 := by decide
  unfold fitN
  omega
theorem fit_dct {rs : List Row} {c : Nat} (hc : c ≤ 10 ^ 60) (hr : ∀ r ∈ rs, (r.2.2).natAbs ≤ c) (h6 : rs.length ≤ 60) {ks : List Nat} (P0 : Pts rs ks) : Dct (dm ks (di (fitN rs))) where
  keys := fun kv hkv => by
    obtain ⟨j, hj, rfl⟩ := List.mem_map.mp hkv
    exact .inl ⟨j, P0.lt j hj, rfl⟩
  kn := fun kv hkv => by
    obtain ⟨j, hj, rfl⟩ := List.mem_map.mp hkv
    exact ⟨nice_pt j, Nat.le_trans (dep_pt1 j) (by decide), Nat.le_trans (wgt_pt j) (by decide)⟩
  vn := fun kv hkv => by
    obtain ⟨j, hj, rfl⟩ := List.mem_map.mp hkv
    exact ⟨decide_eq_true (fit_bd hc hr h6 P0 j), Nat.zero_le _, by show 240 ≤ 1000; decide⟩
  nd := by
    unfold dm
    rw [List.map_map]
    show (ks.map fun j => keyOf (pt j)).Nodup
    refine List.Pairwise.map (R := fun i j => i ≠ j ∧ i < 12 ∧ j < 12) _ (fun i j h e => ?_) ?_
    · have h1 : ptIx (pt i) = ptIx (pt j) := by unfold ptIx; rw [e]
      rw [ptIx_pt h.2.1, ptIx_pt h.2.2] at h1
      exact h.1 h1
    · exact P0.nd.imp_of_mem fun {a b} ha hb hab => ⟨hab, P0.lt a ha, P0.lt b hb⟩
  len := by
    unfold dm
    rw [List.length_map]
    have := small_len P0.lt P0.nd
    omega
theorem val_fit {rs : List Row} {ks : List Nat} (P0 : Pts rs ks) {j : Nat} (hj : j ∈ ks) : val (dm ks (di (fitN rs))) j = .int (fitN rs j) := by
  unfold val
  rw [look_dm P0.lt (P0.lt j hj), if_pos hj]
  rfl
theorem num_fit {rs : List Row} {ks : List Nat} (P0 : Pts rs ks) {j : Nat} (hj : j ∈ ks) : num (dm ks (di (fitN rs))) j = fitN rs j := by
  unfold num
  rw [val_fit P0 hj]
theorem fit_true {rs : List Row} {ks : List Nat} (P0 : Pts rs ks) (hf : (endS rs).1 = false) : fitsB rs (ptsOf rs [0]) (dm ks (di (fitN rs))) = true := by
  rw [fitsB_perm P0.perm.symm]
  unfold fitsB
  simp only [Bool.and_eq_true, decide_eq_true_eq, List.all_eq_true]
  refine ⟨by unfold dm; rw [List.length_map], fun j hj => by rw [has_dm P0.lt (P0.lt j hj)]; exact decide_eq_true hj, fun j hj => by rw [val_fit P0 hj]; rfl, by rw [num_fit P0 P0.zero]; unfold fitN; omega, fun r hr => ?_⟩
  rw [num_fit P0 (P0.rows r hr).1, num_fit P0 (P0.rows r hr).2]
  have := flag_fits hf r hr
  unfold fitN
  omega
/-! ### the ring -/
section
variable {rs : List Row} {u p : Nat}
theorem ring_chosen (hin : ∀ j, j < p → it rs (endS rs).2 j u ∈ (endS rs).2.ss) : (ringL rs (endS rs).2 u p).all (okIx (rs.map toG).length) = true ∧ chosen (rs.map toG) (ringL rs (endS rs).2 u p) = (List.range p).map fun j => toG (it rs (endS rs).2 j u, it rs (endS rs).2 (j + 1) u, wt rs (endS rs).2 (it rs (endS rs).2 j u)) := by
  have hB := end_inv rs (rounds rs + 1) s0 (s0_inv rs)
  have nxt : ∀ j, it rs (endS rs).2 (j + 1) u = nx rs (endS rs).2 (it rs (endS rs).2 j u) := fun j => by
    rw [Nat.add_comm, it_add]; rfl
  constructor
  · rw [List.all_eq_true]
    intro q hq
    unfold ringL at hq
    obtain ⟨j, hj, rfl⟩ := List.mem_map.mp hq
    obtain ⟨i, hi, hg⟩ := (hB.row (hin j (List.mem_range.mp hj))).2.2
    have hi : (endS rs).2.S (it rs (endS rs).2 j u) = i := hi
    rw [hi]
    unfold okIx
    have := (List.getElem?_eq_some_iff.mp hg).1
    rw [List.length_map]
    simp only [Bool.and_eq_true, decide_eq_true_eq]
    omega
  · unfold chosen ringL
    rw [List.map_map]
    apply List.map_congr_left
    intro j hj
    obtain ⟨i, hi, hg⟩ := (hB.row (hin j (List.mem_range.mp hj))).2.2
    have hi : (endS rs).2.S (it rs (endS rs).2 j u) = i := hi
    show (rs.map toG).getD (ixOf (.int ((endS rs).2.S (it rs (endS rs).2 j u)))) dflt = _
    rw [hi]
    show (rs.map toG).getD i dflt = _
    rw [List.getD_eq_getElem?_getD, List.getElem?_map, hg, nxt]
    rfl
theorem ring_linked (hp : it rs (endS rs).2 p u = u) : linked ((List.range p).map fun j => toG (it rs (endS rs).2 j u, it rs (endS rs).2 (j + 1) u, wt rs (endS rs).2 (it rs (endS rs).2 j u))) = true := by
  unfold linked
  rw [List.all_eq_true]
  intro j hj
  rw [List.length_map, List.length_range] at hj
  have hj := List.mem_range.mp hj
  unfold link
  have at_ : ∀ k, k < p → (((List.range p).map fun j => toG (it rs (endS rs).2 j u, it rs (endS rs).2 (j + 1) u, wt rs (endS rs).2 (it rs (endS rs).2 j u))).getD k dflt) = toG (it rs (endS rs).2 k u, it rs (endS rs).2 (k + 1) u, wt rs (endS rs).2 (it rs (endS rs).2 k u)) := fun k hk => by
    rw [List.getD_eq_getElem?_getD, List.getElem?_map, List.getElem?_range hk]
    rfl
  rw [List.length_map, List.length_range, at_ j hj, at_ _ (Nat.mod_lt _ (by omega))]
  have e : it rs (endS rs).2 ((j + 1) % p) u = it rs (endS rs).2 (j + 1) u := by
    by_cases c : j + 1 < p
    · rw [Nat.mod_eq_of_lt c]
    · have : j + 1 = p := by omega
      rw [this, Nat.mod_self, hp]
      rfl
  show PyData.eqv (dat (pt (it rs (endS rs).2 (j + 1) u))) (dat (pt (it rs (endS rs).2 ((j + 1) % p) u))) = true
  rw [e]
  exact eqv_same _ (nice_pt _)
theorem total_range (rs : List Row) (s : Bf) : ∀ (p u : Nat), ((List.range p).map fun j => wt rs s (it rs s j u)).sum = ws rs s p u
  | 0, u => rfl
  | p + 1, u => by
    rw [List.range_succ_eq_map, List.map_cons, List.sum_cons, List.map_map]
    have := total_range rs s p (nx rs s u)
    show wt rs s u + ((List.range p).map fun j => wt rs s (it rs s (j + 1) u)).sum = wt rs s u + ws rs s p (nx rs s u)
    rw [← this]
    rfl
theorem ring_total (p1 : 1 ≤ p) (hp : it rs (endS rs).2 p u = u) (hm : ∀ j, 1 ≤ j → j < p → it rs (endS rs).2 j u ≠ u) (hin : ∀ j, j < p → it rs (endS rs).2 j u ∈ (endS rs).2.ss) : total ((List.range p).map fun j => toG (it rs (endS rs).2 j u, it rs (endS rs).2 (j + 1) u, wt rs (endS rs).2 (it rs (endS rs).2 j u))) < 0 := by
  unfold total
  rw [List.map_map]
  have := total_range rs (endS rs).2 p u
  have e : (List.map ((fun x => x.2.2) ∘ fun j => toG (it rs (endS rs).2 j u, it rs (endS rs).2 (j + 1) u, wt rs (endS rs).2 (it rs (endS rs).2 j u))) (List.range p)) = (List.range p).map fun j => wt rs (endS rs).2 (it rs (endS rs).2 j u) := rfl
  rw [e, this]
  exact end_neg rs u p p1 hp hm hin
end
end Hd
end
section
set_option linter.all false
set_option maxRecDepth 100000
set_option maxHeartbeats 1000000
namespace Hd
open PySem PySem.Spec PyProof.Rows L2 TV
/-! ### the flag and the due number -/
def negT (d : Tab) (j : Nat) : Bool := match d j j with
  | some c => decide (c < 0)
  | none => false
theorem rows_in (rs : List Row) : ∀ r ∈ rs, r.1 ∈ ptsOf rs [0] ∧ r.2.1 ∈ ptsOf rs [0] := fun r hr => ⟨ptsOf_mem.mpr (.inr ⟨r, hr, .inl rfl⟩), ptsOf_mem.mpr (.inr ⟨r, hr, .inr rfl⟩)⟩
theorem flag_eq {rs : List Row} (h : okRows rs) : ((ptsOf rs [0]).filter (negT (bounds rs (ptsOf rs [0])))).isEmpty = !(endS rs).1 := by
  obtain ⟨b1, b2, b3⟩ := bounds_spec (rs := rs) (ps := ptsOf rs [0]) (rows_in rs)
  rcases ring_spec rs h [] with ⟨hf, _⟩ | ⟨hf, u, p, p1, p2, p3, p4, p5, _⟩
  · rw [hf]
    have : (ptsOf rs [0]).filter (negT (bounds rs (ptsOf rs [0]))) = [] := by
      rw [List.filter_eq_nil_iff]
      intro j hj
      unfold negT
      split
      · rename_i c e
        obtain ⟨l, w⟩ := b1 _ _ _ e
        have := no_neg (flag_fits hf) w
        simp only [decide_eq_true_eq]
        omega
      · simp
    rw [this]
    rfl
  · rw [hf]
    obtain ⟨w, l, hw, nd, neg⟩ := ring_walk p1 p3 p4 p5
    have hu := starts_in hw u List.mem_cons_self
    obtain ⟨c, e, le⟩ := b3 u u w l hu hu hw (List.nodup_cons.mp nd).2
    have : u ∈ (ptsOf rs [0]).filter (negT (bounds rs (ptsOf rs [0]))) := by
      rw [List.mem_filter]
      refine ⟨hu, ?_⟩
      unfold negT
      rw [e]
      exact decide_eq_true (by omega)
    cases q : (ptsOf rs [0]).filter (negT (bounds rs (ptsOf rs [0]))) with
    | nil => rw [q] at this; cases this
    | cons _ _ => rfl
theorem Wk.last {rs : List Row} {u v : Nat} {w : Int} {l : List Nat} (h : Wk rs u v w l) : (u = v ∧ w = 0) ∨ v ∈ ptsOf rs [0] := by
  induction h with
  | nil => exact .inl ⟨rfl, rfl⟩
  | @cons u v' x w k l hr h ih =>
    rcases ih with ⟨e, _⟩ | e
    · subst e
      exact .inr (rows_in rs _ hr).2
    · exact .inr e
theorem Wk.out {rs : List Row} {u v : Nat} {w : Int} {l : List Nat} (h : Wk rs u v w l) (o : u ∉ ptsOf rs [0] ∨ v ∉ ptsOf rs [0]) : u = v ∧ w = 0 := by
  rcases h.head with ⟨_, e, e0⟩ | ⟨l', e⟩
  · exact ⟨e, e0⟩
  · subst e
    rcases o with o | o
    · exact absurd (starts_in h u List.mem_cons_self) o
    · rcases h.last with z | z
      · exact z
      · exact absurd z o
def dueP (d : Tab) (u o : Nat) : P := match d u o with
  | some c => .int c
  | none => if u = o then .int 0 else .non
theorem due_eq {rs : List Row} {N : Nat → Int} (hf : Fits rs N) (u o : Nat) : dueP (bounds rs (ptsOf rs [0])) u o = bv rs u o := by
  obtain ⟨f1, f2⟩ := found_spec hf o
  obtain ⟨b1, _, _⟩ := bounds_spec (rs := rs) (ps := ptsOf rs [0]) (rows_in rs)
  unfold dueP bv
  by_cases hio : u ∈ ptsOf rs [0] ∧ o ∈ ptsOf rs [0]
  · rw [found_bounds hf (rows_in rs) hio.1 hio.2]
    by_cases c : u ∈ (found rs o).ks
    · rw [if_pos c, if_pos c]
    · rw [if_neg c, if_neg c]
      have ne : u ≠ o := fun e => by
        subst e
        exact c (f2 u 0 [] (.nil u)).1
      dsimp only
      rw [if_neg ne]
  · have out : u ∉ ptsOf rs [0] ∨ o ∉ ptsOf rs [0] := by
      by_cases a : u ∈ ptsOf rs [0]
      · exact .inr fun b => hio ⟨a, b⟩
      · exact .inl a
    by_cases e : u = o
    · subst e
      have hm := (f2 u 0 [] (.nil u)).1
      rw [if_pos hm]
      obtain ⟨l, w⟩ := f1 u hm
      rw [(w.out out).2]
      split
      · rename_i c q
        obtain ⟨l', w'⟩ := b1 _ _ _ q
        rw [(w'.out out).2]
      · rw [if_pos rfl]
    · have hn : u ∉ (found rs o).ks := fun hm => by
        obtain ⟨l, w⟩ := f1 u hm
        exact e (w.out out).1
      rw [if_neg hn]
      split
      · rename_i c q
        obtain ⟨l', w'⟩ := b1 _ _ _ q
        exact absurd (w'.out out).1 e
      · rw [if_neg e]
/-- the flag of a list that fits -/
theorem flag_of {rs : List Row} (h : okRows rs) {N : Nat → Int} (hf : Fits rs N) : (endS rs).1 = false := by
  rcases ring_spec rs h [] with ⟨e, _⟩ | ⟨e, u, p, p1, p2, p3, p4, p5, _⟩
  · exact e
  · obtain ⟨w, l, hw, nd, neg⟩ := ring_walk p1 p3 p4 p5
    have := no_neg hf hw
    omega
theorem flag_not {rs : List Row} (hn : ∀ N, ¬ Fits rs N) : (endS rs).1 = true := by
  cases e : (endS rs).1 with
  | true => rfl
  | false => exact absurd (flag_fits e) (hn _)
end Hd
end
section
set_option linter.all false
set_option maxRecDepth 100000
set_option maxHeartbeats 1000000
namespace Hd
open PySem PySem.Spec PyProof.Rows L2 TV
/-! ### the parts of _law_right -/
abbrev rr (ld : Nat) (x1 x2 x3 x4 x5 x6 x7 x8 x9 x10 : Option P) : Rho := [some (.loc ld), x1, x2, x3, x4, x5, x6, x7, x8, x9, x10, none, none, none]
theorem filter_ix {ps : List Nat} (h : ∀ j ∈ ps, j < 12) (c : Nat → Bool) : (ps.map pt).filter (fun p => c (ptIx p)) = (ps.filter c).map pt := by
  rw [List.filter_map]
  congr 1
  exact List.filter_congr fun j hj => by
    show c (ptIx (pt j)) = c j
    rw [ptIx_pt (h j hj)]
section
variable {M : Mem} {ld lb lp : Nat} {ps : List Nat} {T : TT}
theorem fits_part (hb : M[lb]? = some (.dct (asP T))) (hT : TOk T) (hp : M[lp]? = some (.lst (ps.map pt))) (pl : ∀ j ∈ ps, j < 12) (p12 : ps.length ≤ 12) (hall : ∀ j ∈ ps, ∃ c, tab T j j = some c) (x1 x4 x5 x6 x7 x8 x9 x10 : Option P) : ∃ G,
    eOp pEq (eLc (iOver (eVar 3)) (TV.gName 11) (tVal (eOp pLt (eOp pIx (eVar 2) (eArgs gTuple (aCons (eVar 11) (aCons (eVar 11) aNil)))) (eC (.int 0)))) (eVar 11) [11]) (eArgs gList aNil) (rr ld x1 (some (.loc lb)) (some (.loc lp)) x4 x5 x6 x7 x8 x9 x10) M = .ok (.bl (ps.filter (negT (tab T))).isEmpty) (M ++ G) := by
  obtain ⟨I, hi, hit, hg⟩ := over_lst (fa := eVar 3) (ρ := rr ld x1 (some (.loc lb)) (some (.loc lp)) x4 x5 x6 x7 x8 x9 x10) (M := M) rfl hp
  have fe : I.items.filter (fun p => negT (tab T) (ptIx p)) = (ps.filter (negT (tab T))).map pt := by rw [hit]; exact filter_ix pl _
  have := lc_eq (gt := TV.gName 11) (ft := tVal (eOp pLt (eOp pIx (eVar 2) (eArgs gTuple (aCons (eVar 11) (aCons (eVar 11) aNil)))) (eC (.int 0)))) (fe := eVar 11) (own := [11]) (c := fun p => negT (tab T) (ptIx p)) (f := id) hi (fun acc => hg _ (getl hp)) (by rw [hit, List.length_map]; exact line_1000 (by omega)) (by
    intro p hpp
    rw [hit] at hpp
    obtain ⟨j, hj, rfl⟩ := List.mem_map.mp hpp
    refine ⟨_, rfl, fun acc => ⟨?_, fun _ => rfl⟩⟩
    show tVal _ [some (.loc ld), x1, some (.loc lb), some (.loc lp), x4, x5, x6, x7, x8, x9, x10, some (pt j), none, none] _ = _
    obtain ⟨c, hc⟩ := hall j hj
    have v11 : ∀ M, eVar 11 [some (.loc ld), x1, some (.loc lb), some (.loc lp), x4, x5, x6, x7, x8, x9, x10, some (pt j), none, none] M = .ok (pt j) M := fun _ => rfl
    rw [x_val, x_op, x_op, x_v2, b_ok, x_args, x_cons, v11, b_ok, x_cons, v11, b_ok, x_nil, b_ok, b_ok, b_ok, tup_pp, b_ok, ix_pp (getl hb) hT (pl j hj) (pl j hj) hc, b_ok, x_C, b_ok, o_lt, b_ok, cVal_bl, ptIx_pt (pl j hj)]
    unfold negT
    rw [hc]) (by rw [fe, List.map_id]; exact nice_pts _) (by rw [fe, List.map_id]; exact Nat.le_trans (dep_pts _) (by decide))
  rw [fe, List.append_assoc] at this
  have em : ((ps.filter (negT (tab T))).map pt).isEmpty = (ps.filter (negT (tab T))).isEmpty := by
    cases ps.filter (negT (tab T)) <;> rfl
  rw [em] at this
  exact ⟨_, this⟩
theorem pick_far (hd : IsDice M[ld]?) (hp : M[lp]? = some (.lst (ps.map pt))) (pl : ∀ j ∈ ps, j < 12) (p12 : ps.length ≤ 12) (x1 x2 x4 x5 x6 x7 x8 x9 x10 : Option P) : ∃ (u : Nat) (M' : Mem), u < 12 ∧ (u ∈ ps ∨ u = 11) ∧ Adv ld M M' ∧
    eArgs F_law_pick (aCons (eVar 0) (aCons (eOp pAdd (eVar 3) (eArgs gList (aCons (eC (.str "far")) aNil))) aNil)) (rr ld x1 x2 (some (.loc lp)) x4 x5 x6 x7 x8 x9 x10) M = .ok (pt u) M' := by
  let M1 : Mem := M ++ [.lst [pt 11]]
  let M2 : Mem := M1 ++ [.lst (ps.map pt ++ [pt 11])]
  have hlt := hd.lt
  have A2 : Adv ld M M2 := ((Adv.refl hd).app _).app _
  have ad := add_loc (M := M1) (a := lp) (b := M.length) (xs := ps.map pt) (ys := [pt 11]) (getl hp) (by simp [M1]) (by
    rw [List.length_map]
    have : 13 < sizeLine := by decide
    simp
    omega)
  obtain ⟨x, M3, hx, e3, a3, l3⟩ := pick_ok A2.dice (li := M1.length) (xs := ps.map pt ++ [pt 11]) (by simp [M2]) (by simp [M1]; omega) (by simp) (by simp; omega) (fun x hx k hk => by
    have hx : x ∈ (ps ++ [11]).map pt := by rw [List.map_append]; exact hx
    obtain ⟨j, _, rfl⟩ := List.mem_map.mp hx
    rw [locs_pt] at hk
    cases hk)
  have hx : x ∈ (ps ++ [11]).map pt := by rw [List.map_append]; exact hx
  obtain ⟨u, hu, rfl⟩ := List.mem_map.mp hx
  have hu : u ∈ ps ∨ u = 11 := by simpa using hu
  refine ⟨u, M3, ?_, hu, A2.trans a3, ?_⟩
  · rcases hu with h | h
    · exact pl u h
    · omega
  · have li : eArgs gList (aCons (eC (.str "far")) aNil) (rr ld x1 x2 (some (.loc lp)) x4 x5 x6 x7 x8 x9 x10) M = .ok (.loc M.length) M1 := rfl
    have ad' : pAdd (.loc lp) (.loc M.length) M1 = .ok (.loc M1.length) M2 := ad
    rw [x_args, x_cons, x_v0, b_ok, x_cons, x_op, x_v3, b_ok, li, b_ok, ad', b_ok, x_nil, b_ok, b_ok, b_ok, e3]
theorem due_part (hb : M[lb]? = some (.dct (asP T))) (hT : TOk T) {u o : Nat} (hu : u < 12) (ho : o < 12) (b : Bool) (x1 x3 x5 x6 x9 x10 : Option P) :
    eIf (tVal (eVar 4)) (eGet2 (eVar 2) (eArgs gTuple (aCons (eVar 7) (aCons (eVar 8) aNil))) (eIf (tVal (eOp pEq (eVar 7) (eVar 8))) (eC (.int 0)) (eC .non))) (eC (.str "operation")) (rr ld x1 (some (.loc lb)) x3 (some (.bl b)) x5 x6 (some (pt u)) (some (pt o)) x9 x10) M = .ok (if b = true then dueP (tab T) u o else .str "operation") M := by
  rw [x_if, x_val, x_v4, b_ok, cVal_bl, b_ok]
  cases b with
  | false => rw [if_neg (by simp), if_neg (by simp)]; rfl
  | true =>
    rw [if_pos rfl, if_pos rfl]
    unfold eGet2
    rw [x_v2, b_ok]
    have hd : dictOfM M lb = some (asP T) := by unfold dictOfM; rw [hb]
    dsimp only
    rw [hd, if_pos (by simp), x_args, x_cons, x_v7, b_ok, x_cons, x_v8, b_ok, x_nil, b_ok, b_ok, b_ok, tup_pp, b_ok, x_if, x_val, x_op, x_v7, b_ok, x_v8, b_ok, eq_pt hu ho, b_ok, cVal_bl, b_ok]
    have fin : ∀ z : P, (z = if u = o then .int 0 else .non) → getM lb (pp u o) z M = .ok (dueP (tab T) u o) M := fun z hz => by
      rw [get_pp hb hT hu ho]
      unfold dueP
      cases tab T u o with
      | some c => rfl
      | none => rw [hz]
    by_cases e : u = o
    · rw [if_pos (decide_eq_true e), x_C, b_ok]
      exact fin _ (by rw [if_pos e])
    · rw [if_neg (by simp [e]), x_C, b_ok]
      exact fin _ (by rw [if_neg e])
end
end Hd
end
section
set_option linter.all false
set_option maxRecDepth 100000
set_option maxHeartbeats 1000000
namespace Hd
open PySem PySem.Spec PyProof.Rows L2 TV
section
variable {M : Mem} {ld lb lp lt : Nat} {ps ks : List Nat}
theorem keys_dm (ks : List Nat) (f : Nat → P) : (dm ks f).map (·.1) = ks.map pt := by
  unfold dm
  rw [List.map_map]
  rfl
theorem list_dm {f : Nat → P} (h : M[lt]? = some (.dct (dm ks f))) : pListOf [.loc lt] M = .ok (.loc M.length) (M ++ [.lst (ks.map pt)]) := by
  have : itemsOf (.loc lt) M = some (ks.map pt) := by
    rw [← keys_dm ks f]
    simp [itemsOf, seqM, dictOfM, h]
  unfold pListOf
  dsimp only
  rw [this]
theorem texts_part {f : Nat → P} (ht : M[lt]? = some (.dct (dm ks f))) (hp : M[lp]? = some (.lst (ps.map pt))) (pl : ∀ j ∈ ps, j < 12) (pn : ps.Nodup) (h0 : 0 ∈ ps) (hk : ks = canon ps) (x1 x2 x4 x6 x7 x8 x9 x10 : Option P) : ∃ G,
    tOr (tVal (eOp pNe (eArgs pSorted (aCons (eLc (iOver (eVar 5)) (TV.gName 12) tYesF (eArgs pStr (aCons (eVar 12) aNil)) [12]) aNil)) (eArgs pSorted (aCons (eLc (iOver (eVar 3)) (TV.gName 12) tYesF (eArgs pStr (aCons (eVar 12) aNil)) [12]) aNil)))) (TV.tNot (tVal (eArgs F_law_is_order (aCons (eArgs pListOf (aCons (eVar 5) aNil)) aNil)))) (rr ld x1 x2 (some (.loc lp)) x4 (some (.loc lt)) x6 x7 x8 x9 x10) M = .ok false (M ++ G) := by
  have cp : ks.Perm ps := by rw [hk]; exact canon_perm pl pn
  have kl : ∀ j ∈ ks, j < 12 := fun j hj => pl j (cp.mem_iff.mp hj)
  have p12 := small_len pl pn
  have k12 : ks.length ≤ 12 := by rw [cp.length_eq]; exact p12
  obtain ⟨I, hi, hit, hg⟩ := over_any (fa := eVar 5) (ρ := rr ld x1 x2 (some (.loc lp)) x4 (some (.loc lt)) x6 x7 x8 x9 x10) (M := M) rfl ht
  rw [keys_dm] at hit
  let M1 : Mem := M ++ [.lst (ks.map st)]
  have e1 : eLc (iOver (eVar 5)) (TV.gName 12) tYesF (eArgs pStr (aCons (eVar 12) aNil)) [12] (rr ld x1 x2 (some (.loc lp)) x4 (some (.loc lt)) x6 x7 x8 x9 x10) M = .ok (.loc M.length) M1 := str_lc hi hit (fun acc => hg _ (getl ht)) (by omega) (fun _ _ => rfl) kl
  let M2 : Mem := M1 ++ [.lst (sortP M1 (ks.map st))]
  have s1 : pSorted [.loc M.length] M1 = .ok (.loc M1.length) M2 := sort_st (seqM_of (by simp [M1]))
  obtain ⟨J, hj, hjt, hjg⟩ := over_lst (fa := eVar 3) (ρ := rr ld x1 x2 (some (.loc lp)) x4 (some (.loc lt)) x6 x7 x8 x9 x10) (M := M2) rfl (getl (getl hp))
  let M3 : Mem := M2 ++ [.lst (ps.map st)]
  have e2 : eLc (iOver (eVar 3)) (TV.gName 12) tYesF (eArgs pStr (aCons (eVar 12) aNil)) [12] (rr ld x1 x2 (some (.loc lp)) x4 (some (.loc lt)) x6 x7 x8 x9 x10) M2 = .ok (.loc M2.length) M3 := str_lc hj hjt (fun acc => hjg _ (getl (getl (getl hp)))) (by omega) (fun _ _ => rfl) pl
  let M4 : Mem := M3 ++ [.lst (sortP M1 (ks.map st))]
  have s2 : pSorted [.loc M2.length] M3 = .ok (.loc M3.length) M4 := by
    have := sort_st (M := M3) (l := M2.length) (ks := ps) (seqM_of (by simp [M3]))
    rw [← sort_same cp kl M1 M3] at this
    exact this
  have nn := nice_sts (ks := ks) (sortP_perm M1 (ks.map st))
  have ne : pNe (.loc M1.length) (.loc M3.length) M4 = .ok (.bl false) M4 := ne_lsts (xs := sortP M1 (ks.map st)) (by simp [M4, M3, M2]) (by simp [M4]) nn.1 nn.2
  let M5 : Mem := M4 ++ [.lst (ks.map pt)]
  have ls : pListOf [.loc lt] M4 = .ok (.loc M4.length) M5 := list_dm (getl (getl (getl (getl ht))))
  have od : F_law_is_order [.loc M4.length] M5 = .ok (.bl true) M5 := law_is_order_spec h0 pl pn (by simp [M5, hk])
  refine ⟨[.lst (ks.map st), .lst (sortP M1 (ks.map st)), .lst (ps.map st), .lst (sortP M1 (ks.map st)), .lst (ks.map pt)], ?_⟩
  have : M ++ [.lst (ks.map st), .lst (sortP M1 (ks.map st)), .lst (ps.map st), .lst (sortP M1 (ks.map st)), .lst (ks.map pt)] = M5 := by simp [M5, M4, M3, M2, M1]
  rw [this, x_tor, x_val, x_op, x_args, x_cons, e1, b_ok, x_nil, b_ok, b_ok, s1, b_ok, x_args, x_cons, e2, b_ok, x_nil, b_ok, b_ok, s2, b_ok, ne, b_ok, cVal_bl, b_ok, if_neg (by simp), x_tnot, x_val, x_args, x_cons, x_args, x_cons, x_v5, b_ok, x_nil, b_ok, b_ok, ls, b_ok, x_nil, b_ok, b_ok, od, b_ok, cVal_bl, b_ok]
  rfl
theorem ne_int0 (i j : Int) (h : i = j) : pNe (.int i) (.int j) M = .ok (.bl false) M := by
  subst h
  have := eqv_go (neg := true) (p := .int i) (q := .int i) (M := M) (d := .int i) (e := .int i) rfl rfl rfl rfl
  refine this.trans ?_
  simp [PyData.eqv]
theorem rows_part {rs : List Row} {N : Nat → Int} (ht : M[lt]? = some (.dct (dm ks (di N)))) (kl : ∀ j ∈ ks, j < 12) (h0 : 0 ∈ ks) (n0 : N 0 = 0) (hr : ∀ r ∈ rs, r.1 ∈ ks ∧ r.2.1 ∈ ks) (hf : Fits rs N) (rl : rs.length ≤ 60) (x2 x3 x4 x6 x7 x8 x9 x10 : Option P) : ∃ G,
    tOr (tVal (eOp pNe (eOp pIx (eVar 5) (eC (.str ""))) (eC (.int 0)))) (tVal (eOp pNe (eLc (iOver (eVar 1)) (TV.gName 13) (tVal (eOp pGt (eOp pSub (eOp pIx (eVar 5) (eOp pIx (eVar 13) (eC (.int 0)))) (eOp pIx (eVar 5) (eOp pIx (eVar 13) (eC (.int 1))))) (eOp pIx (eVar 13) (eC (.int 2))))) (eVar 13) [13]) (eArgs gList aNil))) (rr ld (some (.tup (rs.map rowP))) x2 x3 x4 (some (.loc lt)) x6 x7 x8 x9 x10) M = .ok false (M ++ G) := by
  have i0 : pIx (.loc lt) (.str "") M = .ok (.int (N 0)) M := ix_dm (j := 0) ht kl (by decide) h0
  have hov : iOver (eVar 1) (rr ld (some (.tup (rs.map rowP))) x2 x3 x4 (some (.loc lt)) x6 x7 x8 x9 x10) M = .ok ⟨rs.map rowP, fun _ => true⟩ M := rfl
  have fe : (rs.map rowP).filter (fun _ => false) = [] := List.filter_eq_nil_iff.mpr (by simp)
  have := lc_ne (gt := TV.gName 13) (ft := tVal (eOp pGt (eOp pSub (eOp pIx (eVar 5) (eOp pIx (eVar 13) (eC (.int 0)))) (eOp pIx (eVar 5) (eOp pIx (eVar 13) (eC (.int 1))))) (eOp pIx (eVar 13) (eC (.int 2))))) (fe := eVar 13) (own := [13]) (c := fun _ => false) (f := id) hov (fun _ => rfl) (by show (rs.map rowP).length ≤ _; rw [List.length_map]; exact line_1000 (by omega)) (by
    intro p hpp
    obtain ⟨r, hr', rfl⟩ := List.mem_map.mp hpp
    refine ⟨_, rfl, fun acc => ⟨?_, fun h => by cases h⟩⟩
    show tVal _ [some (.loc ld), some (.tup (rs.map rowP)), x2, x3, x4, some (.loc lt), x6, x7, x8, x9, x10, none, none, some (rowP r)] _ = _
    have v13 : ∀ M, eVar 13 [some (.loc ld), some (.tup (rs.map rowP)), x2, x3, x4, some (.loc lt), x6, x7, x8, x9, x10, none, none, some (rowP r)] M = .ok (rowP r) M := fun _ => rfl
    have q0 : ∀ M, pIx (rowP r) (.int 0) M = .ok (pt r.1) M := fun _ => rfl
    have q1 : ∀ M, pIx (rowP r) (.int 1) M = .ok (pt r.2.1) M := fun _ => rfl
    have q2 : ∀ M, pIx (rowP r) (.int 2) M = .ok (.int r.2.2) M := fun _ => rfl
    have d1 : pIx (.loc lt) (pt r.1) (M ++ [.lst acc]) = .ok (.int (N r.1)) (M ++ [.lst acc]) := ix_dm (getl ht) kl (kl _ (hr r hr').1) (hr r hr').1
    have d2 : pIx (.loc lt) (pt r.2.1) (M ++ [.lst acc]) = .ok (.int (N r.2.1)) (M ++ [.lst acc]) := ix_dm (getl ht) kl (kl _ (hr r hr').2) (hr r hr').2
    rw [x_val, x_op, x_op, x_op, x_v5, b_ok, x_op, v13, b_ok, x_C, b_ok, q0, b_ok, d1, b_ok, x_op, x_v5, b_ok, x_op, v13, b_ok, x_C, b_ok, q1, b_ok, d2, b_ok, o_sub, b_ok, x_op, v13, b_ok, x_C, b_ok, q2, b_ok, o_gt, b_ok, cVal_bl]
    have := hf r hr'
    rw [decide_eq_false (by omega)]) (by show niceL (((rs.map rowP).filter (fun _ => false)).map id) = true; rw [fe]; rfl) (by show depL (((rs.map rowP).filter (fun _ => false)).map id) ≤ 7; rw [fe]; decide)
  have this : eOp pNe (eLc (iOver (eVar 1)) (TV.gName 13) (tVal (eOp pGt (eOp pSub (eOp pIx (eVar 5) (eOp pIx (eVar 13) (eC (.int 0)))) (eOp pIx (eVar 5) (eOp pIx (eVar 13) (eC (.int 1))))) (eOp pIx (eVar 13) (eC (.int 2))))) (eVar 13) [13]) (eArgs gList aNil) (rr ld (some (.tup (rs.map rowP))) x2 x3 x4 (some (.loc lt)) x6 x7 x8 x9 x10) M = .ok (.bl (!((rs.map rowP).filter (fun _ => false)).isEmpty)) (M ++ [.lst (((rs.map rowP).filter (fun _ => false)).map id)] ++ [.lst []]) := this
  rw [fe, List.append_assoc] at this
  exact ⟨[.lst (List.map id []), .lst []], by
    rw [x_tor, x_val, x_op, x_op, x_v5, b_ok, x_C, b_ok, i0, b_ok, x_C, b_ok, ne_int0 _ _ n0, b_ok, cVal_bl, b_ok, if_neg (by simp), x_val, this, b_ok, cVal_bl]
    rfl⟩
end
end Hd
end
section
set_option linter.all false
set_option maxRecDepth 100000
set_option maxHeartbeats 1000000
namespace Hd
open PySem PySem.Spec PyProof.Rows L2 TV
/-! ### _law_right, statement by statement -/
noncomputable def R1 : FS := (sAsg (eArgs F_law_rows (aCons (eVar 0) aNil)) (TV.gName 1))
noncomputable def R2 : FS := (sAsg (eArgs gTuple (aCons (eArgs F_law_bounds (aCons (eVar 1) aNil)) (aCons (eArgs F_law_ends (aCons (eVar 1) aNil)) aNil))) (TV.gTup [(TV.gName 2), (TV.gName 3)]))
noncomputable def R3 : FS := (sAsg (eOp (pEq) (eLc (iOver (eVar 3)) (TV.gName 11) (tVal (eOp (pLt) (eOp pIx (eVar 2) (eArgs gTuple (aCons (eVar 11) (aCons (eVar 11) aNil)))) (eC (.int 0)))) (eVar 11) [11]) (eArgs gList aNil)) (TV.gName 4))
noncomputable def R4 : FS := (sAsg (eArgs gTuple (aCons (eArgs F_fitting (aCons (eVar 1) aNil)) (aCons (eArgs F_ring (aCons (eVar 1) aNil)) aNil))) (TV.gTup [(TV.gName 5), (TV.gName 6)]))
noncomputable def R5 : FS := (sIf (TV.tOr (tVal (eOp (pEq) (eOp (pIs false) (eVar 5) (eC .non)) (eVar 4))) (tVal (eOp (pNe) (eOp (pIs false) (eVar 6) (eC .non)) (eVar 4)))) (sRet (eC (.bl false))) sNext)
noncomputable def R6 : FS := (sPar 7 8 (eArgs F_law_pick (aCons (eVar 0) (aCons (eOp pAdd (eVar 3) (eArgs gList (aCons (eC (.str "far")) aNil))) aNil))) (eArgs F_law_pick (aCons (eVar 0) (aCons (eOp pAdd (eVar 3) (eArgs gList (aCons (eC (.str "far")) aNil))) aNil))))
noncomputable def R7 : FS := (sAsg (eIf (tVal (eVar 4)) (eGet2 (eVar 2) (eArgs gTuple (aCons (eVar 7) (aCons (eVar 8) aNil))) (eIf (tVal (eOp (pEq) (eVar 7) (eVar 8))) (eC (.int 0)) (eC .non))) (eC (.str "operation"))) (TV.gName 9))
noncomputable def R8 : FS := (sIf (tVal (eOp (pNe) (eArgs F_law_bound (aCons (eVar 1) (aCons (eVar 7) (aCons (eVar 8) aNil)))) (eVar 9))) (sRet (eC (.bl false))) sNext)
noncomputable def R9 : FS := (sIf (TV.tNot (tVal (eVar 4))) (sRet (eAnd (eArgs F_law_is_chain (aCons (eVar 1) (aCons (eVar 6) aNil))) (eArgs F_is_ring (aCons (eVar 1) (aCons (eVar 6) aNil))))) sNext)
noncomputable def R10 : FS := (sIf (TV.tOr (tVal (eOp (pNe) (eArgs pSorted (aCons (eLc (iOver (eVar 5)) (TV.gName 12) tYesF (eArgs pStr (aCons (eVar 12) aNil)) [12]) aNil)) (eArgs pSorted (aCons (eLc (iOver (eVar 3)) (TV.gName 12) tYesF (eArgs pStr (aCons (eVar 12) aNil)) [12]) aNil)))) (TV.tNot (tVal (eArgs F_law_is_order (aCons (eArgs pListOf (aCons (eVar 5) aNil)) aNil))))) (sRet (eC (.bl false))) sNext)
noncomputable def R11 : FS := (sIf (TV.tOr (tVal (eOp (pNe) (eOp pIx (eVar 5) (eC (.str ""))) (eC (.int 0)))) (tVal (eOp (pNe) (eLc (iOver (eVar 1)) (TV.gName 13) (tVal (eOp (pGt) (eOp pSub (eOp pIx (eVar 5) (eOp pIx (eVar 13) (eC (.int 0)))) (eOp pIx (eVar 5) (eOp pIx (eVar 13) (eC (.int 1))))) (eOp pIx (eVar 13) (eC (.int 2))))) (eVar 13) [13]) (eArgs gList aNil)))) (sRet (eC (.bl false))) sNext)
noncomputable def R12 : FS := (sIf (TV.tOr (tVal (eOp (pIs false) (eVar 9) (eC .non))) (TV.tOr (tVal (eOp (pEq) (eVar 7) (eC (.str "far")))) (tVal (eOp (pEq) (eVar 8) (eC (.str "far")))))) (sRet (eArgs F_is_fitting (aCons (eVar 1) (aCons (eVar 5) aNil)))) sNext)
noncomputable def R13 : FS := (sAsg (eArgs F_fitting (aCons (eOp pAdd (eVar 1) (eArgs gTuple (aCons (eArgs gTuple (aCons (eVar 8) (aCons (eVar 7) (aCons (eOp pSub (eC (.int 0)) (eVar 9)) aNil)))) aNil))) aNil)) (TV.gName 10))
noncomputable def R14 : FS := (sRet (eAnd (eArgs F_is_fitting (aCons (eVar 1) (aCons (eVar 5) aNil))) (eAnd (eOp (pIs true) (eVar 10) (eC .non)) (eOp (pIs false) (eArgs F_fitting (aCons (eOp pAdd (eVar 1) (eArgs gTuple (aCons (eArgs gTuple (aCons (eVar 8) (aCons (eVar 7) (aCons (eOp pSub (eUn pNeg (eC (.int 1))) (eVar 9)) aNil)))) aNil))) aNil)) (eC .non)))))
theorem st_law_right : m_law_right = (sSeq R1 (sSeq R2 (sSeq R3 (sSeq R4 (sSeq R5 (sSeq R6 (sSeq R7 (sSeq R8 (sSeq R9 (sSeq R10 (sSeq R11 (sSeq R12 (sSeq R13 R14))))))))))))) := rfl
theorem eq_bl (a b : Bool) (M : Mem) : pEq (.bl a) (.bl b) M = .ok (.bl (a == b)) M := by
  have := eqv_go (neg := false) (p := .bl a) (q := .bl b) (M := M) (d := .bool a) (e := .bool b) rfl rfl rfl rfl
  refine this.trans ?_
  cases a <;> cases b <;> rfl
theorem ne_bl (a b : Bool) (M : Mem) : pNe (.bl a) (.bl b) M = .ok (.bl (!(a == b))) M := by
  have := eqv_go (neg := true) (p := .bl a) (q := .bl b) (M := M) (d := .bool a) (e := .bool b) rfl rfl rfl rfl
  refine this.trans ?_
  cases a <;> cases b <;> rfl
section
variable {M : Mem} {ld lb lp lt : Nat} {ps ks : List Nat} {T : TT} {rs : List Row}
theorem r1 {v : P} {M1 : Mem} (e : F_law_rows [.loc ld] M = .ok v M1) : R1 (rr ld none none none none none none none none none none) M = .next (rr ld (some v) none none none none none none none none none) M1 := by
  unfold R1
  rw [z_asg, x_args, x_cons, x_v0, b_ok, x_nil, b_ok, b_ok, e, s_ok]
  rfl
theorem r2 {v a b : P} {M1 M2 : Mem} (e1 : F_law_bounds [v] M = .ok a M1) (e2 : F_law_ends [v] M1 = .ok b M2) : R2 (rr ld (some v) none none none none none none none none none) M = .next (rr ld (some v) (some a) (some b) none none none none none none none) M2 := by
  unfold R2 sAsg
  rw [x_args, x_cons, x_args, x_cons, x_v1, b_ok, x_nil, b_ok, b_ok, e1, b_ok, x_cons, x_args, x_cons, x_v1, b_ok, x_nil, b_ok, b_ok, e2, b_ok, x_nil, b_ok, b_ok, b_ok]
  rfl
theorem r4 {v a b x2 x3 x4 : P} {M1 M2 : Mem} (e1 : F_fitting [v] M = .ok a M1) (e2 : F_ring [v] M1 = .ok b M2) : R4 (rr ld (some v) (some x2) (some x3) (some x4) none none none none none none) M = .next (rr ld (some v) (some x2) (some x3) (some x4) (some a) (some b) none none none none) M2 := by
  unfold R4 sAsg
  rw [x_args, x_cons, x_args, x_cons, x_v1, b_ok, x_nil, b_ok, b_ok, e1, b_ok, x_cons, x_args, x_cons, x_v1, b_ok, x_nil, b_ok, b_ok, e2, b_ok, x_nil, b_ok, b_ok, b_ok]
  rfl
theorem r5 {told met : P} {f : Bool} (h1 : ∀ M, pIs false told .non M = .ok (.bl (!f)) M) (h2 : ∀ M, pIs false met .non M = .ok (.bl f) M) (x1 x2 x3 x7 x8 x9 x10 : Option P) : R5 (rr ld x1 x2 x3 (some (.bl f)) (some told) (some met) x7 x8 x9 x10) M = .next (rr ld x1 x2 x3 (some (.bl f)) (some told) (some met) x7 x8 x9 x10) M := by
  unfold R5
  rw [z_if, x_tor, x_val, x_op, x_op, x_v5, b_ok, x_C, b_ok, h1, b_ok, x_v4, b_ok, eq_bl, b_ok, cVal_bl, b_ok, if_neg (by cases f <;> simp), x_val, x_op, x_op, x_v6, b_ok, x_C, b_ok, h2, b_ok, x_v4, b_ok, ne_bl, b_ok, cVal_bl, s_ok, if_neg (by cases f <;> simp)]
  rfl
theorem r6 (hd : IsDice M[ld]?) (hp : M[lp]? = some (.lst (ps.map pt))) (nl : lp ≠ ld) (pl : ∀ j ∈ ps, j < 12) (p12 : ps.length ≤ 12) (x1 x2 x4 x5 x6 : Option P) : ∃ (u o : Nat) (M' : Mem), u < 12 ∧ o < 12 ∧ Adv ld M M' ∧ R6 (rr ld x1 x2 (some (.loc lp)) x4 x5 x6 none none none none) M = .next (rr ld x1 x2 (some (.loc lp)) x4 x5 x6 (some (pt u)) (some (pt o)) none none) M' := by
  obtain ⟨u, M1, hu, _, a1, e1⟩ := pick_far hd hp pl p12 x1 x2 x4 x5 x6 none none none none
  obtain ⟨o, M2, ho, _, a2, e2⟩ := pick_far a1.dice (a1.at hp nl) pl p12 x1 x2 x4 x5 x6 none none none none
  refine ⟨u, o, M2, hu, ho, a1.trans a2, ?_⟩
  unfold R6
  rw [z_par, e1, s_ok, e2, s_ok]
  rfl
theorem r7 (hb : M[lb]? = some (.dct (asP T))) (hT : TOk T) {u o : Nat} (hu : u < 12) (ho : o < 12) (b : Bool) (x1 x3 x5 x6 : Option P) : R7 (rr ld x1 (some (.loc lb)) x3 (some (.bl b)) x5 x6 (some (pt u)) (some (pt o)) none none) M = .next (rr ld x1 (some (.loc lb)) x3 (some (.bl b)) x5 x6 (some (pt u)) (some (pt o)) (some (if b = true then dueP (tab T) u o else .str "operation")) none) M := by
  unfold R7
  rw [z_asg, due_part hb hT hu ho, s_ok]
  rfl
theorem ne_lb (rs : List Row) (u o : Nat) (M : Mem) : pNe (Hd.lb rs u o) (Hd.lb rs u o) M = .ok (.bl false) M := by
  unfold Hd.lb bv
  split
  · show Res.ok (P.bl (if true = true then !decide (_ = _) else _)) M = _
    simp
  · split
    · rw [ne_int]; simp
    · have := eqv_go (neg := true) (p := .non) (q := .non) (M := M) (d := .none) (e := .none) rfl rfl rfl rfl
      exact this
theorem r8 (h : okRows rs) {u o : Nat} (hu : u < 12) (ho : o < 12) (x2 x3 x4 x5 x6 x10 : Option P) : R8 (rr ld (some (.tup (rs.map rowP))) x2 x3 x4 x5 x6 (some (pt u)) (some (pt o)) (some (Hd.lb rs u o)) x10) M = .next (rr ld (some (.tup (rs.map rowP))) x2 x3 x4 x5 x6 (some (pt u)) (some (pt o)) (some (Hd.lb rs u o)) x10) M := by
  have v9 : ∀ M, eVar 9 (rr ld (some (.tup (rs.map rowP))) x2 x3 x4 x5 x6 (some (pt u)) (some (pt o)) (some (Hd.lb rs u o)) x10) M = .ok (Hd.lb rs u o) M := fun _ => rfl
  unfold R8
  rw [z_if, x_val, x_op, x_args, x_cons, x_v1, b_ok, x_cons, x_v7, b_ok, x_cons, x_v8, b_ok, x_nil, b_ok, b_ok, b_ok, b_ok, law_bound_spec h hu ho, b_ok, v9, b_ok, ne_lb, b_ok, cVal_bl, s_ok, if_neg (by simp)]
  rfl
theorem r9 (x1 x2 x3 x5 x6 x7 x8 x9 x10 : Option P) : R9 (rr ld x1 x2 x3 (some (.bl true)) x5 x6 x7 x8 x9 x10) M = .next (rr ld x1 x2 x3 (some (.bl true)) x5 x6 x7 x8 x9 x10) M := by
  unfold R9
  rw [z_if, x_tnot, x_val, x_v4, b_ok, cVal_bl, b_ok, s_ok, if_neg (by simp)]
  rfl
theorem r9' {a b : P} {M : Mem} (e1 : F_law_is_chain [a, b] M = .ok (.bl true) M) (e2 : F_is_ring [a, b] M = .ok (.bl true) M) (x2 x3 x5 x7 x8 x9 x10 : Option P) : R9 (rr ld (some a) x2 x3 (some (.bl false)) x5 (some b) x7 x8 x9 x10) M = .ret (.bl true) M := by
  unfold R9
  rw [z_if, x_tnot, x_val, x_v4, b_ok, cVal_bl, b_ok, s_ok, if_pos (by simp), z_ret, x_and, x_args, x_cons, x_v1, b_ok, x_cons, x_v6, b_ok, x_nil, b_ok, b_ok, b_ok, e1, b_ok, cAnd_bl, if_pos rfl, x_args, x_cons, x_v1, b_ok, x_cons, x_v6, b_ok, x_nil, b_ok, b_ok, b_ok, e2, s_ok]
end
end Hd
end
section
set_option linter.all false
set_option maxRecDepth 100000
set_option maxHeartbeats 1000000
namespace Hd
open PySem PySem.Spec PyProof.Rows L2 TV
section
variable {M : Mem} {ld lb lp lt : Nat} {ps ks : List Nat} {T : TT} {rs : List Row}
theorem r3 (hb : M[lb]? = some (.dct (asP T))) (hT : TOk T) (hp : M[lp]? = some (.lst (ps.map pt))) (pl : ∀ j ∈ ps, j < 12) (p12 : ps.length ≤ 12) (hall : ∀ j ∈ ps, ∃ c, tab T j j = some c) (x1 : Option P) : ∃ G, R3 (rr ld x1 (some (.loc lb)) (some (.loc lp)) none none none none none none none) M = .next (rr ld x1 (some (.loc lb)) (some (.loc lp)) (some (.bl (ps.filter (negT (tab T))).isEmpty)) none none none none none none) (M ++ G) := by
  obtain ⟨G, e⟩ := fits_part (ld := ld) hb hT hp pl p12 hall x1 none none none none none none none
  refine ⟨G, ?_⟩
  unfold R3
  rw [z_asg, e, s_ok]
  rfl
theorem r10 {f : Nat → P} (ht : M[lt]? = some (.dct (dm ks f))) (hp : M[lp]? = some (.lst (ps.map pt))) (pl : ∀ j ∈ ps, j < 12) (pn : ps.Nodup) (h0 : 0 ∈ ps) (hk : ks = canon ps) (x1 x2 x4 x6 x7 x8 x9 x10 : Option P) : ∃ G, R10 (rr ld x1 x2 (some (.loc lp)) x4 (some (.loc lt)) x6 x7 x8 x9 x10) M = .next (rr ld x1 x2 (some (.loc lp)) x4 (some (.loc lt)) x6 x7 x8 x9 x10) (M ++ G) := by
  obtain ⟨G, e⟩ := texts_part (ld := ld) ht hp pl pn h0 hk x1 x2 x4 x6 x7 x8 x9 x10
  refine ⟨G, ?_⟩
  unfold R10
  rw [z_if, e, s_ok, if_neg (by simp)]
  rfl
theorem r11 {N : Nat → Int} (ht : M[lt]? = some (.dct (dm ks (di N)))) (kl : ∀ j ∈ ks, j < 12) (h0 : 0 ∈ ks) (n0 : N 0 = 0) (hr : ∀ r ∈ rs, r.1 ∈ ks ∧ r.2.1 ∈ ks) (hf : Fits rs N) (rl : rs.length ≤ 60) (x2 x3 x4 x6 x7 x8 x9 x10 : Option P) : ∃ G, R11 (rr ld (some (.tup (rs.map rowP))) x2 x3 x4 (some (.loc lt)) x6 x7 x8 x9 x10) M = .next (rr ld (some (.tup (rs.map rowP))) x2 x3 x4 (some (.loc lt)) x6 x7 x8 x9 x10) (M ++ G) := by
  obtain ⟨G, e⟩ := rows_part (ld := ld) ht kl h0 n0 hr hf rl x2 x3 x4 x6 x7 x8 x9 x10
  refine ⟨G, ?_⟩
  unfold R11
  rw [z_if, e, s_ok, if_neg (by simp)]
  rfl
theorem r12 {a b d : P} {u o : Nat} (hu : u < 12) (ho : o < 12) (hd : d = .non ∨ ∃ i, d = .int i) (e : F_is_fitting [a, b] M = .ok (.bl true) M) (x2 x3 x4 x6 x10 : Option P) :
    R12 (rr ld (some a) x2 x3 x4 (some b) x6 (some (pt u)) (some (pt o)) (some d) x10) M = .ret (.bl true) M ∨
    ((∃ i, d = .int i) ∧ R12 (rr ld (some a) x2 x3 x4 (some b) x6 (some (pt u)) (some (pt o)) (some d) x10) M = .next (rr ld (some a) x2 x3 x4 (some b) x6 (some (pt u)) (some (pt o)) (some d) x10) M) := by
  have v9 : ∀ M, eVar 9 (rr ld (some a) x2 x3 x4 (some b) x6 (some (pt u)) (some (pt o)) (some d) x10) M = .ok d M := fun _ => rfl
  have ret : sRet (eArgs F_is_fitting (aCons (eVar 1) (aCons (eVar 5) aNil))) (rr ld (some a) x2 x3 x4 (some b) x6 (some (pt u)) (some (pt o)) (some d) x10) M = .ret (.bl true) M := by
    rw [z_ret, x_args, x_cons, x_v1, b_ok, x_cons, x_v5, b_ok, x_nil, b_ok, b_ok, b_ok, e, s_ok]
  have far : (P.str "far") = pt 11 := rfl
  unfold R12
  rw [z_if, x_tor, x_val, x_op, v9, b_ok, x_C, b_ok]
  rcases hd with rfl | ⟨i, rfl⟩
  · rw [is_true_non, b_ok, cVal_bl, b_ok, if_pos rfl, s_ok, if_pos rfl]
    exact .inl ret
  · have is0 : pIs false (.int i) .non M = .ok (.bl false) M := rfl
    rw [is0, b_ok, cVal_bl, b_ok, if_neg (by simp), x_tor, x_val, x_op, x_v7, b_ok, x_C, b_ok, far, eq_pt hu (by decide), b_ok, cVal_bl, b_ok]
    by_cases c : u = 11
    · rw [if_pos (decide_eq_true c), s_ok, if_pos rfl]
      exact .inl ret
    · rw [if_neg (by simp [c]), x_val, x_op, x_v8, b_ok, x_C, b_ok, eq_pt ho (by decide), b_ok, cVal_bl, s_ok]
      by_cases c2 : o = 11
      · rw [if_pos (decide_eq_true c2)]
        exact .inl ret
      · rw [if_neg (by simp [c2])]
        exact .inr ⟨⟨i, rfl⟩, rfl⟩
end
end Hd
end
section
set_option linter.all false
set_option maxRecDepth 100000
set_option maxHeartbeats 1000000
namespace Hd
open PySem PySem.Spec PyProof.Rows L2 TV
section
variable {M : Mem} {ld : Nat} {rs : List Row}
theorem add_row (r : Row) (h : rs.length ≤ 60) : pAdd (.tup (rs.map rowP)) (.tup [rowP r]) M = .ok (.tup ((rs ++ [r]).map rowP)) M := by
  show (if (rs.map rowP).length + [rowP r].length ≤ sizeLine then Res.ok (P.tup (rs.map rowP ++ [rowP r])) M else .bad) = _
  have : 61 < sizeLine := by decide
  rw [if_pos (by rw [List.length_map]; simp; omega), List.map_append]
  rfl
theorem r13 {D : Int} {u o : Nat} {v : P} {M1 : Mem} (h : rs.length ≤ 60) (e : F_fitting [.tup ((rs ++ [(o, u, 0 - D)]).map rowP)] M = .ok v M1) (x2 x3 x4 x5 x6 : Option P) : R13 (rr ld (some (.tup (rs.map rowP))) x2 x3 x4 x5 x6 (some (pt u)) (some (pt o)) (some (.int D)) none) M = .next (rr ld (some (.tup (rs.map rowP))) x2 x3 x4 x5 x6 (some (pt u)) (some (pt o)) (some (.int D)) (some v)) M1 := by
  have v9 : ∀ M, eVar 9 (rr ld (some (.tup (rs.map rowP))) x2 x3 x4 x5 x6 (some (pt u)) (some (pt o)) (some (.int D)) none) M = .ok (.int D) M := fun _ => rfl
  have g3 : ∀ M, gTuple [pt o, pt u, .int (0 - D)] M = .ok (rowP (o, u, 0 - D)) M := fun _ => rfl
  have g1 : ∀ M, gTuple [rowP (o, u, 0 - D)] M = .ok (.tup [rowP (o, u, 0 - D)]) M := fun _ => rfl
  unfold R13
  rw [z_asg, x_args, x_cons, x_op, x_v1, b_ok, x_args, x_cons, x_args, x_cons, x_v8, b_ok, x_cons, x_v7, b_ok, x_cons, x_op, x_C, b_ok, v9, b_ok, o_sub, b_ok, x_nil, b_ok, b_ok, b_ok, b_ok, g3, b_ok, x_nil, b_ok, b_ok, g1, b_ok, add_row _ h, b_ok, x_nil, b_ok, b_ok, e, s_ok]
  rfl
theorem r14 {D : Int} {u o : Nat} {b near : P} (h : rs.length ≤ 60) (e1 : F_is_fitting [.tup (rs.map rowP), b] M = .ok (.bl true) M) (e2 : pIs true near .non M = .ok (.bl true) M) (e3 : F_fitting [.tup ((rs ++ [(o, u, -1 - D)]).map rowP)] M = .ok .non M) (x2 x3 x4 x6 : Option P) : R14 (rr ld (some (.tup (rs.map rowP))) x2 x3 x4 (some b) x6 (some (pt u)) (some (pt o)) (some (.int D)) (some near)) M = .ret (.bl true) M := by
  have v9 : ∀ M, eVar 9 (rr ld (some (.tup (rs.map rowP))) x2 x3 x4 (some b) x6 (some (pt u)) (some (pt o)) (some (.int D)) (some near)) M = .ok (.int D) M := fun _ => rfl
  have v10 : ∀ M, eVar 10 (rr ld (some (.tup (rs.map rowP))) x2 x3 x4 (some b) x6 (some (pt u)) (some (pt o)) (some (.int D)) (some near)) M = .ok near M := fun _ => rfl
  have ng : ∀ M, pNeg (.int 1) M = .ok (.int (-1)) M := fun _ => rfl
  have g3 : ∀ M, gTuple [pt o, pt u, .int (-1 - D)] M = .ok (rowP (o, u, -1 - D)) M := fun _ => rfl
  have g1 : ∀ M, gTuple [rowP (o, u, -1 - D)] M = .ok (.tup [rowP (o, u, -1 - D)]) M := fun _ => rfl
  unfold R14
  rw [z_ret, x_and, x_args, x_cons, x_v1, b_ok, x_cons, x_v5, b_ok, x_nil, b_ok, b_ok, b_ok, e1, b_ok, cAnd_bl, if_pos rfl, x_and, x_op, v10, b_ok, x_C, b_ok, e2, b_ok, cAnd_bl, if_pos rfl, x_op, x_args, x_cons, x_op, x_v1, b_ok, x_args, x_cons, x_args, x_cons, x_v8, b_ok, x_cons, x_v7, b_ok, x_cons, x_op, x_un, x_C, b_ok, ng, b_ok, v9, b_ok, o_sub, b_ok, x_nil, b_ok, b_ok, b_ok, b_ok, g3, b_ok, x_nil, b_ok, b_ok, g1, b_ok, add_row _ h, b_ok, x_nil, b_ok, b_ok, e3, b_ok, x_C, b_ok, is_true_non, s_ok]
end
theorem more_ok {rs : List Row} (hr : ∀ r ∈ rs, drawn r) (rl : rs.length ≤ 8) {N : Nat → Int} (hf : Fits rs N) {u o : Nat} (hu : u < 12) (ho : o < 12) (hm : u ∈ (found rs o).ks) (p12 : (ptsOf rs [0]).length ≤ 12) (c : Int) (hc : c = 0 ∨ c = -1) : okRows (rs ++ [(o, u, c - (found rs o).N u)]) := by
  refine ⟨fun r h => ?_, by rw [List.length_append]; simp; omega⟩
  rcases List.mem_append.mp h with h | h
  · exact (hr r h).ok
  · rw [List.mem_singleton.mp h]
    have sz := found_size hf (B := BB) (fun r h => (hr r h).2.2) hm
    have le : BB * (ptsOf rs [0]).length ≤ BB * 12 := Nat.mul_le_mul_left _ p12
    have e : BB * 12 = 84000000000000000000000000000000000000000000000000000000000 := by decide
    refine ⟨ho, hu, ?_⟩
    show -1000000000000000000000000000000000000000000000000000000000000 < c - (found rs o).N u ∧ c - (found rs o).N u < 1000000000000000000000000000000000000000000000000000000000000
    constructor <;> (rcases hc with rfl | rfl) <;> omega
end Hd
end
section
set_option linter.all false
set_option maxRecDepth 100000
set_option maxHeartbeats 1000000
namespace Hd
open PySem PySem.Spec PyProof.Rows L2 TV
theorem law_right_spec {ld : Nat} {M : Mem} (h : IsDice M[ld]?) : ∃ M', F_law_right [.loc ld] M = .ok (.bl true) M' ∧ Adv ld M M' ∧ M'.length = M.length := by
  have hlt := h.lt
  have done : ∀ Mz, Adv ld M Mz → fin (m_law_right (rr ld none none none none none none none none none none) M) = .ok (.bl true) Mz → ∃ M', F_law_right [.loc ld] M = .ok (.bl true) M' ∧ Adv ld M M' ∧ M'.length = M.length := fun Mz a e => by
    refine ⟨Mz.take M.length, ?_, a.take hlt, a.takeLen⟩
    unfold F_law_right mkF
    rw [if_pos (show [P.loc ld].length = 1 from rfl)]
    show gc M (fin (m_law_right (rr ld none none none none none none none none none none) M)) = _
    rw [e]
    exact gc_kept a.kept (fun k hk => by simp [P.locs] at hk)
  obtain ⟨rs, M1, e1, a1, l1, rl, hd⟩ := rows_spec h
  have hr : okRows rs := ⟨fun r hr => (hd r hr).ok, by omega⟩
  have pl : ∀ j ∈ ptsOf rs [0], j < 12 := ptsOf_lt hr.1 (by simp)
  have pn : (ptsOf rs [0]).Nodup := ptsOf_nodup (by simp)
  have p12 := small_len pl pn
  have h0 : 0 ∈ ptsOf rs [0] := ptsOf_mem.mpr (.inl (by simp))
  obtain ⟨T, hT, tT, e2⟩ := law_bounds_spec hr.1 M1
  let M2 : Mem := M1 ++ [.dct (asP T)]
  let M3 : Mem := M2 ++ [.lst ((ptsOf rs [0]).map pt)]
  have e3 : F_law_ends [.tup (rs.map rowP)] M2 = .ok (.loc M2.length) M3 := ends_spec hr.1 M2
  have hb3 : M3[M1.length]? = some (.dct (asP T)) := by simp [M3, M2]
  have hp3 : M3[M2.length]? = some (.lst ((ptsOf rs [0]).map pt)) := by simp [M3]
  obtain ⟨b1, b2, b3⟩ := bounds_spec (rs := rs) (ps := ptsOf rs [0]) (rows_in rs)
  obtain ⟨G, q3⟩ := r3 (ld := ld) hb3 hT hp3 pl p12 (fun j hj => by
    obtain ⟨c, hc, _⟩ := b2 j hj
    exact ⟨c, by rw [tT]; exact hc⟩) (some (.tup (rs.map rowP)))
  rw [tT, flag_eq hr] at q3
  have A3 : Adv ld M M3 := (a1.app _).app _
  have A4 : Adv ld M (M3 ++ G) := A3.app G
  have hb4 : (M3 ++ G)[M1.length]? = some (.dct (asP T)) := getl hb3
  have hp4 : (M3 ++ G)[M2.length]? = some (.lst ((ptsOf rs [0]).map pt)) := getl hp3
  have nb : M1.length ≠ ld := by omega
  have np : M2.length ≠ ld := by
    show (M1 ++ [MO.dct (asP T)]).length ≠ ld
    rw [List.length_append]
    simp
    omega
  generalize M3 ++ G = M4 at q3 A4 hb4 hp4
  have head : ∀ ρ M', sSeq R4 (sSeq R5 (sSeq R6 (sSeq R7 (sSeq R8 (sSeq R9 (sSeq R10 (sSeq R11 (sSeq R12 (sSeq R13 R14))))))))) (rr ld (some (.tup (rs.map rowP))) (some (.loc M1.length)) (some (.loc M2.length)) (some (.bl (!(endS rs).1))) none none none none none none) M4 = .ret ρ M' → fin (m_law_right (rr ld none none none none none none none none none none) M) = .ok ρ M' := fun p M' e => by
    rw [st_law_right, z_seq, r1 e1, t_next, z_seq, r2 e2 e3, t_next, z_seq, q3, t_next, e, f_ret]
  rcases fitting_spec rs hr M4 with ⟨hf, ef⟩ | ⟨hf, ks, P0, kc, _, ef⟩
  · -- a ring
    rcases ring_spec rs hr M4 with ⟨hf', _⟩ | ⟨_, u, p, p1, p2, p3, p4, p5, er⟩
    · rw [hf] at hf'; cases hf'
    have e0 : (!(endS rs).1) = false := by rw [hf]; rfl
    rw [e0] at head
    obtain ⟨i, o, M6, hi, ho, a6, e6⟩ := r6 (ld := ld) A4.dice hp4 np pl p12 (some (.tup (rs.map rowP))) (some (.loc M1.length)) (some (.bl false)) (some .non) (some (.tup (ringL rs (endS rs).2 u p)))
    have A6 := A4.trans a6
    have e7 := r7 (ld := ld) (M := M6) (a6.at hb4 nb) hT hi ho false (some (.tup (rs.map rowP))) (some (.loc M2.length)) (some .non) (some (.tup (ringL rs (endS rs).2 u p)))
    have dl : (if (false : Bool) = true then dueP (tab T) i o else P.str "operation") = Hd.lb rs i o := by
      unfold Hd.lb
      rw [if_pos hf]
      rfl
    rw [dl] at e7
    have rc := ring_chosen (rs := rs) (u := u) (p := p) p5
    have rk := ring_linked (rs := rs) (u := u) (p := p) p3
    have rt := ring_total p1 p3 p4 p5
    rw [← rc.2] at rk rt
    have hne : ringL rs (endS rs).2 u p ≠ [] := fun z => by
      have := ringL_len rs (endS rs).2 u p
      rw [z] at this
      simp at this
      omega
    have hG : ∀ r ∈ rs.map toG, okG r ∧ (r.2.2).natAbs < 10 ^ 70 := fun r hr' => by
      obtain ⟨q, hq, rfl⟩ := List.mem_map.mp hr'
      refine ⟨okG_toG q, ?_⟩
      have := (hd q hq).2.2
      have e : (7 * 10 ^ 57 : Nat) < 10 ^ 70 := by decide
      exact Nat.lt_of_le_of_lt this e
    have c1 := law_is_chain_spec hG (by rw [ringL_len]; omega) rc.1 hne rk rt M6
    have nice : niceL (ringL rs (endS rs).2 u p) = true ∧ depL (ringL rs (endS rs).2 u p) ≤ 6 := by
      refine ⟨niceL_iff.mpr fun q hq => ?_, depL_le.mpr fun q hq => ?_⟩
      · have := List.all_eq_true.mp rc.1 q hq
        obtain ⟨k, rfl, k0, k1⟩ := okIx_int this
        rw [List.length_map] at k1
        exact decide_eq_true (by omega)
      · have := List.all_eq_true.mp rc.1 q hq
        obtain ⟨k, rfl, k0, k1⟩ := okIx_int this
        exact Nat.zero_le _
    have c2 := is_ring_spec (G := rs.map toG) (v := .tup (ringL rs (endS rs).2 u p)) (M := M6) (fun r hr' => (hG r hr').1) (by rw [List.length_map]; omega) (by rw [gP_toG]; exact hr.req M6) ⟨⟨_, rfl, by simp⟩, fun qs hq => by
      cases hq
      exact ⟨nice.1, nice.2, by rw [ringL_len]; omega⟩⟩
    have rb : ringB (rs.map toG) (.tup (ringL rs (endS rs).2 u p)) = true := by
      show (!(ringL rs (endS rs).2 u p).isEmpty && ((ringL rs (endS rs).2 u p).all (okIx (rs.map toG).length) && (linked (chosen (rs.map toG) (ringL rs (endS rs).2 u p)) && decide (total (chosen (rs.map toG) (ringL rs (endS rs).2 u p)) < 0)))) = true
      rw [rc.1, rk, decide_eq_true rt]
      cases q : ringL rs (endS rs).2 u p with
      | nil => exact absurd q hne
      | cons _ _ => rfl
    rw [rb] at c2
    rw [gP_toG] at c1 c2
    refine done M6 A6 (head _ _ ?_)
    rw [z_seq, r4 ef er, t_next, z_seq, r5 (f := false) (fun _ => rfl) (fun _ => rfl), t_next, z_seq, e6, t_next, z_seq, e7, t_next, z_seq, r8 hr hi ho, t_next, z_seq, r9' c1 c2]
    rfl
  · -- numbers
    have er : F_ring [.tup (rs.map rowP)] (M4 ++ [.dct (dm ks (di (fitN rs)))]) = .ok .non (M4 ++ [.dct (dm ks (di (fitN rs)))]) := by
      rcases ring_spec rs hr (M4 ++ [.dct (dm ks (di (fitN rs)))]) with ⟨_, er⟩ | ⟨hf', _⟩
      · exact er
      · rw [hf] at hf'; cases hf'
    have e0 : (!(endS rs).1) = true := by rw [hf]; rfl
    rw [e0] at head
    have ht5 : (M4 ++ [MO.dct (dm ks (di (fitN rs)))])[M4.length]? = some (.dct (dm ks (di (fitN rs)))) := by simp
    have A5 : Adv ld M (M4 ++ [MO.dct (dm ks (di (fitN rs)))]) := A4.app _
    have hb5 : (M4 ++ [MO.dct (dm ks (di (fitN rs)))])[M1.length]? = some (.dct (asP T)) := getl hb4
    have hp5 : (M4 ++ [MO.dct (dm ks (di (fitN rs)))])[M2.length]? = some (.lst ((ptsOf rs [0]).map pt)) := getl hp4
    have nt : M4.length ≠ ld := by
      have := A4.len
      omega
    have q4 := r4 (ld := ld) (x2 := .loc M1.length) (x3 := .loc M2.length) (x4 := .bl true) ef er
    generalize M4 ++ [MO.dct (dm ks (di (fitN rs)))] = M5 at ht5 A5 hb5 hp5 q4
    generalize M4.length = lt at ht5 nt q4
    obtain ⟨u, o, M6, hu, ho, a6, e6⟩ := r6 (ld := ld) A5.dice hp5 np pl p12 (some (.tup (rs.map rowP))) (some (.loc M1.length)) (some (.bl true)) (some (.loc lt)) (some .non)
    have A6 := A5.trans a6
    have hp6 := a6.at hp5 np
    have ht6 := a6.at ht5 nt
    have e7 := r7 (ld := ld) (M := M6) (a6.at hb5 nb) hT hu ho true (some (.tup (rs.map rowP))) (some (.loc M2.length)) (some (.loc lt)) (some .non)
    have Fit := flag_fits hf
    have FitN : Fits rs (fitN rs) := fun r hr' => by
      have := Fit r hr'
      unfold fitN
      omega
    have dl : (if (true : Bool) = true then dueP (tab T) u o else P.str "operation") = Hd.lb rs u o := by
      unfold Hd.lb
      rw [if_pos rfl, if_neg (by rw [hf]; simp), tT]
      exact due_eq Fit u o
    rw [dl] at e7
    obtain ⟨G1, e10⟩ := r10 (ld := ld) ht6 hp6 pl pn h0 kc (some (.tup (rs.map rowP))) (some (.loc M1.length)) (some (.bl true)) (some .non) (some (pt u)) (some (pt o)) (some (Hd.lb rs u o)) none
    have ht7 : (M6 ++ G1)[lt]? = some (.dct (dm ks (di (fitN rs)))) := getl ht6
    have A7 : Adv ld M (M6 ++ G1) := A6.app G1
    generalize M6 ++ G1 = M7 at e10 ht7 A7
    obtain ⟨G2, e11⟩ := r11 (ld := ld) ht7 P0.lt P0.zero (by unfold fitN; omega) P0.rows FitN hr.2 (some (.loc M1.length)) (some (.loc M2.length)) (some (.bl true)) (some .non) (some (pt u)) (some (pt o)) (some (Hd.lb rs u o)) none
    have ht8 : (M7 ++ G2)[lt]? = some (.dct (dm ks (di (fitN rs)))) := getl ht7
    have A8 : Adv ld M (M7 ++ G2) := A7.app G2
    generalize M7 ++ G2 = M8 at e11 ht8 A8
    have Dc := fit_dct (rs := rs) (c := BB) (by decide) (fun r hr' => (hd r hr').2.2) hr.2 P0
    have isf : ∀ Mx : Mem, Mx[lt]? = some (.dct (dm ks (di (fitN rs)))) → F_is_fitting [.tup (rs.map rowP), .loc lt] Mx = .ok (.bl true) Mx := fun Mx hx => by
      rw [is_fitting_spec hr (.inr ⟨lt, rfl, .inr ⟨_, hx, Dc⟩⟩)]
      have : fitsV rs (ptsOf rs [0]) (.loc lt) Mx = fitsB rs (ptsOf rs [0]) (dm ks (di (fitN rs))) := by
        show (match Mx[lt]? with | some (.dct kvs) => fitsB rs (ptsOf rs [0]) kvs | _ => false) = _
        rw [hx]
      rw [this, fit_true P0 hf]
    have lbv : Hd.lb rs u o = bv rs u o := by unfold Hd.lb; rw [if_neg (by rw [hf]; simp)]
    have cases9 : Hd.lb rs u o = .non ∨ ∃ i, Hd.lb rs u o = .int i := by
      rw [lbv]
      unfold bv
      split
      · exact .inr ⟨_, rfl⟩
      · exact .inl rfl
    have upto12 : ∀ p M', sSeq R12 (sSeq R13 R14) (rr ld (some (.tup (rs.map rowP))) (some (.loc M1.length)) (some (.loc M2.length)) (some (.bl true)) (some (.loc lt)) (some .non) (some (pt u)) (some (pt o)) (some (Hd.lb rs u o)) none) M8 = .ret p M' → fin (m_law_right (rr ld none none none none none none none none none none) M) = .ok p M' := fun p M' e => by
      refine head p M' ?_
      rw [z_seq, q4, t_next, z_seq, r5 (f := true) (fun _ => rfl) (fun _ => rfl), t_next, z_seq, e6, t_next, z_seq, e7, t_next, z_seq, r8 hr hu ho, t_next, z_seq, r9, t_next, z_seq, e10, t_next, z_seq, e11, t_next, e]
    rcases r12 (ld := ld) (M := M8) hu ho cases9 (isf M8 ht8) (some (.loc M1.length)) (some (.loc M2.length)) (some (.bl true)) (some .non) none with e12 | ⟨⟨D, hD⟩, e12⟩
    · refine done M8 A8 (upto12 _ _ ?_)
      rw [z_seq, e12]
      rfl
    · rw [lbv] at hD
      have hm : u ∈ (found rs o).ks ∧ D = (found rs o).N u := by
        unfold bv at hD
        split at hD
        · rename_i c
          refine ⟨c, ?_⟩
          cases hD
          rfl
        · cases hD
      obtain ⟨hm, rfl⟩ := hm
      have ok1 := more_ok hd rl Fit hu ho hm p12 0 (.inl rfl)
      have ok2 := more_ok hd rl Fit hu ho hm p12 (-1) (.inr rfl)
      obtain ⟨N', F'⟩ := reach Fit hm
      have f1 := flag_of ok1 F'
      have f2 := flag_not (fun N' => beyond Fit hm N')
      rcases fitting_spec _ ok1 M8 with ⟨z, _⟩ | ⟨_, ks', _, _, _, en⟩
      · rw [f1] at z; cases z
      have ht9 : (M8 ++ [MO.dct (dm ks' (di (fitN (rs ++ [(o, u, 0 - (found rs o).N u)]))))])[lt]? = some (.dct (dm ks (di (fitN rs)))) := getl ht8
      have A9 : Adv ld M (M8 ++ [MO.dct (dm ks' (di (fitN (rs ++ [(o, u, 0 - (found rs o).N u)]))))]) := A8.app _
      generalize M8 ++ [MO.dct (dm ks' (di (fitN (rs ++ [(o, u, 0 - (found rs o).N u)]))))] = M9 at en ht9 A9
      have em : F_fitting [.tup ((rs ++ [(o, u, -1 - (found rs o).N u)]).map rowP)] M9 = .ok .non M9 := by
        rcases fitting_spec _ ok2 M9 with ⟨_, em⟩ | ⟨z, _⟩
        · exact em
        · rw [f2] at z; cases z
      refine done M9 A9 (upto12 _ _ ?_)
      rw [z_seq, e12, t_next, lbv, hD, z_seq, r13 hr.2 en, t_next, r14 hr.2 (isf M9 ht9) rfl em]
end Hd
end
section
set_option linter.all false
set_option maxRecDepth 100000
set_option maxHeartbeats 1000000
namespace Hd
open PySem PySem.Spec PyProof.Rows L2 TV
noncomputable abbrev turnBody : FS := (sIf (TV.tNot (tVal (eArgs F_law_right (aCons (eVar 2) aNil)))) (sRet (eC (.bl false))) sNext)
theorem turn_loop {ld : Nat} {x0 x1 : Option P} : ∀ (ts : List P) (M : Mem) (x3 : Option P), IsDice M[ld]? → ∃ (M' : Mem) (y3 : Option P), Adv ld M M' ∧
    loopF (fun _ => true) (TV.gName 3) turnBody ts [x0, x1, some (.loc ld), x3, none] M = .next [x0, x1, some (.loc ld), y3, none] M'
  | [], M, x3, h => ⟨M, x3, Adv.refl h, by simp [loopF]⟩
  | t :: ts, M, x3, h => by
    obtain ⟨M1, e1, a1, l1⟩ := law_right_spec h
    obtain ⟨M2, y3, a2, e2⟩ := turn_loop (x0 := x0) (x1 := x1) ts M1 (some t) a1.dice
    refine ⟨M2, y3, a1.trans a2, ?_⟩
    rw [loopF, if_pos rfl]
    have hg : TV.gName 3 t [x0, x1, some (.loc ld), x3, none] = some [x0, x1, some (.loc ld), some t, none] := rfl
    rw [hg]
    dsimp only
    have body : turnBody [x0, x1, some (.loc ld), some t, none] M = .next [x0, x1, some (.loc ld), some t, none] M1 := by
      unfold turnBody
      rw [z_if, x_tnot, x_val, x_args, x_cons, x_v2, b_ok, x_nil, b_ok, b_ok, e1, b_ok, cVal_bl, b_ok, s_ok, if_neg (by simp), z_next]
    rw [body, l_next]
    exact e2
noncomputable abbrev caseBody : FS := (sSeq (sAsg (eArgs F_law_dice (aCons (eVar 0) (aCons (eVar 1) aNil))) (TV.gName 2)) (sFor (iArgs rng1 (aCons (eC (.int 3)) aNil)) (TV.gName 3) turnBody))
theorem cases_loop {ns : List Int} : ∀ (is : List Nat) (M : Mem) (x1 x2 x3 : Option P), M[0]? = some (.scr ns) → (∀ i ∈ is, i < 4) → ∃ (M' : Mem) (y1 y2 y3 : Option P), M'[0]? = some (.scr ns) ∧
    loopF (fun _ => true) (TV.gName 1) caseBody (is.map fun (i : Nat) => P.int ((i : Nat) : Int)) [some (.loc 0), x1, x2, x3, none] M = .next [some (.loc 0), y1, y2, y3, none] M'
  | [], M, x1, x2, x3, h, _ => ⟨M, x1, x2, x3, h, by simp [loopF]⟩
  | i :: is, M, x1, x2, x3, h, hi => by
    have h0 : 0 < M.length := (List.getElem?_eq_some_iff.mp h).1
    obtain ⟨a, b, e⟩ := dice_spec h i (hi i List.mem_cons_self)
    have hd : IsDice (M ++ [MO.lst [.int a, .int b, .int 0]])[M.length]? := ⟨a, b, 0, by simp⟩
    have itr : ∀ ρ M, iArgs rng1 (aCons (eC (.int 3)) aNil) ρ M = .ok ⟨upto 0 (3 : Int).toNat, fun _ => true⟩ M := fun ρ M => by
      unfold iArgs
      rw [x_cons, x_C, b_ok, x_nil, b_ok, b_ok]
      exact rng_one 3 (by decide) _
    obtain ⟨M1, y3, a1, e1⟩ := turn_loop (x0 := some (.loc 0)) (x1 := some (.int (i : Nat))) (upto 0 (3 : Int).toNat) _ x3 hd
    have g1 : M1[0]? = some (.scr ns) := a1.at (getl h) (by omega)
    obtain ⟨M2, z1, z2, z3, g2, e2⟩ := cases_loop is M1 (some (.int (i : Nat))) (some (.loc M.length)) y3 g1 (fun k hk => hi k (List.mem_cons_of_mem _ hk))
    refine ⟨M2, z1, z2, z3, g2, ?_⟩
    rw [List.map_cons, loopF, if_pos rfl]
    have hg : TV.gName 1 (.int ((i : Nat) : Int)) [some (.loc 0), x1, x2, x3, none] = some [some (P.loc 0), some (.int (i : Nat)), x2, x3, none] := rfl
    rw [hg]
    dsimp only
    have body : caseBody [some (P.loc 0), some (.int (i : Nat)), x2, x3, none] M = .next [some (P.loc 0), some (.int (i : Nat)), some (.loc M.length), y3, none] M1 := by
      unfold caseBody
      rw [z_seq, z_asg, x_args, x_cons, x_v0, b_ok, x_cons, x_v1, b_ok, x_nil, b_ok, b_ok, b_ok, e, s_ok, t_next]
      have hs : List.set [some (P.loc 0), some (.int (i : Nat)), x2, x3, none] 2 (some (.loc M.length)) = [some (P.loc 0), some (.int (i : Nat)), some (.loc M.length), x3, none] := rfl
      rw [hs, z_for, itr, s_ok]
      exact e1
    rw [body, l_next]
    exact e2
/-! ### the fixed rows at the end -/
def rs3 : List Row := [(1, 0, 4), (2, 1, -2), (0, 2, 1)]
def rs4 : List Row := rs3 ++ [(0, 1, -5)]
theorem ok3 : okRows rs3 := ⟨by
  intro r hr
  simp only [rs3, List.mem_cons, List.not_mem_nil, or_false] at hr
  rcases hr with rfl | rfl | rfl <;> exact ⟨by decide, by decide, by unfold small; decide⟩, by decide⟩
theorem ok4 : okRows rs4 := ⟨by
  intro r hr
  simp only [rs4, rs3, List.cons_append, List.nil_append, List.mem_cons, List.not_mem_nil, or_false] at hr
  rcases hr with rfl | rfl | rfl | rfl <;> exact ⟨by decide, by decide, by unfold small; decide⟩, by decide⟩
theorem ok0 : okRows [] := ⟨by simp, by simp⟩
theorem fl3 : (endS rs3).1 = false := by decide +kernel
theorem fl4 : (endS rs4).1 = true := by decide +kernel
theorem fl0 : (endS []).1 = false := by decide +kernel
theorem tight {u o : Nat} {i : Int} (hu : u < 12) (ho : o < 12) (hm : u ∈ (found rs3 o).ks) (hi : (found rs3 o).N u = i) (M : Mem) : F_tightest [.tup (rs3.map rowP), pt u, pt o] M = .ok (.int i) M := by
  rcases tightest_spec ok3 hu ho M with ⟨z, _⟩ | ⟨_, e⟩
  · rw [fl3] at z; cases z
  · rw [e]
    unfold bv
    rw [if_pos hm, hi]
theorem t1 (M : Mem) : F_tightest [.tup (rs3.map rowP), .str "j", .str ""] M = .ok (.int 2) M := tight (u := 2) (o := 0) (by decide) (by decide) (by decide +kernel) (by decide +kernel) M
theorem t2 (M : Mem) : F_tightest [.tup (rs3.map rowP), .str "", .str "i"] M = .ok (.int (-1)) M := tight (u := 0) (o := 1) (by decide) (by decide) (by decide +kernel) (by decide +kernel) M
theorem t3 (M : Mem) : F_tightest [.tup (rs3.map rowP), .str "i", .str ""] M = .ok (.int 4) M := tight (u := 1) (o := 0) (by decide) (by decide) (by decide +kernel) (by decide +kernel) M
theorem ring4 (M : Mem) : ∃ qs, F_ring [.tup (rs4.map rowP)] M = .ok (.tup qs) M := by
  rcases ring_spec rs4 ok4 M with ⟨z, _⟩ | ⟨_, u, p, _, _, _, _, _, e⟩
  · rw [fl4] at z; cases z
  · exact ⟨_, e⟩
theorem ring0 (M : Mem) : F_ring [.tup []] M = .ok .non M := by
  rcases ring_spec [] ok0 M with ⟨_, e⟩ | ⟨z, _⟩
  · exact e
  · rw [fl0] at z; cases z
theorem fit0 (M : Mem) : F_fitting [.tup []] M = .ok (.loc M.length) (M ++ [.dct [(.str "", .int 0)]]) := by
  rcases fitting_spec [] ok0 M with ⟨z, _⟩ | ⟨_, ks, _, kc, _, e⟩
  · rw [fl0] at z; cases z
  · have : ks = [0] := by rw [kc]; decide +kernel
    subst this
    exact e
theorem one_dict (ρ : Rho) (M : Mem) : eDict (pCons (eC (.str "")) (eC (.int 0)) pNil) ρ M = .ok (.loc M.length) (M ++ [.dct [(.str "", .int 0)]]) := by
  unfold eDict pCons pNil
  simp only [x_C, b_ok]
  have hg : (M ++ [MO.dct []])[M.length]? = some (.dct []) := by simp
  rw [hg]
  dsimp only
  have ha : addAll [] [(P.str "", P.int 0)] = some [(.str "", .int 0)] := rfl
  rw [ha]
  simp
end Hd
end
section
set_option linter.all false
set_option maxRecDepth 100000
set_option maxHeartbeats 1000000
namespace Hd
open PySem PySem.Spec PyProof.Rows L2 TV
theorem law_spec (ns : List Int) : ∃ M', F_law [.loc 0] [.scr ns] = .ok (.bl true) M' := by
  let n : Int := if (if (ns.length : Int) < 3 then (ns.length : Int) else 3) > 1 then (if (ns.length : Int) < 3 then (ns.length : Int) else 3) else 1
  have n4 : 0 ≤ n ∧ n ≤ 3 := by
    show 0 ≤ (if (if (ns.length : Int) < 3 then (ns.length : Int) else 3) > 1 then (if (ns.length : Int) < 3 then (ns.length : Int) else 3) else 1) ∧ (if (if (ns.length : Int) < 3 then (ns.length : Int) else 3) > 1 then (if (ns.length : Int) < 3 then (ns.length : Int) else 3) else 1) ≤ 3
    by_cases c : (ns.length : Int) < 3
    · simp only [if_pos c]
      split <;> omega
    · simp only [if_neg c]
      split <;> omega
  have hup : upto 0 n.toNat = (List.range n.toNat).map fun (i : Nat) => P.int ((i : Nat) : Int) := by
    unfold upto
    apply List.map_congr_left
    intro i _
    rw [Int.zero_add]
  obtain ⟨M1, y1, y2, y3, g1, e1⟩ := cases_loop (ns := ns) (List.range n.toNat) [.scr ns] none none none rfl (fun i hi => by have := List.mem_range.mp hi; omega)
  rw [← hup] at e1
  have ln : pLen [.loc 0] [.scr ns] = .ok (.int (ns.length : Nat)) [.scr ns] := rfl
  have mn : pMin2 [.int 3, .int (ns.length : Nat)] [.scr ns] = .ok (.int (if (ns.length : Int) < 3 then (ns.length : Int) else 3)) [.scr ns] := rfl
  have mx : ∀ i : Int, pMax2 [.int 1, .int i] [.scr ns] = .ok (.int (if i > 1 then i else 1)) [.scr ns] := fun _ => rfl
  have it : iArgs rng1 (aCons (eArgs pMax2 (aCons (eC (.int 1)) (aCons (eArgs pMin2 (aCons (eC (.int 3)) (aCons (eArgs pLen (aCons (eVar 0) aNil)) aNil))) aNil))) aNil) [some (.loc 0), none, none, none, none] [.scr ns] = .ok ⟨upto 0 n.toNat, fun _ => true⟩ [.scr ns] := by
    unfold iArgs
    rw [x_cons, x_args, x_cons, x_C, b_ok, x_cons, x_args, x_cons, x_C, b_ok, x_cons, x_args, x_cons, x_v0, b_ok, x_nil, b_ok, b_ok, ln, b_ok, x_nil, b_ok, b_ok, b_ok, mn, b_ok, x_nil, b_ok, b_ok, b_ok, mx, b_ok, x_nil, b_ok, b_ok]
    exact rng_one n (by constructor <;> omega) _
  have fin1 : ∃ M2, m_law [some (.loc 0), none, none, none, none] [.scr ns] = .ret (.bl true) M2 ∧ Kept [.scr ns] M2 := by
    let M2 : Mem := M1 ++ [.dct [(.str "", .int 0)]]
    let M3 : Mem := M2 ++ [.dct [(.str "", .int 0)]]
    refine ⟨M3, ?_, ?_⟩
    · unfold m_law
      have e1 : loopF (fun _ => true) (TV.gName 1) caseBody (upto 0 n.toNat) [some (.loc 0), none, none, none, none] [.scr ns] = _ := e1
      rw [z_seq, z_for, it, s_ok]
      dsimp only
      rw [e1, t_next, z_seq]
      have w1 : ∀ M, sAsg (eArgs gTuple (aCons (eArgs gTuple (aCons (eC (.str "i")) (aCons (eC (.str "")) (aCons (eC (.int 4)) aNil)))) (aCons (eArgs gTuple (aCons (eC (.str "j")) (aCons (eC (.str "i")) (aCons (eUn pNeg (eC (.int 2))) aNil)))) (aCons (eArgs gTuple (aCons (eC (.str "")) (aCons (eC (.str "j")) (aCons (eC (.int 1)) aNil)))) aNil)))) (TV.gName 4) [some (.loc 0), y1, y2, y3, none] M = .next [some (.loc 0), y1, y2, y3, some (.tup (rs3.map rowP))] M := fun M => rfl
      have ng1 : ∀ M, pNeg (.int 1) M = .ok (.int (-1)) M := fun _ => rfl
      have ng5 : ∀ M, pNeg (.int 5) M = .ok (.int (-5)) M := fun _ => rfl
      have g3 : ∀ M, gTuple [.str "", .str "i", .int (-5)] M = .ok (rowP (0, 1, -5)) M := fun _ => rfl
      have ga : ∀ M, gTuple [rowP (0, 1, -5)] M = .ok (.tup [rowP (0, 1, -5)]) M := fun _ => rfl
      have t0 : ∀ M, gTuple [] M = .ok (.tup []) M := fun _ => rfl
      have ad : pAdd (.tup (rs3.map rowP)) (.tup [rowP (0, 1, -5)]) M1 = .ok (.tup (rs4.map rowP)) M1 := add_row (rs := rs3) (0, 1, -5) (by decide)
      obtain ⟨qs, er⟩ := ring4 M1
      have isn : pIs true (.tup qs) .non M1 = .ok (.bl true) M1 := rfl
      have eqd : pEqDict (.loc M1.length) (.loc M2.length) M3 = .ok (.bl true) M3 := by
        unfold pEqDict
        have q1 : M3[M1.length]? = some (.dct [(.str "", .int 0)]) := by simp [M3, M2]
        have q2 : M3[M2.length]? = some (.dct [(.str "", .int 0)]) := by simp [M3]
        dsimp only
        rw [q1, q2]
        dsimp only
        rw [if_pos ⟨rfl, rfl⟩]
      rw [w1, t_next, z_seq, z_if, x_tor, x_val, x_op, x_args, x_cons, x_v4, b_ok, x_cons, x_C, b_ok, x_cons, x_C, b_ok, x_nil, b_ok, b_ok, b_ok, b_ok, t1, b_ok, x_C, b_ok, ne_int0 _ _ rfl, b_ok, cVal_bl, b_ok, if_neg (by simp), x_tor, x_val, x_op, x_args, x_cons, x_v4, b_ok, x_cons, x_C, b_ok, x_cons, x_C, b_ok, x_nil, b_ok, b_ok, b_ok, b_ok, t2, b_ok, x_un, x_C, b_ok, ng1, b_ok, ne_int0 _ _ rfl, b_ok, cVal_bl, b_ok, if_neg (by simp), x_val, x_op, x_args, x_cons, x_v4, b_ok, x_cons, x_C, b_ok, x_cons, x_C, b_ok, x_nil, b_ok, b_ok, b_ok, b_ok, t3, b_ok, x_C, b_ok, ne_int0 _ _ rfl, b_ok, cVal_bl, s_ok, if_neg (by simp), z_next, t_next]
      rw [z_ret, x_and, x_op, x_args, x_cons, x_op, x_v4, b_ok, x_args, x_cons, x_args, x_cons, x_C, b_ok, x_cons, x_C, b_ok, x_cons, x_un, x_C, b_ok, ng5, b_ok, x_nil, b_ok, b_ok, b_ok, b_ok, g3, b_ok, x_nil, b_ok, b_ok, ga, b_ok, ad, b_ok, x_nil, b_ok, b_ok, er, b_ok, x_C, b_ok, isn, b_ok, cAnd_bl, if_pos rfl]
      rw [x_and, x_op, x_args, x_cons, x_args, x_nil, b_ok, t0, b_ok, x_nil, b_ok, b_ok, fit0, b_ok, one_dict, b_ok]
      show bindS (Res.bind (pEqDict (.loc M1.length) (.loc M2.length) M3) _) _ _ = _
      rw [eqd, b_ok, cAnd_bl, if_pos rfl, x_op, x_args, x_cons, x_args, x_nil, b_ok, t0, b_ok, x_nil, b_ok, b_ok, ring0, b_ok, x_C, b_ok, is_true_non, s_ok]
    · have h0 : 0 < M1.length := (List.getElem?_eq_some_iff.mp g1).1
      refine ⟨by simp [M3, M2], fun l hl => .inl ?_⟩
      have : l = 0 := by simpa using hl
      subst this
      show (M1 ++ [MO.dct [(.str "", .int 0)]] ++ [MO.dct [(.str "", .int 0)]])[0]? = _
      simp only [List.append_assoc]
      rw [List.getElem?_append_left h0, g1]
      rfl
  obtain ⟨M2, e2, kp⟩ := fin1
  unfold F_law mkF
  rw [if_pos (show [P.loc 0].length = 1 from rfl)]
  have hst : startR 5 [P.loc 0] = [some (.loc 0), none, none, none, none] := rfl
  rw [hst, e2, f_ret]
  exact ⟨_, gc_kept kp (fun k hk => by simp [P.locs] at hk)⟩
end Hd
end
set_option linter.all false
set_option maxRecDepth 100000
set_option maxHeartbeats 0
namespace Hd
open PySem PySem.Spec PyProof.Rows L2 TV
theorem run (w : World) : HandSHeadRun.RunEq R (PySem.W.view R.prog [47]) hk ob 4000 loose w := by
  intro os
  kernel_rfl
theorem facts {K : PySem.W.Frag} {h : Heap} {mg : Str → Option Value} (X : K.In h) (G : h.Ns mainGlobals mg) (c : He.SaysD fa fn K) : Fs K mg := by
  constructor
  · exact c.def_ 0 (d := d_is_integer) rfl
  · exact He.glo_ok X G (c.fact 0 (f := .glo "is_integer") rfl)
  · exact c.def_ 1 (d := d_is_name) rfl
  · exact He.glo_ok X G (c.fact 1 (f := .glo "is_name") rfl)
  · exact c.def_ 2 (d := d_is_new) rfl
  · exact He.glo_ok X G (c.fact 2 (f := .glo "is_new") rfl)
  · exact c.def_ 3 (d := d_is_place) rfl
  · exact He.glo_ok X G (c.fact 3 (f := .glo "is_place") rfl)
  · exact c.def_ 4 (d := d_is_point) rfl
  · exact He.glo_ok X G (c.fact 4 (f := .glo "is_point") rfl)
  · exact c.def_ 5 (d := d_is_difference) rfl
  · exact He.glo_ok X G (c.fact 5 (f := .glo "is_difference") rfl)
  · exact c.def_ 6 (d := d_require_differences) rfl
  · exact He.glo_ok X G (c.fact 6 (f := .glo "require_differences") rfl)
  · exact c.def_ 7 (d := d_require_point) rfl
  · exact He.glo_ok X G (c.fact 7 (f := .glo "require_point") rfl)
  · exact c.def_ 8 (d := d_points_of) rfl
  · exact He.glo_ok X G (c.fact 8 (f := .glo "points_of") rfl)
  · exact c.def_ 9 (d := d_improved) rfl
  · exact He.glo_ok X G (c.fact 9 (f := .glo "improved") rfl)
  · exact c.def_ 10 (d := d_settled) rfl
  · exact He.glo_ok X G (c.fact 10 (f := .glo "settled") rfl)
  · exact c.def_ 11 (d := d_ring_in) rfl
  · exact He.glo_ok X G (c.fact 11 (f := .glo "ring_in") rfl)
  · exact c.def_ 12 (d := d_ring_of) rfl
  · exact He.glo_ok X G (c.fact 12 (f := .glo "ring_of") rfl)
  · exact c.def_ 13 (d := d_fitted) rfl
  · exact He.glo_ok X G (c.fact 13 (f := .glo "fitted") rfl)
  · exact c.def_ 14 (d := d_bound_of) rfl
  · exact He.glo_ok X G (c.fact 14 (f := .glo "bound_of") rfl)
  · exact c.def_ 15 (d := d_is_ring_of) rfl
  · exact He.glo_ok X G (c.fact 15 (f := .glo "is_ring_of") rfl)
  · exact c.def_ 16 (d := d_is_wide) rfl
  · exact He.glo_ok X G (c.fact 16 (f := .glo "is_wide") rfl)
  · exact c.def_ 17 (d := d_fitting) rfl
  · exact He.glo_ok X G (c.fact 17 (f := .glo "fitting") rfl)
  · exact c.def_ 18 (d := d_is_fitting) rfl
  · exact He.glo_ok X G (c.fact 18 (f := .glo "is_fitting") rfl)
  · exact c.def_ 19 (d := d_ring) rfl
  · exact He.glo_ok X G (c.fact 19 (f := .glo "ring") rfl)
  · exact c.def_ 20 (d := d_is_ring) rfl
  · exact He.glo_ok X G (c.fact 20 (f := .glo "is_ring") rfl)
  · exact c.def_ 21 (d := d_tightest) rfl
  · exact He.glo_ok X G (c.fact 21 (f := .glo "tightest") rfl)
  · exact c.def_ 22 (d := d_law_dice) rfl
  · exact He.glo_ok X G (c.fact 22 (f := .glo "_law_dice") rfl)
  · exact c.def_ 23 (d := d_law_roll) rfl
  · exact He.glo_ok X G (c.fact 23 (f := .glo "_law_roll") rfl)
  · exact c.def_ 24 (d := d_law_pick) rfl
  · exact He.glo_ok X G (c.fact 24 (f := .glo "_law_pick") rfl)
  · exact c.def_ 25 (d := d_law_points) rfl
  · exact He.glo_ok X G (c.fact 25 (f := .glo "_law_points") rfl)
  · exact c.def_ 26 (d := d_law_rows) rfl
  · exact He.glo_ok X G (c.fact 26 (f := .glo "_law_rows") rfl)
  · exact c.def_ 27 (d := d_law_ends) rfl
  · exact He.glo_ok X G (c.fact 27 (f := .glo "_law_ends") rfl)
  · exact c.def_ 28 (d := d_law_bounds) rfl
  · exact He.glo_ok X G (c.fact 28 (f := .glo "_law_bounds") rfl)
  · exact c.def_ 29 (d := d_law_is_order) rfl
  · exact He.glo_ok X G (c.fact 29 (f := .glo "_law_is_order") rfl)
  · exact c.def_ 30 (d := d_law_is_chain) rfl
  · exact He.glo_ok X G (c.fact 30 (f := .glo "_law_is_chain") rfl)
  · exact c.def_ 31 (d := d_law_bound) rfl
  · exact He.glo_ok X G (c.fact 31 (f := .glo "_law_bound") rfl)
  · exact c.def_ 32 (d := d_law_right) rfl
  · exact He.glo_ok X G (c.fact 32 (f := .glo "_law_right") rfl)
  · exact c.def_ 33 (d := d_law) rfl
  · exact He.glo_ok X G (c.fact 33 (f := .glo "law") rfl)
  · exact He.free_ok X G (c.fact 34 (f := .free "ValueError") rfl)
  · exact He.free_ok X G (c.fact 35 (f := .free "abs") rfl)
  · exact He.free_ok X G (c.fact 36 (f := .free "all") rfl)
  · exact He.free_ok X G (c.fact 37 (f := .free "bool") rfl)
  · exact He.free_ok X G (c.fact 38 (f := .free "dict") rfl)
  · exact He.free_ok X G (c.fact 39 (f := .free "enumerate") rfl)
  · exact He.free_ok X G (c.fact 40 (f := .free "int") rfl)
  · exact He.free_ok X G (c.fact 41 (f := .free "isinstance") rfl)
  · exact He.free_ok X G (c.fact 42 (f := .free "iter") rfl)
  · exact He.free_ok X G (c.fact 43 (f := .free "len") rfl)
  · exact He.free_ok X G (c.fact 44 (f := .free "list") rfl)
  · exact He.free_ok X G (c.fact 45 (f := .free "max") rfl)
  · exact He.free_ok X G (c.fact 46 (f := .free "min") rfl)
  · exact He.free_ok X G (c.fact 47 (f := .free "next") rfl)
  · exact He.free_ok X G (c.fact 48 (f := .free "range") rfl)
  · exact He.free_ok X G (c.fact 49 (f := .free "sorted") rfl)
  · exact He.free_ok X G (c.fact 50 (f := .free "str") rfl)
  · exact He.free_ok X G (c.fact 51 (f := .free "sum") rfl)
  · exact He.free_ok X G (c.fact 52 (f := .free "tuple") rfl)
  · exact He.int_ok X G (c.fact 53 (f := .int "MAX_NAME" (8)) rfl)
  · exact He.int_ok X G (c.fact 54 (f := .int "GREATEST" (1000000000000000000000000000000000000000000000000000000000000)) rfl)
  · exact He.str_ok X G (c.fact 55 (f := .str "LETTERS" "abcdefghijklmnopqrstuvwxyz") rfl)
  · exact He.int_ok X G (c.fact 56 (f := .int "MAX_DIFFERENCES" (60)) rfl)
  · exact He.str_ok X G (c.fact 57 (f := .str "ZERO" "") rfl)
  · exact He.str_ok X G (c.fact 58 (f := .str "NEW_MARK" "*") rfl)
  · exact He.str_ok X G (c.fact 59 (f := .str "DIGITS" "0123456789") rfl)
  · exact He.exc_ok (c.fact 61 (f := .exc "InvalidOperation") rfl)
  · exact He.glo_ok X G (c.fact 60 (f := .glo "InvalidOperation") rfl)
  · exact He.exc_ok (c.fact 63 (f := .exc "InvalidTerm") rfl)
  · exact He.glo_ok X G (c.fact 62 (f := .glo "InvalidTerm") rfl)
  · intro x b hx D hD
    unfold m_x_InvalidOperation at hx
    by_cases e0 : x = "InvalidOperation"
    · rw [if_pos e0] at hx
      cases hx
      subst e0
      have := hD.symm.trans (He.glo_ok X G (c.fact 60 (f := .glo "InvalidOperation") rfl))
      cases this
      exact He.exm_ok (c.fact 64 (f := .exm "InvalidOperation" "InvalidOperation" true) rfl)
    rw [if_neg e0] at hx
    by_cases e1 : x = "InvalidTerm"
    · rw [if_pos e1] at hx
      cases hx
      subst e1
      have := hD.symm.trans (He.glo_ok X G (c.fact 62 (f := .glo "InvalidTerm") rfl))
      cases this
      exact He.exm_ok (c.fact 65 (f := .exm "InvalidTerm" "InvalidOperation" false) rfl)
    rw [if_neg e1] at hx
    cases hx
theorem all_defs {P₀ : Program} {w : World} {K : PySem.W.Frag} {mg : Str → Option Value} {base : Heap} {fd : FuncData} (c : Fs K mg) (F : FnP K "law" s_law (He.ga K "law") fd) : FnT P₀ w K mg base 9 (He.ga K "law") fd ["_law_script"] F_law := by
  have a_is_integer := h_is_integer (P₀ := P₀) (w := w) (base := base) c
  have a_is_name := h_is_name (P₀ := P₀) (w := w) (base := base) c
  have a_is_new := h_is_new (P₀ := P₀) (w := w) (base := base) c
  have a_points_of := h_points_of (P₀ := P₀) (w := w) (base := base) c
  have a_improved := h_improved (P₀ := P₀) (w := w) (base := base) c
  have a_ring_in := h_ring_in (P₀ := P₀) (w := w) (base := base) c
  have a_is_wide := h_is_wide (P₀ := P₀) (w := w) (base := base) c
  have a_law_dice := h_law_dice (P₀ := P₀) (w := w) (base := base) c
  have a_law_roll := h_law_roll (P₀ := P₀) (w := w) (base := base) c
  have a_law_points := h_law_points (P₀ := P₀) (w := w) (base := base) c
  have a_law_ends := h_law_ends (P₀ := P₀) (w := w) (base := base) c
  have a_law_is_order := h_law_is_order (P₀ := P₀) (w := w) (base := base) c
  have a_law_is_chain := h_law_is_chain (P₀ := P₀) (w := w) (base := base) c
  have a_is_place := h_is_place (P₀ := P₀) (w := w) (base := base) c a_is_name a_is_new
  have a_settled := h_settled (P₀ := P₀) (w := w) (base := base) c a_improved a_points_of
  have a_is_ring_of := h_is_ring_of (P₀ := P₀) (w := w) (base := base) c a_is_integer
  have a_law_pick := h_law_pick (P₀ := P₀) (w := w) (base := base) c a_law_roll
  have a_law_bounds := h_law_bounds (P₀ := P₀) (w := w) (base := base) c a_law_ends
  have a_is_point := h_is_point (P₀ := P₀) (w := w) (base := base) c a_is_integer a_is_name a_is_place
  have a_ring_of := h_ring_of (P₀ := P₀) (w := w) (base := base) c a_points_of a_ring_in a_settled
  have a_fitted := h_fitted (P₀ := P₀) (w := w) (base := base) c a_points_of a_settled
  have a_bound_of := h_bound_of (P₀ := P₀) (w := w) (base := base) c a_settled
  have a_law_rows := h_law_rows (P₀ := P₀) (w := w) (base := base) c a_law_pick a_law_points a_law_roll
  have a_is_difference := h_is_difference (P₀ := P₀) (w := w) (base := base) c a_is_integer a_is_point
  have a_require_point := h_require_point (P₀ := P₀) (w := w) (base := base) c a_is_point
  have a_require_differences := h_require_differences (P₀ := P₀) (w := w) (base := base) c a_is_difference
  have a_fitting := h_fitting (P₀ := P₀) (w := w) (base := base) c a_fitted a_require_differences
  have a_is_fitting := h_is_fitting (P₀ := P₀) (w := w) (base := base) c a_is_point a_is_wide a_points_of a_require_differences
  have a_ring := h_ring (P₀ := P₀) (w := w) (base := base) c a_require_differences a_ring_of
  have a_is_ring := h_is_ring (P₀ := P₀) (w := w) (base := base) c a_is_ring_of a_require_differences
  have a_tightest := h_tightest (P₀ := P₀) (w := w) (base := base) c a_bound_of a_fitted a_require_differences a_require_point
  have a_law_bound := h_law_bound (P₀ := P₀) (w := w) (base := base) c a_tightest
  have a_law_right := h_law_right (P₀ := P₀) (w := w) (base := base) c a_law_bound a_law_bounds a_law_ends a_law_is_chain a_law_is_order a_law_pick a_law_rows a_fitting a_is_fitting a_is_ring a_ring
  exact t_law c F a_law_dice a_law_right a_fitting a_ring a_tightest
end Hd
open PySem PySem.W PySem.Calls PyProof.Rows
theorem PySem.Challenge.cw_forkcells_k09_whole_rings_or_numbers_holds : PySem.Challenge.rw_forkcells_k09_whole_rings_or_numbers.Holds := by
  w_on; o_law
  refine HandSHeadRun.head_any (r := OpenLaw.row PySem.Challenge.rw_forkcells_k09_whole_rings_or_numbers) (q := view (OpenLaw.row PySem.Challenge.rw_forkcells_k09_whole_rings_or_numbers).prog [47]) (H := Hd.hk) (ob := Hd.ob) (M := 4000) (loose := Hd.loose) (d := HandSHeadRun.topDef (OpenLaw.row PySem.Challenge.rw_forkcells_k09_whole_rings_or_numbers).prog 47) (kwd := []) Hd.ob_eq
    (by kernel_rfl) (fun s => by kernel_rfl) Hd.run (by kernel_rfl) (by kernel_rfl) (by kernel_rfl) (by rfl) (by first | assumption | decide +kernel) (by decide +kernel) ⟨rfl, rfl, rfl, rfl, rfl, by decide +kernel⟩ ?hw ?hc
  case hw => w_witness2
  case hc =>
    refine TV.walk_t (l := PySem.Challenge.rw_forkcells_k09_whole_rings_or_numbers) (n := 63) (k := 9) (x := "_law_script") rfl (by decide) (by kernel_rfl) ⟨rfl, by decide, by decide⟩ ?F
    intro w mg fa h Y G hmg0
    obtain ⟨K, KX, c⟩ := Y
    have hmg : mg ("law" : PySem.Str) = some (.ref fa) := by
      have e : (HandSHeadRun.topDef (OpenLaw.row PySem.Challenge.rw_forkcells_k09_whole_rings_or_numbers).prog 47).name = ("law" : PySem.Str) := by kernel_rfl
      rw [← e]
      exact hmg0
    have fs := Hd.facts KX G c
    have e := hmg.symm.trans fs.g_law
    cases e
    obtain ⟨fd, F⟩ := fs.f_law
    have b := L2.FunD.bindsA (ps := ["_law_script"]) F fun _ _ _ _ _ _ us hl => match us, hl with | [_], _ => rfl
    refine ⟨K, fd, Hd.F_law, KX, fun s v => b s [v] rfl, fun ns _ _ => Hd.law_spec ns, fun base _ _ => ?_⟩
    exact Hd.all_defs fs F
