import PyProof.Rows.All
import Wide.All
import OpenK.AllK
import Wide.FinOn
import HandS.ForMost
import HandS.Walk
import HandS.TupAny
import HandS.IsInst
import HandS.Wide
import HandS.Deep
import HandS.Zip
import HandS.Conv
import HandS.Style
import HandS.SetFor
import HandS.SortInts
import HandS.Strs
import KE.SortData
import HandS.ListItems
import KE.KDictZip
import KE.KDictItemsList
import KE.DataMinMax
import KE.KTupSum
import KE.GoesMore
import HandS.TupMul
import KE.SortKeyHeap
import HandS.SortKw
import HandS.Keys
import HandS.Iter
import HandS.Small
import PyProof.Rows.TupDisplay
import PySem.Challenge.RW_thingsapart_k29_whole_open_ones
set_option Elab.async false
set_option linter.all false
set_option maxRecDepth 100000
/-! Plain data of the program, and how they lie in the abstract heap. -/
namespace Mi
open PySem PySem.Spec
open PyProof.Rows hiding St
open L2

/-- plain data; a dict tells whether its keys are tuples -/
inductive D where
  | non | bl (b : Bool) | int (i : Int) | str (x : Str) | tup (xs : List D) | lst (xs : List D) | dic (t : Bool) (kvs : List (D × D)) | scr (ns : List Int) | kt (xs : List D)

mutual
def D.py : D → PyData
  | .non => .none
  | .bl b => .bool b
  | .int i => .int i
  | .str x => .str x
  | .tup xs => .tuple (D.pyAll xs)
  | .lst xs => .list (D.pyAll xs)
  | .dic _ _ => .dict []
  | .scr _ => .dict []
  | .kt xs => .tuple (D.pyAll xs)
def D.pyAll : List D → List PyData
  | [] => []
  | x :: xs => x.py :: D.pyAll xs
end
theorem D.pyAll_eq : ∀ xs : List D, D.pyAll xs = xs.map D.py
  | [] => rfl
  | x :: xs => by rw [D.pyAll, D.pyAll_eq xs]; rfl

mutual
/-- nothing that can change -/
def D.im : D → Bool
  | .lst _ => false
  | .dic _ _ => false
  | .scr _ => false
  | .kt xs => D.imAll xs
  | .tup xs => D.imAll xs
  | _ => true
def D.imAll : List D → Bool
  | [] => true
  | x :: xs => x.im && D.imAll xs
end
mutual
/-- no dict within -/
def D.nd : D → Bool
  | .dic _ _ => false
  | .scr _ => false
  | .kt xs => D.ndAll xs
  | .tup xs => D.ndAll xs
  | .lst xs => D.ndAll xs
  | _ => true
def D.ndAll : List D → Bool
  | [] => true
  | x :: xs => x.nd && D.ndAll xs
end
mutual
theorem D.nd_im : ∀ d : D, d.im = true → d.nd = true
  | .non, _ => rfl
  | .bl _, _ => rfl
  | .int _, _ => rfl
  | .str _, _ => rfl
  | .tup xs, h => D.ndAll_im xs (by simpa only [D.im] using h)
  | .lst _, h => by simp [D.im] at h
  | .dic _ _, h => by simp [D.im] at h
  | .scr _, h => by simp [D.im] at h
  | .kt xs, h => D.ndAll_im xs (by simpa only [D.im] using h)
theorem D.ndAll_im : ∀ ds : List D, D.imAll ds = true → D.ndAll ds = true
  | [], _ => rfl
  | x :: xs, h => by
    simp only [D.imAll, Bool.and_eq_true] at h
    simp only [D.ndAll, Bool.and_eq_true]
    exact ⟨D.nd_im x h.1, D.ndAll_im xs h.2⟩
end

def keyD : Key → D
  | .inl i => .int i
  | .inr x => .str x

/-- a tuple of the module -/
def KTup (K : PySem.W.Frag) (a : Addr) (xs : List V) : Prop := ∃ (o : Obj) (its : Array Value) (n : Nat), K.lookup a = some o ∧ o.cls = .type "tuple" ∧ o.data = .seq its n ∧ its.size ≤ sizeLine ∧ Vals xs its.toList
mutual
inductive Rep (K : PySem.W.Frag) (H : Hp) (A : Addr → Prop) : V → D → Prop
  | non : Rep K H A .non .non
  | bl (b : Bool) : Rep K H A (.bl b) (.bl b)
  | int (i : Int) : Rep K H A (.int i) (.int i)
  | str (x : Str) : Rep K H A (.str x) (.str x)
  | tup {a : Addr} {xs : List V} {ds : List D} : H a = some (.tup xs) → RepAll K H A xs ds → Rep K H A (.ref a) (.tup ds)
  | lst {a : Addr} {xs : List V} {ds : List D} : H a = some (.lst xs) → ¬ A a → RepAll K H A xs ds → Rep K H A (.ref a) (.lst ds)
  | dk {a : Addr} {kvs : List (Key × V)} {ds : List (D × D)} : Rd H a (.dK kvs) → ¬ A a → RepK K H A kvs ds → Rep K H A (.ref a) (.dic false ds)
  | dt {a : Addr} {kvs : List (List Key × V)} {ds : List (D × D)} : Rd H a (.dT kvs) → ¬ A a → RepT K H A kvs ds → Rep K H A (.ref a) (.dic true ds)
  | kt {a : Addr} {xs : List V} {ds : List D} : KTup K a xs → RepAll K H A xs ds → Rep K H A (.ref a) (.kt ds)
  | scr {a : Addr} {ns : List Int} : ((∃ o, H a = some (.frz o (.lst (ns.map V.int)))) ∨ ∃ (o : Obj) (its : Array Value) (n : Nat), K.lookup a = some o ∧ o.cls = .type "list" ∧ o.dict = none ∧ o.data = .seq its n ∧ its.size ≤ sizeLine ∧ Vals (ns.map V.int) its.toList) → Rep K H A (.ref a) (.scr ns)
inductive RepAll (K : PySem.W.Frag) (H : Hp) (A : Addr → Prop) : List V → List D → Prop
  | nil : RepAll K H A [] []
  | cons {v : V} {vs : List V} {d : D} {ds : List D} : Rep K H A v d → RepAll K H A vs ds → RepAll K H A (v :: vs) (d :: ds)
inductive RepK (K : PySem.W.Frag) (H : Hp) (A : Addr → Prop) : List (Key × V) → List (D × D) → Prop
  | nil : RepK K H A [] []
  | cons {k : Key} {v : V} {vs : List (Key × V)} {d : D} {ds : List (D × D)} : Rep K H A v d → RepK K H A vs ds → RepK K H A ((k, v) :: vs) ((keyD k, d) :: ds)
inductive RepT (K : PySem.W.Frag) (H : Hp) (A : Addr → Prop) : List (List Key × V) → List (D × D) → Prop
  | nil : RepT K H A [] []
  | cons {k : List Key} {v : V} {vs : List (List Key × V)} {d : D} {ds : List (D × D)} : Rep K H A v d → RepT K H A vs ds → RepT K H A ((k, v) :: vs) ((.tup (k.map keyD), d) :: ds)
end

def tupO : HO → Bool
  | .tup _ => true
  | .frz _ (.lst _) => true
  | _ => false

section
variable {K : PySem.W.Frag} {H H' : Hp} {A A' : Addr → Prop}

theorem Rd.mono {a : Addr} {u : HO} (k : ∀ o, H a = some o → H' a = some o) (h : Rd H a u) : Rd H' a u := by
  rcases h with h | ⟨o, h⟩
  · exact .inl (k _ h)
  · exact .inr ⟨o, k _ h⟩
theorem Rd.isS {a : Addr} {u : HO} (h : Rd H a u) : H a ≠ none := by
  rcases h with h | ⟨o, h⟩ <;> rw [h] <;> simp

/-- how a heap may go on under what is known of data -/
structure Goes (H H' : Hp) (A A' : Addr → Prop) : Prop where
  tups : ∀ b o, H b = some o → tupO o = true → H' b = some o
  keep : ∀ b o, H b = some o → ¬ A b → H' b = some o
  av : ∀ b, A' b → H b ≠ none → A b

mutual
theorem Rep.go (g : Goes H H' A A') : ∀ {v : V} {d : D}, Rep K H A v d → Rep K H' A' v d
  | _, _, .non => .non
  | _, _, .bl b => .bl b
  | _, _, .int i => .int i
  | _, _, .str x => .str x
  | _, _, .tup h r => .tup (g.tups _ _ h rfl) (RepAll.go g r)
  | _, _, .kt h r => .kt h (RepAll.go g r)
  | _, _, .lst h n r => .lst (g.keep _ _ h n) (fun z => n (g.av _ z (by rw [h]; simp))) (RepAll.go g r)
  | _, _, .dk h n r => .dk (Rd.mono (fun o e => g.keep _ o e n) h) (fun z => n (g.av _ z (Rd.isS h))) (RepK.go g r)
  | _, _, .dt h n r => .dt (Rd.mono (fun o e => g.keep _ o e n) h) (fun z => n (g.av _ z (Rd.isS h))) (RepT.go g r)
  | _, _, .scr h => .scr (h.elim (fun ⟨o, e⟩ => .inl ⟨o, g.tups _ _ e rfl⟩) .inr)
theorem RepAll.go (g : Goes H H' A A') : ∀ {v : List V} {d : List D}, RepAll K H A v d → RepAll K H' A' v d
  | _, _, .nil => .nil
  | _, _, .cons h r => .cons (Rep.go g h) (RepAll.go g r)
theorem RepK.go (g : Goes H H' A A') : ∀ {v : List (Key × V)} {d : List (D × D)}, RepK K H A v d → RepK K H' A' v d
  | _, _, .nil => .nil
  | _, _, .cons h r => .cons (Rep.go g h) (RepK.go g r)
theorem RepT.go (g : Goes H H' A A') : ∀ {v : List (List Key × V)} {d : List (D × D)}, RepT K H A v d → RepT K H' A' v d
  | _, _, .nil => .nil
  | _, _, .cons h r => .cons (Rep.go g h) (RepT.go g r)
end
mutual
/-- what can't change may be avoided or not -/
theorem Rep.any (g : ∀ b o, H b = some o → tupO o = true → H' b = some o) : ∀ {v : V} {d : D}, d.im = true → Rep K H A v d → Rep K H' A' v d
  | _, _, _, .non => .non
  | _, _, _, .bl b => .bl b
  | _, _, _, .int i => .int i
  | _, _, _, .str x => .str x
  | _, _, h, .tup s r => .tup (g _ _ s rfl) (RepAll.any g (by simpa only [D.im] using h) r)
  | _, _, h, .kt s r => .kt s (RepAll.any g (by simpa only [D.im] using h) r)
  | _, _, h, .lst _ _ _ => by simp [D.im] at h
  | _, _, h, .dk _ _ _ => by simp [D.im] at h
  | _, _, h, .dt _ _ _ => by simp [D.im] at h
  | _, _, h, .scr _ => by simp [D.im] at h
theorem RepAll.any (g : ∀ b o, H b = some o → tupO o = true → H' b = some o) : ∀ {v : List V} {d : List D}, D.imAll d = true → RepAll K H A v d → RepAll K H' A' v d
  | _, _, _, .nil => .nil
  | _, _, h, .cons s r => by
    simp only [D.imAll, Bool.and_eq_true] at h
    exact .cons (Rep.any g h.1 s) (RepAll.any g h.2 r)
end

theorem RepAll.length {vs : List V} {ds : List D} : RepAll K H A vs ds → vs.length = ds.length
  | .nil => rfl
  | .cons _ r => by simp [RepAll.length r]
theorem RepAll.get : ∀ {vs : List V} {ds : List D} {i : Nat} {d : D}, RepAll K H A vs ds → ds[i]? = some d → ∃ v, vs[i]? = some v ∧ Rep K H A v d
  | _, _, _, _, .nil, e => by simp at e
  | _, _, 0, _, .cons h _, e => by simp at e; subst e; exact ⟨_, rfl, h⟩
  | _, _, i + 1, d, .cons _ r, e => by
    obtain ⟨v, h1, h2⟩ := RepAll.get (i := i) (d := d) r (by simpa using e)
    exact ⟨v, by simpa using h1, h2⟩
theorem RepAll.getV : ∀ {vs : List V} {ds : List D} {i : Nat} {v : V}, RepAll K H A vs ds → vs[i]? = some v → ∃ d, ds[i]? = some d ∧ Rep K H A v d
  | _, _, _, _, .nil, e => by simp at e
  | _, _, 0, _, .cons h _, e => by simp at e; subst e; exact ⟨_, rfl, h⟩
  | _, _, i + 1, v, .cons _ r, e => by
    obtain ⟨d, h1, h2⟩ := RepAll.getV (i := i) (v := v) r (by simpa using e)
    exact ⟨d, by simpa using h1, h2⟩
theorem RepAll.append : ∀ {xs ys : List V} {ds es : List D}, RepAll K H A xs ds → RepAll K H A ys es → RepAll K H A (xs ++ ys) (ds ++ es)
  | _, _, _, _, .nil, s => s
  | _, _, _, _, .cons h r, s => .cons h (RepAll.append r s)
theorem RepAll.take : ∀ {xs : List V} {ds : List D} (n : Nat), RepAll K H A xs ds → RepAll K H A (xs.take n) (ds.take n)
  | _, _, 0, _ => .nil
  | _, _, _ + 1, .nil => .nil
  | _, _, n + 1, .cons h r => .cons h (RepAll.take n r)
theorem RepAll.drop : ∀ {xs : List V} {ds : List D} (n : Nat), RepAll K H A xs ds → RepAll K H A (xs.drop n) (ds.drop n)
  | _, _, 0, r => r
  | _, _, _ + 1, .nil => .nil
  | _, _, n + 1, .cons _ r => RepAll.drop n r
theorem RepAll.set {v : V} {d : D} (h : Rep K H A v d) : ∀ {xs : List V} {ds : List D} (i : Nat), RepAll K H A xs ds → RepAll K H A (xs.set i v) (ds.set i d)
  | _, _, _, .nil => .nil
  | _, _, 0, .cons _ r => .cons h r
  | _, _, i + 1, .cons q r => .cons q (RepAll.set h i r)
theorem RepAll.eraseIdx : ∀ {xs : List V} {ds : List D} (i : Nat), RepAll K H A xs ds → RepAll K H A (xs.eraseIdx i) (ds.eraseIdx i)
  | _, _, _, .nil => .nil
  | _, _, 0, .cons _ r => r
  | _, _, i + 1, .cons q r => .cons q (RepAll.eraseIdx i r)
theorem RepAll.dropLast {xs : List V} {ds : List D} (r : RepAll K H A xs ds) : RepAll K H A xs.dropLast ds.dropLast := by
  rw [List.dropLast_eq_take, List.dropLast_eq_take, r.length]
  exact r.take _
theorem RepAll.reverse : ∀ {xs : List V} {ds : List D}, RepAll K H A xs ds → RepAll K H A xs.reverse ds.reverse
  | _, _, .nil => .nil
  | _, _, .cons h r => by
    rw [List.reverse_cons, List.reverse_cons]
    exact (RepAll.reverse r).append (.cons h .nil)
theorem RepAll.of_get : ∀ {xs : List V} {ds : List D}, xs.length = ds.length → (∀ (i : Nat) (x : V) (d : D), xs[i]? = some x → ds[i]? = some d → Rep K H A x d) → RepAll K H A xs ds
  | [], [], _, _ => .nil
  | [], _ :: _, h, _ => by simp at h
  | _ :: _, [], h, _ => by simp at h
  | x :: xs, d :: ds, h, g => .cons (g 0 x d rfl rfl) (RepAll.of_get (by simpa using h) fun i y e h1 h2 => g (i + 1) y e (by simpa using h1) (by simpa using h2))
theorem RepAll.ints (ns : List Int) : RepAll K H A (ns.map V.int) (ns.map D.int) := by
  induction ns with
  | nil => exact .nil
  | cons n ns ih => exact .cons (.int n) ih
theorem RepAll.ints_of : ∀ {xs : List V} {ns : List Int}, RepAll K H A xs (ns.map D.int) → xs = ns.map V.int
  | _, [], h => by cases h; rfl
  | _, n :: ns, h => by
    cases h with
    | cons h r =>
      cases h
      rw [RepAll.ints_of r]; rfl

mutual
theorem Rep.dp : ∀ {v : V} {d : D}, d.nd = true → Rep K H A v d → Dp K H v d.py
  | _, _, _, .non => .non
  | _, _, _, .bl b => .bl b
  | _, _, _, .int i => .int i
  | _, _, _, .str x => .str x
  | _, _, h, .tup s r => .tup (SqT.of s) (RepAll.dp (by simpa only [D.nd] using h) r)
  | _, _, h, .kt s r => .tup (.inr s) (RepAll.dp (by simpa only [D.nd] using h) r)
  | _, _, h, .lst s n r => .lst (SqL.of s) (RepAll.dp (by simpa only [D.nd] using h) r)
  | _, _, h, .dk _ _ _ => by simp [D.nd] at h
  | _, _, h, .dt _ _ _ => by simp [D.nd] at h
  | _, _, h, .scr _ => by simp [D.nd] at h
theorem RepAll.dp : ∀ {v : List V} {d : List D}, D.ndAll d = true → RepAll K H A v d → DpAll K H v (D.pyAll d)
  | _, _, _, .nil => .nil
  | _, _, h, .cons s r => by
    simp only [D.ndAll, Bool.and_eq_true] at h
    exact .cons (Rep.dp h.1 s) (RepAll.dp h.2 r)
end
end

/-- the items of a tuple -/
def D.asT : D → Option (List D)
  | .tup xs => some xs
  | .kt xs => some xs
  | _ => none
/-- == of Python -/
def eqD (a b : D) : Bool := PyData.eqv a.py b.py
/-- what == may be asked of -/
def D.okE (a : D) : Bool := a.nd && SeqAt.shaped a.py

/-! ### owned containers -/
inductive Own (K : PySem.W.Frag) (H : Hp) (A : Addr → Prop) : Bool → Addr → D → Prop
  | lst {l : Bool} {a : Addr} {xs : List V} {ds : List D} : H a = some (.lst xs) → RepAll K H A xs ds → Own K H A l a (.lst ds)
  | dk {a : Addr} {kvs : List (Key × V)} {ds : List (D × D)} : H a = some (.dK kvs) → RepK K H A kvs ds → Own K H A false a (.dic false ds)
  | dt {a : Addr} {kvs : List (List Key × V)} {ds : List (D × D)} : H a = some (.dT kvs) → RepT K H A kvs ds → Own K H A false a (.dic true ds)
  | dkl {a : Addr} {o : Obj} {kvs : List (Key × V)} {ds : List (D × D)} : H a = some (.frz o (.dK kvs)) → RepK K H A kvs ds → Own K H A true a (.dic false ds)
  | dtl {a : Addr} {o : Obj} {kvs : List (List Key × V)} {ds : List (D × D)} : H a = some (.frz o (.dT kvs)) → RepT K H A kvs ds → Own K H A true a (.dic true ds)
section
variable {K : PySem.W.Frag} {H H' : Hp} {A A' : Addr → Prop} {l : Bool} {a : Addr} {d : D}
theorem Own.there (h : Own K H A l a d) : ∃ o, H a = some o ∧ tupO o = false := by
  cases h with
  | lst e _ => exact ⟨_, e, rfl⟩
  | dk e _ => exact ⟨_, e, rfl⟩
  | dt e _ => exact ⟨_, e, rfl⟩
  | dkl e _ => exact ⟨_, e, rfl⟩
  | dtl e _ => exact ⟨_, e, rfl⟩
theorem Own.ne (h : Own K H A l a d) : H a ≠ none := by
  obtain ⟨o, e, _⟩ := h.there
  rw [e]; simp
theorem Own.go (g : Goes H H' A A') (k : ∀ o, H a = some o → H' a = some o) (h : Own K H A l a d) : Own K H' A' l a d := by
  cases h with
  | lst e r => exact .lst (k _ e) (r.go g)
  | dk e r => exact .dk (k _ e) (r.go g)
  | dt e r => exact .dt (k _ e) (r.go g)
  | dkl e r => exact .dkl (k _ e) (r.go g)
  | dtl e r => exact .dtl (k _ e) (r.go g)
/-- read as data, where it is not avoided -/
theorem Own.rep (h : Own K H A l a d) (av : ∀ b, A' b → H b ≠ none → A b) (n : ¬ A' a) : Rep K H A' (.ref a) d := by
  have g : Goes H H A A' := ⟨fun _ _ e _ => e, fun _ _ e _ => e, av⟩
  cases h with
  | lst e r => exact .lst e n (r.go g)
  | dk e r => exact .dk (.inl e) n (r.go g)
  | dt e r => exact .dt (.inl e) n (r.go g)
  | dkl e r => exact .dk (.inr ⟨_, e⟩) n (r.go g)
  | dtl e r => exact .dt (.inr ⟨_, e⟩) n (r.go g)
end
end Mi

/-! Slots, what is known between two steps, the judgements. -/
namespace Mi
open PySem PySem.Spec
open PyProof.Rows hiding St
open L2

/-- what a name holds: nothing, data, a container of its own (p: it is the caller's; l: a loop walks it) -/
inductive Slot where
  | un | fr (d : D) | ow (p l : Bool) (d : D)
abbrev En := List Slot
inductive Opd where
  | val (d : D) | new (d : D) | slot (i : Nat)
abbrev SE := En → Option (Opd × En)

def Owned (ρ : En) (σ : St) (a : Addr) : Prop := ∃ (i : Nat) (p l : Bool) (d : D), ρ[i]? = some (.ow p l d) ∧ σ[i]? = some (some (.ref a))
/-- .. and may write -/
def Wr (ρ : En) (σ : St) (a : Addr) : Prop := ∃ (i : Nat) (p : Bool) (d : D), ρ[i]? = some (.ow p false d) ∧ σ[i]? = some (some (.ref a))
theorem Wr.owned {ρ : En} {σ : St} {a : Addr} (h : Wr ρ σ a) : Owned ρ σ a := let ⟨i, p, d, e, s⟩ := h; ⟨i, p, false, d, e, s⟩
structure Fr where
  O : Addr → Prop
  pin : Nat → Option (Addr × Bool)
def Fr.add (G : Fr) (p : Addr) : Fr := ⟨fun a => G.O a ∨ a = p, G.pin⟩
def Av (G : Fr) (ρ : En) (σ : St) (a : Addr) : Prop := G.O a ∨ Owned ρ σ a

structure Rel (K : PySem.W.Frag) (G : Fr) (ρ : En) (σ : St) (H : Hp) : Prop where
  len : ρ.length = σ.length
  fr : ∀ (i : Nat) (d : D), ρ[i]? = some (.fr d) → ∃ v, σ[i]? = some (some v) ∧ Rep K H (Av G ρ σ) v d
  ow : ∀ (i : Nat) (p l : Bool) (d : D), ρ[i]? = some (.ow p l d) → ∃ a, σ[i]? = some (some (.ref a)) ∧ Own K H (Av G ρ σ) l a d
  inj : ∀ (i j : Nat) (p l : Bool) (d : D) (p' l' : Bool) (d' : D) (a : Addr), ρ[i]? = some (.ow p l d) → ρ[j]? = some (.ow p' l' d') → σ[i]? = some (some (.ref a)) → σ[j]? = some (some (.ref a)) → i = j
  pin : ∀ (i : Nat) (a : Addr) (p : Bool), G.pin i = some (a, p) → σ[i]? = some (some (.ref a)) ∧ ∃ l d, ρ[i]? = some (.ow p l d) ∧ (p || l) = true
  dom : ∀ a, G.O a → H a ≠ none
  dj : ∀ (i : Nat) (l : Bool) (d : D) (a : Addr), ρ[i]? = some (.ow false l d) → σ[i]? = some (some (.ref a)) → ¬ G.O a

/-- the same kinds of slots; what is locked stays -/
def sameK (ρ ρ' : En) : Prop := ρ'.length = ρ.length ∧ ∀ i : Nat, ρ'[i]? = ρ[i]? ∨ ∃ (p : Bool) (d d' : D), ρ[i]? = some (.ow p false d) ∧ ρ'[i]? = some (.ow p false d')
theorem sameK.refl (ρ : En) : sameK ρ ρ := ⟨rfl, fun _ => .inl rfl⟩
theorem sameK.trans {a b c : En} (h : sameK a b) (k : sameK b c) : sameK a c := by
  refine ⟨k.1.trans h.1, fun i => ?_⟩
  rcases h.2 i with e | ⟨p, d, d', e1, e2⟩
  · rcases k.2 i with e' | ⟨q, f, f', e3, e4⟩
    · exact .inl (e'.trans e)
    · exact .inr ⟨q, f, f', e.symm.trans e3, e4⟩
  · rcases k.2 i with e' | ⟨q, f, f', e3, e4⟩
    · exact .inr ⟨p, d, d', e1, e'.trans e2⟩
    · rw [e2] at e3
      cases e3
      exact .inr ⟨_, d, f', e1, e4⟩
theorem sameK.ow {ρ ρ' : En} (h : sameK ρ ρ') {i : Nat} {p l : Bool} {d : D} (e : ρ[i]? = some (.ow p l d)) : ∃ d', ρ'[i]? = some (.ow p l d') := by
  rcases h.2 i with e' | ⟨p', d', d2, e1, e2⟩
  · exact ⟨d, e'.trans e⟩
  · rw [e] at e1
    cases e1
    exact ⟨_, e2⟩
theorem sameK.wo {ρ ρ' : En} (h : sameK ρ ρ') {i : Nat} {p l : Bool} {d : D} (e : ρ'[i]? = some (.ow p l d)) : ∃ d', ρ[i]? = some (.ow p l d') := by
  rcases h.2 i with e' | ⟨p', d', d2, e1, e2⟩
  · exact ⟨d, e'.symm.trans e⟩
  · rw [e] at e2
    cases e2
    exact ⟨_, e1⟩
theorem sameK.fr {ρ ρ' : En} (h : sameK ρ ρ') {i : Nat} {d : D} (e : ρ'[i]? = some (.fr d)) : ρ[i]? = some (.fr d) := by
  rcases h.2 i with e' | ⟨p', d', d2, e1, e2⟩
  · exact e'.symm.trans e
  · rw [e] at e2; cases e2
theorem sameK.owned {ρ ρ' : En} {σ : St} (h : sameK ρ ρ') (a : Addr) : Owned ρ' σ a ↔ Owned ρ σ a := by
  constructor
  · rintro ⟨i, p, l, d, e, s⟩
    obtain ⟨d', e'⟩ := h.wo e
    exact ⟨i, p, l, d', e', s⟩
  · rintro ⟨i, p, l, d, e, s⟩
    obtain ⟨d', e'⟩ := h.ow e
    exact ⟨i, p, l, d', e', s⟩
theorem sameK.wr {ρ ρ' : En} {σ : St} (h : sameK ρ ρ') (a : Addr) : Wr ρ' σ a ↔ Wr ρ σ a := by
  constructor
  · rintro ⟨i, p, d, e, s⟩
    obtain ⟨d', e'⟩ := h.wo e
    exact ⟨i, p, d', e', s⟩
  · rintro ⟨i, p, d, e, s⟩
    obtain ⟨d', e'⟩ := h.ow e
    exact ⟨i, p, d', e', s⟩
theorem sameK.av {ρ ρ' : En} {σ : St} {G : Fr} (h : sameK ρ ρ') : Av G ρ' σ = Av G ρ σ := by
  funext a
  unfold Av
  rw [h.owned a]

/-- an expression's way: only what the names own may have changed -/
structure Step (ρ : En) (σ : St) (H : Hp) (ρ' : En) (H' : Hp) : Prop where
  sk : sameK ρ ρ'
  keep : ∀ b o, H b = some o → ¬ Wr ρ σ b → H' b = some o
theorem Step.refl (ρ : En) (σ : St) (H : Hp) : Step ρ σ H ρ H := ⟨sameK.refl _, fun _ _ e _ => e⟩
theorem Step.trans {ρ ρ1 ρ2 : En} {σ : St} {H H1 H2 : Hp} (a : Step ρ σ H ρ1 H1) (b : Step ρ1 σ H1 ρ2 H2) : Step ρ σ H ρ2 H2 :=
  ⟨a.sk.trans b.sk, fun c o e n => b.keep c o (a.keep c o e n) fun z => n ((a.sk.wr c).mp z)⟩

section
variable {K : PySem.W.Frag} {G : Fr} {ρ ρ' ρ1 ρ2 : En} {σ σ' : St} {H H' H1 H2 : Hp} {p a : Addr} {d : D} {v : V}
theorem Rel.owned (R : Rel K G ρ σ H) (h : Owned ρ σ a) : ∃ o, H a = some o ∧ tupO o = false := by
  obtain ⟨i, q, l, d, e, s⟩ := h
  obtain ⟨b, s', w⟩ := R.ow i q l d e
  rw [s] at s'
  cases s'
  exact w.there
theorem Rel.avd (R : Rel K G ρ σ H) (h : Av G ρ σ a) : H a ≠ none := by
  rcases h with h | h
  · exact R.dom a h
  · obtain ⟨o, e, _⟩ := R.owned h
    rw [e]; simp
/-- heaps that keep all but what is owned -/
theorem Rel.goes (R : Rel K G ρ σ H) (keep : ∀ b o, H b = some o → ¬ Wr ρ σ b → H' b = some o) {A : Addr → Prop} (av : ∀ b, A b → H b ≠ none → Av G ρ σ b) : Goes H H' (Av G ρ σ) A :=
  { tups := fun b o e t => keep b o e fun z => by
      obtain ⟨o', e', t'⟩ := R.owned z.owned
      rw [e] at e'; cases e'
      rw [t] at t'; cases t'
    keep := fun b o e n => keep b o e fun z => n (.inr z.owned)
    av := av }
theorem Rel.goesS (R : Rel K G ρ σ H) (S : Step ρ σ H ρ' H') : Goes H H' (Av G ρ σ) (Av G ρ' σ) := R.goes S.keep fun b h _ => by rw [← S.sk.av (G := G)]; exact h
/-- nothing written -/
theorem Rel.ext (R : Rel K G ρ σ H) (k : ∀ b o, H b = some o → H' b = some o) : Rel K G ρ σ H' := by
  have g : Goes H H' (Av G ρ σ) (Av G ρ σ) := ⟨fun b o e _ => k b o e, fun b o e _ => k b o e, fun _ h _ => h⟩
  refine ⟨R.len, fun i d e => ?_, fun i p l d e => ?_, R.inj, R.pin, fun a h => ?_, R.dj⟩
  · obtain ⟨v, s, r⟩ := R.fr i d e
    exact ⟨v, s, r.go g⟩
  · obtain ⟨a, s, r⟩ := R.ow i p l d e
    exact ⟨a, s, r.go g fun o e => k _ o e⟩
  · cases q : H a with
    | none => exact absurd q (R.dom a h)
    | some o => rw [k _ _ q]; simp
/-- a new address is avoided besides -/
theorem Rel.add (R : Rel K G ρ σ H) (hp : H p = none) (k : ∀ b o, H b = some o → H' b = some o) (hp' : H' p ≠ none) : Rel K (G.add p) ρ σ H' := by
  have av : ∀ b, Av (G.add p) ρ σ b → H b ≠ none → Av G ρ σ b := fun b h n => by
    rcases h with (h | rfl) | h
    · exact .inl h
    · exact absurd hp n
    · exact .inr h
  have g : Goes H H' (Av G ρ σ) (Av (G.add p) ρ σ) := ⟨fun b o e _ => k b o e, fun b o e _ => k b o e, av⟩
  refine ⟨R.len, fun i d e => ?_, fun i p l d e => ?_, R.inj, R.pin, fun a h => ?_, fun i l d a e1 e2 h => ?_⟩
  · obtain ⟨v, s, r⟩ := R.fr i d e
    exact ⟨v, s, r.go g⟩
  · obtain ⟨a, s, r⟩ := R.ow i p l d e
    exact ⟨a, s, r.go g fun o e => k _ o e⟩
  · rcases h with h | rfl
    · cases q : H a with
      | none => exact absurd q (R.dom a h)
      | some o => rw [k _ _ q]; simp
    · exact hp'
  · rcases h with h | rfl
    · exact R.dj i l d a e1 e2 h
    · obtain ⟨o, e, _⟩ := R.owned ⟨i, false, l, d, e1, e2⟩
      rw [hp] at e; cases e
/-- less is avoided -/
theorem Rel.less {O' : Addr → Prop} (R : Rel K G ρ σ H) (h : ∀ a, O' a → G.O a) : Rel K ⟨O', G.pin⟩ ρ σ H := by
  have g : Goes H H (Av G ρ σ) (Av ⟨O', G.pin⟩ ρ σ) := ⟨fun _ _ e _ => e, fun _ _ e _ => e, fun b z _ => z.elim (fun z => .inl (h b z)) .inr⟩
  refine ⟨R.len, fun i d e => ?_, fun i p l d e => ?_, R.inj, R.pin, fun a z => R.dom a (h a z), fun i l d a e1 e2 z => R.dj i l d a e1 e2 (h a z)⟩
  · obtain ⟨v, s, r⟩ := R.fr i d e
    exact ⟨v, s, r.go g⟩
  · obtain ⟨a, s, r⟩ := R.ow i p l d e
    exact ⟨a, s, r.go g fun _ e => e⟩
theorem Rel.drop (R : Rel K (G.add p) ρ σ H) : Rel K G ρ σ H := R.less (O' := G.O) fun _ h => .inl h

/-- behind an expression -/
def PostE (K : PySem.W.Frag) (G : Fr) (ρ : En) (σ : St) (H : Hp) (r : Opd) (ρ' : En) (v : V) (H' : Hp) : Prop :=
  Step ρ σ H ρ' H' ∧ match r with
  | .val d => Rel K G ρ' σ H' ∧ Rep K H' (Av G ρ' σ) v d
  | .new d => ∃ p, v = .ref p ∧ H p = none ∧ Rel K (G.add p) ρ' σ H' ∧ Own K H' (Av (G.add p) ρ' σ) false p d
  | .slot i => Rel K G ρ' σ H' ∧ σ[i]? = some (some v) ∧ ∃ p l d, ρ'[i]? = some (.ow p l d)
/-- what is protected behind it -/
def Fr.plus (G : Fr) : Opd → V → Fr
  | .new _, .ref p => G.add p
  | _, _ => G
/-- an operand as it stands later -/
def OpOk (K : PySem.W.Frag) (G : Fr) (ρ : En) (σ : St) (H : Hp) (r : Opd) (v : V) : Prop :=
  match r with
  | .val d => Rep K H (Av G ρ σ) v d
  | .new d => Rep K H (Av G ρ σ) v d
  | .slot i => σ[i]? = some (some v) ∧ ∃ p l d, ρ[i]? = some (.ow p l d)
theorem PostE.step {r : Opd} (P : PostE K G ρ σ H r ρ' v H') : Step ρ σ H ρ' H' := P.1
theorem PostE.relP {r : Opd} (P : PostE K G ρ σ H r ρ' v H') : Rel K (G.plus r v) ρ' σ H' := by
  obtain ⟨S, P⟩ := P
  cases r with
  | val d => exact P.1
  | new d =>
    obtain ⟨p, e, _, R, _⟩ := P
    subst e
    exact R
  | slot i => exact P.1
theorem Rel.unplus {r : Opd} (R : Rel K (G.plus r v) ρ σ H) : Rel K G ρ σ H := by
  cases r with
  | val d => exact R
  | slot i => exact R
  | new d => cases v <;> first | exact R | exact R.drop
theorem PostE.rel {r : Opd} (P : PostE K G ρ σ H r ρ' v H') : Rel K G ρ' σ H' := P.relP.unplus
theorem Step.notOwned (S : Step ρ σ H ρ1 H1) (R : Rel K G ρ σ H) (hp : H p = none) : ¬ Owned ρ1 σ p := fun z => by
  obtain ⟨o, e, _⟩ := R.owned ((S.sk.owned p).mp z)
  rw [hp] at e; cases e
theorem PostE.later {r : Opd} (R0 : Rel K G ρ σ H) (P : PostE K G ρ σ H r ρ1 v H1) (S : Step ρ1 σ H1 ρ2 H2) : OpOk K G ρ2 σ H2 r v := by
  obtain ⟨S0, P⟩ := P
  cases r with
  | val d => exact P.2.go (P.1.goesS S)
  | new d =>
    obtain ⟨p, e, hp, R, w⟩ := P
    subst e
    have nO := S0.notOwned R0 hp
    have w2 : Own K H2 (Av (G.add p) ρ2 σ) false p d := w.go (R.goesS S) fun o e => S.keep _ o e fun z => nO z.owned
    refine w2.rep (fun b h _ => ?_) ?_
    · rcases h with h | h
      · exact .inl (.inl h)
      · exact .inr h
    · rintro (h | h)
      · exact absurd hp (R0.dom p h)
      · exact nO ((S.sk.owned p).mp h)
  | slot i =>
    obtain ⟨_, s, q, l, d, e⟩ := P
    obtain ⟨d', e'⟩ := S.sk.ow e
    exact ⟨s, q, l, d', e'⟩
theorem PostE.ok {r : Opd} (R0 : Rel K G ρ σ H) (P : PostE K G ρ σ H r ρ1 v H1) : OpOk K G ρ1 σ H1 r v := P.later R0 (Step.refl _ _ _)
theorem OpOk.less {r : Opd} {O' : Addr → Prop} (h : OpOk K G ρ σ H r v) (i : ∀ a, O' a → G.O a) : OpOk K ⟨O', G.pin⟩ ρ σ H r v := by
  have g : Goes H H (Av G ρ σ) (Av ⟨O', G.pin⟩ ρ σ) := ⟨fun _ _ e _ => e, fun _ _ e _ => e, fun b z _ => z.elim (fun z => .inl (i b z)) .inr⟩
  cases r with
  | val d2 => exact Rep.go g h
  | new d2 => exact Rep.go g h
  | slot j => exact h
theorem OpOk.unplus {r r0 : Opd} {v0 : V} (h : OpOk K (G.plus r0 v0) ρ σ H r v) : OpOk K G ρ σ H r v := by
  cases r0 with
  | val d => exact h
  | slot i => exact h
  | new d => cases v0 <;> first | exact h | exact OpOk.less (G := G.add _) (O' := G.O) h fun _ z => .inl z
/-- an operand stays through a step -/
theorem OpOk.go {r : Opd} (h : OpOk K G ρ σ H r v) (R : Rel K G ρ σ H) (S : Step ρ σ H ρ' H') : OpOk K G ρ' σ H' r v := by
  cases r with
  | val d => exact Rep.go (R.goesS S) h
  | new d => exact Rep.go (R.goesS S) h
  | slot i =>
    obtain ⟨s, q, l, d, e⟩ := h
    obtain ⟨d', e'⟩ := S.sk.ow e
    exact ⟨s, q, l, d', e'⟩

/-- what an operand is worth now -/
def res (ρ : En) : Opd → Option D
  | .val d => some d
  | .new d => some d
  | .slot i => match ρ[i]? with
    | some (.ow _ _ d) => some d
    | _ => none
theorem res_slot {ρ : En} {i : Nat} {p l : Bool} {d : D} (e : ρ[i]? = some (.ow p l d)) : res ρ (.slot i) = some d := by
  show (match ρ[i]? with | some (.ow _ _ d) => some d | _ => none) = some d
  rw [e]
abbrev NoA : Addr → Prop := fun _ => False
/-- .. read as data, nothing avoided -/
theorem OpOk.rep {r : Opd} (R : Rel K G ρ σ H) (h : OpOk K G ρ σ H r v) (e : res ρ r = some d) : Rep K H NoA v d := by
  have g : Goes H H (Av G ρ σ) NoA := ⟨fun _ _ e _ => e, fun _ _ e _ => e, fun _ z => z.elim⟩
  cases r with
  | val d' => cases e; exact Rep.go g h
  | new d' => cases e; exact Rep.go g h
  | slot i =>
    obtain ⟨s, q, l, d', e'⟩ := h
    rw [res_slot e'] at e
    cases e
    obtain ⟨a, s', w⟩ := R.ow i q l d e'
    rw [s] at s'
    cases s'
    exact w.rep (fun _ z => z.elim) fun z => z
/-- the items of a container that is read are data that avoid -/
theorem OpOk.lst {r : Opd} {ds : List D} (R : Rel K G ρ σ H) (h : OpOk K G ρ σ H r v) (e : res ρ r = some (.lst ds)) : ∃ a xs, v = .ref a ∧ H a = some (.lst xs) ∧ RepAll K H (Av G ρ σ) xs ds := by
  cases r with
  | val d' =>
    cases e
    cases h with
    | lst s n r => exact ⟨_, _, rfl, s, r⟩
  | new d' =>
    cases e
    cases h with
    | lst s n r => exact ⟨_, _, rfl, s, r⟩
  | slot i =>
    obtain ⟨s, q, l, d', e'⟩ := h
    rw [res_slot e'] at e
    cases e
    obtain ⟨a, s', w⟩ := R.ow i q l _ e'
    rw [s] at s'
    cases s'
    cases w with
    | lst e r => exact ⟨_, _, rfl, e, r⟩
theorem OpOk.tup {r : Opd} {ds : List D} (R : Rel K G ρ σ H) (h : OpOk K G ρ σ H r v) (e : res ρ r = some (.tup ds)) : ∃ a xs, v = .ref a ∧ H a = some (.tup xs) ∧ RepAll K H (Av G ρ σ) xs ds := by
  cases r with
  | val d' =>
    cases e
    cases h with
    | tup s r => exact ⟨_, _, rfl, s, r⟩
  | new d' =>
    cases e
    cases h with
    | tup s r => exact ⟨_, _, rfl, s, r⟩
  | slot i =>
    obtain ⟨s, q, l, d', e'⟩ := h
    rw [res_slot e'] at e
    cases e
    obtain ⟨a, s', w⟩ := R.ow i q l _ e'
    cases w
theorem OpOk.kt {r : Opd} {ds : List D} (R : Rel K G ρ σ H) (h : OpOk K G ρ σ H r v) (e : res ρ r = some (.kt ds)) : ∃ a xs, v = .ref a ∧ KTup K a xs ∧ RepAll K H (Av G ρ σ) xs ds := by
  cases r with
  | val d' =>
    cases e
    cases h with
    | kt s r => exact ⟨_, _, rfl, s, r⟩
  | new d' =>
    cases e
    cases h with
    | kt s r => exact ⟨_, _, rfl, s, r⟩
  | slot i =>
    obtain ⟨s, q, l, d', e'⟩ := h
    rw [res_slot e'] at e
    cases e
    obtain ⟨a, s', w⟩ := R.ow i q l _ e'
    cases w
theorem OpOk.asT {r : Opd} {ds : List D} (R : Rel K G ρ σ H) (h : OpOk K G ρ σ H r v) (e : res ρ r = some d) (et : d.asT = some ds) : ∃ a xs, v = .ref a ∧ SqT K H a xs ∧ RepAll K H (Av G ρ σ) xs ds := by
  unfold D.asT at et
  split at et
  · cases et
    obtain ⟨a, xs, h1, h2, h3⟩ := h.tup R e
    exact ⟨a, xs, h1, SqT.of h2, h3⟩
  · cases et
    obtain ⟨a, xs, h1, h2, h3⟩ := h.kt R e
    exact ⟨a, xs, h1, .inr h2, h3⟩
  · cases et
theorem OpOk.scr {r : Opd} {ns : List Int} (R : Rel K G ρ σ H) (h : OpOk K G ρ σ H r v) (e : res ρ r = some (.scr ns)) : ∃ a, v = .ref a ∧ SqL K H a (ns.map V.int) := by
  have w := h.rep R e
  cases w with
  | scr z => exact ⟨_, rfl, z.elim (fun ⟨o, e⟩ => .inl (.inr ⟨o, e⟩)) .inr⟩
/-- an operand that may be kept in an object -/
def keepD : Opd → Option D
  | .val d => some d
  | .new d => some d
  | .slot _ => none
theorem OpOk.kept {r : Opd} (h : OpOk K G ρ σ H r v) (e : keepD r = some d) : Rep K H (Av G ρ σ) v d := by
  cases r with
  | val d' => cases e; exact h
  | new d' => cases e; exact h
  | slot i => cases e
theorem OpOk.int {r : Opd} {i : Int} (R : Rel K G ρ σ H) (h : OpOk K G ρ σ H r v) (e : res ρ r = some (.int i)) : v = .int i := by
  have := h.rep R e
  cases this
  rfl
theorem OpOk.bl {r : Opd} {b : Bool} (R : Rel K G ρ σ H) (h : OpOk K G ρ σ H r v) (e : res ρ r = some (.bl b)) : v = .bl b := by
  have := h.rep R e
  cases this
  rfl
theorem OpOk.str {r : Opd} {x : Str} (R : Rel K G ρ σ H) (h : OpOk K G ρ σ H r v) (e : res ρ r = some (.str x)) : v = .str x := by
  have := h.rep R e
  cases this
  rfl
end

/-! ### the judgements -/
def tE (K : PySem.W.Frag) (f : SE) : TE := fun σ H Q => ∃ G ρ r ρ', Rel K G ρ σ H ∧ f ρ = some (r, ρ') ∧ ∀ v H', PostE K G ρ σ H r ρ' v H' → Q v H'
abbrev Ex (X : Cx) (e : Expr) (f : SE) : Prop := PE X e (tE X.K f)
abbrev STe := En → Option (Bool × En)
def tT (K : PySem.W.Frag) (f : STe) : TT := fun σ H Q => ∃ G ρ b ρ', Rel K G ρ σ H ∧ f ρ = some (b, ρ') ∧ ∀ H', Step ρ σ H ρ' H' → Rel K G ρ' σ H' → Q b H'
abbrev Ts (X : Cx) (e : Expr) (f : STe) : Prop := PT X e (tT X.K f)
abbrev Tw (X : Cx) (e : Expr) (f : STe) : Prop := PW X e (tT X.K f)
abbrev SA := En → Option (List Opd × En)
inductive OpsOk (K : PySem.W.Frag) (G : Fr) (ρ : En) (σ : St) (H : Hp) : List Opd → List V → Prop
  | nil : OpsOk K G ρ σ H [] []
  | cons {r : Opd} {v : V} {rs : List Opd} {vs : List V} : OpOk K G ρ σ H r v → OpsOk K G ρ σ H rs vs → OpsOk K G ρ σ H (r :: rs) (v :: vs)

theorem PE.imp {X : Cx} {e : Expr} {t t' : TE} (h : PE X e t) (i : ∀ σ H Q, t' σ H Q → t σ H Q) : PE X e t' := ⟨fun pins s σ H Q I q => h.run pins s σ H Q I (i σ H Q q)⟩
theorem PT.imp {X : Cx} {e : Expr} {t t' : TT} (h : PT X e t) (i : ∀ σ H Q, t' σ H Q → t σ H Q) : PT X e t' := ⟨fun pins s σ H Q I q => h.run pins s σ H Q I (i σ H Q q)⟩
theorem PW.imp {X : Cx} {e : Expr} {t t' : TT} (h : PW X e t) (i : ∀ σ H Q, t' σ H Q → t σ H Q) : PW X e t' := ⟨fun w pins s σ H Q I q => h.run w pins s σ H Q I (i σ H Q q)⟩
theorem PA.imp {X : Cx} {es : List Expr} {t t' : TA} (h : PA X es t) (i : ∀ σ H Q, t' σ H Q → t σ H Q) : PA X es t' := ⟨fun pos pins s σ H Q I q => h.run pos pins s σ H Q I (i σ H Q q)⟩
theorem PS.imp {X : Cx} {e : Stmt} {t t' : TS} (h : PS X e t) (i : ∀ D σ H, t' D σ H → t D σ H) : PS X e t' := ⟨fun pins s σ H D I q => h.run pins s σ H D I (i D σ H q)⟩
theorem PSs.imp {X : Cx} {e : List Stmt} {t t' : TS} (h : PSs X e t) (i : ∀ D σ H, t' D σ H → t D σ H) : PSs X e t' := ⟨fun pins s σ H D I q => h.run pins s σ H D I (i D σ H q)⟩

/-- two operands, one after the other -/
def two (f g : SE) (k : Opd → Opd → En → Option (Opd × En)) : SE := fun ρ => match f ρ with
  | none => none
  | some (r1, ρ1) => match g ρ1 with
    | none => none
    | some (r2, ρ2) => k r1 r2 ρ2
theorem two_elim {K : PySem.W.Frag} {f g : SE} {k : Opd → Opd → En → Option (Opd × En)} {G : Fr} {ρ : En} {r : Opd} {ρ' : En} {σ : St} {H : Hp} {R : V → V → Hp → Prop} (R0 : Rel K G ρ σ H) (h : two f g k ρ = some (r, ρ'))
    (c : ∀ r1 r2 ρ2 x y H2, k r1 r2 ρ2 = some (r, ρ') → Step ρ σ H ρ2 H2 → Rel K G ρ2 σ H2 → OpOk K G ρ2 σ H2 r1 x → OpOk K G ρ2 σ H2 r2 y → R x y H2) :
    tE K f σ H fun x H1 => tE K g σ H1 fun y H2 => R x y H2 := by
  unfold two at h
  cases e1 : f ρ with
  | none => rw [e1] at h; cases h
  | some a1 =>
    obtain ⟨r1, ρ1⟩ := a1
    rw [e1] at h
    cases e2 : g ρ1 with
    | none => simp only [e2] at h; cases h
    | some a2 =>
      obtain ⟨r2, ρ2⟩ := a2
      simp only [e2] at h
      refine ⟨G, ρ, r1, ρ1, R0, e1, fun x H1 P1 => ⟨G.plus r1 x, ρ1, r2, ρ2, P1.relP, e2, fun y H2 P2 => ?_⟩⟩
      exact c r1 r2 ρ2 x y H2 h (P1.step.trans P2.step) P2.rel.unplus (P1.later R0 P2.step) (P2.ok P1.relP).unplus
/-- a value that stands as data, the state as it is -/
theorem post_val {K : PySem.W.Frag} {G : Fr} {ρ ρ' : En} {σ : St} {H H' : Hp} {v : V} {d : D} (S : Step ρ σ H ρ' H') (R : Rel K G ρ' σ H') (r : Rep K H' (Av G ρ' σ) v d) : PostE K G ρ σ H (.val d) ρ' v H' := ⟨S, R, r⟩
end Mi

/-! The rules for expressions. -/
namespace Mi
open PySem PySem.Spec
open PyProof.Rows hiding St
open L2

section
variable {K : PySem.W.Frag} {G : Fr} {ρ ρ' ρ1 ρ2 : En} {σ σ' : St} {H H' H1 H2 : Hp} {p a : Addr} {d : D} {v : V}
theorem Step.none (S : Step ρ σ H ρ' H') (R : Rel K G ρ' σ H') (h : H' p = Option.none) : H p = Option.none := by
  cases q : H p with
  | none => rfl
  | some o =>
    by_cases z : Owned ρ σ p
    · obtain ⟨o', e, _⟩ := R.owned ((S.sk.owned p).mpr z)
      rw [h] at e; cases e
    · rw [S.keep _ _ q fun y => z y.owned] at h; cases h
theorem PostE.trans {r : Opd} (S : Step ρ σ H ρ1 H1) (R : Rel K G ρ1 σ H1) (P : PostE K G ρ1 σ H1 r ρ' v H') : PostE K G ρ σ H r ρ' v H' := by
  obtain ⟨S2, P⟩ := P
  refine ⟨S.trans S2, ?_⟩
  cases r with
  | val d => exact P
  | slot i => exact P
  | new d =>
    obtain ⟨p, e, hp, R2, w⟩ := P
    exact ⟨p, e, S.none R hp, R2, w⟩
theorem goes_upd {A A' : Addr → Prop} {o : HO} (hp : H p = Option.none) (av : ∀ b, A' b → b = p ∨ A b) : Goes H (upd H p o) A A' :=
  ⟨fun b o e _ => by rw [upd_ne (ne_of_none e hp)]; exact e, fun b o e _ => by rw [upd_ne (ne_of_none e hp)]; exact e, fun b h n => (av b h).elim (fun z => absurd (z ▸ hp) n) id⟩
theorem Rel.upd {o : HO} (R : Rel K G ρ σ H) (hp : H p = Option.none) : Rel K G ρ σ (L2.upd H p o) := R.ext fun b u e => by rw [upd_ne (ne_of_none e hp)]; exact e
theorem Rel.updA {o : HO} (R : Rel K G ρ σ H) (hp : H p = Option.none) : Rel K (G.add p) ρ σ (L2.upd H p o) := R.add hp (fun b u e => by rw [upd_ne (ne_of_none e hp)]; exact e) (by rw [upd_same]; simp)
theorem step_upd {o : HO} (hp : H p = Option.none) : Step ρ σ H ρ (L2.upd H p o) := ⟨sameK.refl _, fun b u e _ => by rw [upd_ne (ne_of_none e hp)]; exact e⟩
theorem post_same (R : Rel K G ρ σ H) (r : Rep K H (Av G ρ σ) v d) : PostE K G ρ σ H (.val d) ρ v H := ⟨Step.refl _ _ _, R, r⟩
/-- a new tuple -/
theorem post_tup {xs : List V} {ds : List D} (R : Rel K G ρ σ H) (r : RepAll K H (Av G ρ σ) xs ds) (hp : H p = Option.none) : PostE K G ρ σ H (.val (.tup ds)) ρ (.ref p) (L2.upd H p (.tup xs)) :=
  ⟨step_upd hp, R.upd hp, .tup upd_same (r.go (goes_upd hp fun _ h => .inr h))⟩
/-- a new list -/
theorem post_lst {xs : List V} {ds : List D} (R : Rel K G ρ σ H) (r : RepAll K H (Av G ρ σ) xs ds) (hp : H p = Option.none) : PostE K G ρ σ H (.new (.lst ds)) ρ (.ref p) (L2.upd H p (.lst xs)) :=
  ⟨step_upd hp, p, rfl, hp, R.updA hp, .lst upd_same (r.go (goes_upd hp fun b h => by
    rcases h with (h | h) | h
    · exact .inr (.inl h)
    · exact .inl h
    · exact .inr (.inr h)))⟩
theorem post_dic {t : Bool} (R : Rel K G ρ σ H) (hp : H p = Option.none) : PostE K G ρ σ H (.new (.dic t [])) ρ (.ref p) (L2.upd H p (if t then .dT [] else .dK [])) := by
  refine ⟨step_upd hp, p, rfl, hp, R.updA hp, ?_⟩
  cases t with
  | false => exact .dk upd_same .nil
  | true => exact .dt upd_same .nil
end

/-! ### names, constants -/
def varF (i : Nat) : SE := fun ρ => match ρ[i]? with
  | some (.fr d) => some (.val d, ρ)
  | some (.ow _ _ _) => some (.slot i, ρ)
  | _ => none
def valF (d : D) : SE := fun ρ => some (.val d, ρ)
section
variable {X : Cx}
theorem Ex.ofVar {e : Expr} {i : Nat} (h : PE X e (tVar i)) : Ex X e (varF i) := PE.imp h fun σ H Q ⟨G, ρ, r, ρ', R, hf, hQ⟩ => by
  unfold varF at hf
  split at hf
  · rename_i d e
    cases hf
    obtain ⟨v, s, w⟩ := R.fr i d e
    exact ⟨v, s, hQ v H ⟨Step.refl _ _ _, R, w⟩⟩
  · rename_i p l d e
    cases hf
    obtain ⟨a, s, w⟩ := R.ow i p l d e
    exact ⟨.ref a, s, hQ _ H ⟨Step.refl _ _ _, R, s, p, l, d, e⟩⟩
  · cases hf
theorem Ex.var (i : Nat) {x : Str} {pos : Pos} (hN : X.N[i]? = some x := by rfl) (hv : Vis X.env.scope x := by first | exact Or.inl rfl | exact Or.inr (Or.inl rfl) | exact Or.inr (Or.inr rfl)) (hd : (x == ("__debug__" : Str)) = false := by decide)
    (hcd : (x == ("__classdict__" : Str)) = false := by decide) : Ex X (.Name x pos) (varF i) := Ex.ofVar (pe_var hN hv hd hcd)
theorem Ex.ofC {e : Expr} {v : V} {d : D} (h : PE X e (tC v)) (r : ∀ H A, Rep X.K H A v d) : Ex X e (valF d) := PE.imp h fun σ H Q ⟨G, ρ, r', ρ', R, hf, hQ⟩ => by
  cases hf
  exact hQ v H ⟨Step.refl _ _ _, R, r _ _⟩
theorem Ex.int {i : Int} {j pos} : Ex X (.Constant (.int i) j pos) (valF (.int i)) := Ex.ofC pe_int fun _ _ => .int i
theorem Ex.bl {b : Bool} {j pos} : Ex X (.Constant (.bool b) j pos) (valF (.bl b)) := Ex.ofC pe_bl fun _ _ => .bl b
theorem Ex.non {j pos} : Ex X (.Constant .none j pos) (valF .non) := Ex.ofC pe_non fun _ _ => .non
theorem Ex.str {x : Str} {j pos} : Ex X (.Constant (.str x) j pos) (valF (.str x)) := Ex.ofC pe_str fun _ _ => .str x
/-- a module's constant -/
structure GlobC (K : PySem.W.Frag) (mg : Str → Option Value) (x : Str) (d : D) : Prop where
  ex : ∃ v u, mg x = some u ∧ RelV v u ∧ ∀ H A, Rep K H A v d
theorem Ex.glob {x : Str} {d : D} {pos : Pos} (g : GlobC X.K X.mg x d) (hg : Gl X x := by rfl) (hd : (x == ("__debug__" : Str)) = false := by decide) : Ex X (.Name x pos) (valF d) := by
  obtain ⟨v, u, hm, r, h⟩ := g.ex
  exact Ex.ofC (pe_glob hg hm r hd) h
end

/-! ### two operands -/
def bin2 (k : D → D → Option Opd) (f g : SE) : SE := two f g fun r1 r2 ρ => match res ρ r1, res ρ r2 with
  | some a, some b => (k a b).map fun r => (r, ρ)
  | _, _ => none
theorem bin2_elim {K : PySem.W.Frag} {f g : SE} {k : D → D → Option Opd} {G : Fr} {ρ : En} {r : Opd} {ρ' : En} {σ : St} {H : Hp} {R : V → V → Hp → Prop} (R0 : Rel K G ρ σ H) (h : bin2 k f g ρ = some (r, ρ'))
    (c : ∀ r1 r2 a b x y H2, k a b = some r → res ρ' r1 = some a → res ρ' r2 = some b → Step ρ σ H ρ' H2 → Rel K G ρ' σ H2 → OpOk K G ρ' σ H2 r1 x → OpOk K G ρ' σ H2 r2 y → R x y H2) :
    tE K f σ H fun x H1 => tE K g σ H1 fun y H2 => R x y H2 := by
  refine two_elim R0 h fun r1 r2 ρ2 x y H2 e S R2 o1 o2 => ?_
  split at e
  · rename_i a b e1 e2
    cases q : k a b with
    | none => rw [q] at e; cases e
    | some r' =>
      rw [q] at e
      cases e
      exact c r1 r2 a b x y H2 q e1 e2 S R2 o1 o2
  · cases e
section
variable {X : Cx} {a b : Expr} {f g : SE} {pos : Pos}
/-- a rule for a two-place operation: by its reading -/
theorem Ex.op2 {op : Operator} {R : R2} {k : D → D → Option Opd} (ho : OpR X (binaryOp op) R)
    (hk : ∀ G ρ σ H r1 r2 a b x y o (Q : VK), Rel X.K G ρ σ H → OpOk X.K G ρ σ H r1 x → OpOk X.K G ρ σ H r2 y → res ρ r1 = some a → res ρ r2 = some b → k a b = some o → (∀ v H', PostE X.K G ρ σ H o ρ v H' → Q v H') → R x y H Q)
    (ha : Ex X a f) (hb : Ex X b g) : Ex X (.BinOp a op b pos) (bin2 k f g) := PE.imp (pe_op ho ha hb) fun σ H Q ⟨G, ρ, r, ρ', R0, hf, hQ⟩ =>
  bin2_elim R0 hf fun r1 r2 a b x y H2 e e1 e2 S R2 o1 o2 => hk G ρ' σ H2 r1 r2 a b x y r Q R2 o1 o2 e1 e2 e fun v H' P => hQ v H' (P.trans S R2)
/-- .. of two ints -/
def iiD (k : Int → Int → Option D) : D → D → Option Opd
  | .int i, .int j => (k i j).map .val
  | _, _ => none
theorem Ex.ii {op : Operator} {R : R2} {k : Int → Int → Option D} {V' : D → V} (ho : OpR X (binaryOp op) R)
    (hk : ∀ i j o H (Q : VK), k i j = some o → (∀ K A v, (Rep K H A v o → Q v H) → False) ∨ True → (∀ v, (∀ A, Rep X.K H A v o) → Q v H) → R (.int i) (.int j) H Q)
    (ha : Ex X a f) (hb : Ex X b g) : Ex X (.BinOp a op b pos) (bin2 (iiD k) f g) :=
  Ex.op2 ho (fun G ρ σ H r1 r2 a b x y o Q R o1 o2 e1 e2 e hQ => by
    unfold iiD at e
    split at e
    · rename_i i j
      cases q : k i j with
      | none => rw [q] at e; cases e
      | some d =>
        rw [q] at e
        cases e
        rw [o1.int R e1, o2.int R e2]
        exact hk i j d H Q q (.inr trivial) fun v r => hQ v H (post_same R (r _))
    · cases e) ha hb
def addI (i j : Int) : Option D := some (.int (i + j))
def subI (i j : Int) : Option D := some (.int (i - j))
/-- two factors that the model multiplies -/
def mulI (i j : Int) : Option D := if (i.natAbs < 2 ^ 64 ∨ j.natAbs < 2 ^ 64) ∨ i.natAbs.log2 + j.natAbs.log2 < 1000000 then some (.int (i * j)) else none
def divI (i j : Int) : Option D := if 0 < j ∧ j.natAbs.log2 < 9000 then some (.int (i / j)) else none
def modI (i j : Int) : Option D := if 0 < j then some (.int (i % j)) else none
def powI (i j : Int) : Option D := if 0 ≤ j ∧ j ≤ 1000000 ∧ i.natAbs < 2 ^ 64 then some (.int (i ^ j.toNat)) else none
def shlI (i j : Int) : Option D := if 0 ≤ j ∧ j ≤ 1000000 ∧ i.natAbs < 2 ^ 64 then some (.int (i * 2 ^ j.toNat)) else none
def shrI (i j : Int) : Option D := if 0 ≤ j then some (.int (i / 2 ^ j.toNat)) else none
def andI (i j : Int) : Option D := some (.int (Builtin.bitAnd i j))
theorem Ex.sub (ha : Ex X a f) (hb : Ex X b g) : Ex X (.BinOp a .Sub b pos) (bin2 (iiD subI) f g) :=
  Ex.ii (V' := fun _ => .non) op_sub (fun i j o H Q e _ h => by cases e; exact ⟨i, j, rfl, rfl, h _ fun _ => .int _⟩) ha hb
theorem Ex.mul (ha : Ex X a f) (hb : Ex X b g) : Ex X (.BinOp a .Mult b pos) (bin2 (iiD mulI) f g) :=
  Ex.ii (V' := fun _ => .non) (OpR.or op_mul op_mulW) (fun i j o H Q e _ h => by
    unfold mulI at e
    split at e
    · rename_i c
      cases e
      rcases c with (c | c) | c
      · exact .inl ⟨i, j, rfl, rfl, .inl ⟨by omega, by omega⟩, h _ fun _ => .int _⟩
      · exact .inl ⟨i, j, rfl, rfl, .inr ⟨by omega, by omega⟩, h _ fun _ => .int _⟩
      · exact .inr ⟨i, j, rfl, rfl, c, h _ fun _ => .int _⟩
    · cases e) ha hb
theorem Ex.fdiv (ha : Ex X a f) (hb : Ex X b g) : Ex X (.BinOp a .FloorDiv b pos) (bin2 (iiD divI) f g) :=
  Ex.ii (V' := fun _ => .non) op_fdivW (fun i j o H Q e _ h => by
    unfold divI at e
    split at e
    · rename_i c
      cases e
      exact ⟨i, j, rfl, rfl, c, h _ fun _ => .int _⟩
    · cases e) ha hb
theorem Ex.mod (ha : Ex X a f) (hb : Ex X b g) : Ex X (.BinOp a .Mod b pos) (bin2 (iiD modI) f g) :=
  Ex.ii (V' := fun _ => .non) op_mod (fun i j o H Q e _ h => by
    unfold modI at e
    split at e
    · rename_i c
      cases e
      exact ⟨i, j, rfl, rfl, c, h _ fun _ => .int _⟩
    · cases e) ha hb
theorem Ex.pow (ha : Ex X a f) (hb : Ex X b g) : Ex X (.BinOp a .Pow b pos) (bin2 (iiD powI) f g) :=
  Ex.ii (V' := fun _ => .non) op_pow (fun i j o H Q e _ h => by
    unfold powI at e
    split at e
    · rename_i c
      cases e
      exact ⟨i, j, rfl, rfl, c, h _ fun _ => .int _⟩
    · cases e) ha hb
theorem Ex.shl (ha : Ex X a f) (hb : Ex X b g) : Ex X (.BinOp a .LShift b pos) (bin2 (iiD shlI) f g) :=
  Ex.ii (V' := fun _ => .non) op_shl (fun i j o H Q e _ h => by
    unfold shlI at e
    split at e
    · rename_i c
      cases e
      exact ⟨i, j, rfl, rfl, c, h _ fun _ => .int _⟩
    · cases e) ha hb
theorem Ex.shr (ha : Ex X a f) (hb : Ex X b g) : Ex X (.BinOp a .RShift b pos) (bin2 (iiD shrI) f g) :=
  Ex.ii (V' := fun _ => .non) op_shr (fun i j o H Q e _ h => by
    unfold shrI at e
    split at e
    · rename_i c
      cases e
      exact ⟨i, j, rfl, rfl, c, h _ fun _ => .int _⟩
    · cases e) ha hb
theorem Ex.band (ha : Ex X a f) (hb : Ex X b g) : Ex X (.BinOp a .BitAnd b pos) (bin2 (iiD andI) f g) :=
  Ex.ii (V' := fun _ => .non) op_and (fun i j o H Q e _ h => by cases e; exact ⟨i, j, rfl, rfl, h _ fun _ => .int _⟩) ha hb
/-- + of ints, tuples, lists, texts -/
def addD : D → D → Option Opd
  | .int i, .int j => some (.val (.int (i + j)))
  | .tup xs, .tup ys => if xs.length + ys.length ≤ 16000000 then some (.val (.tup (xs ++ ys))) else none
  | .lst xs, .lst ys => if xs.length + ys.length ≤ 16000000 then some (.new (.lst (xs ++ ys))) else none
  | .str x, .str y => if x.length + y.length ≤ 16000000 then some (.val (.str (x ++ y))) else none
  | _, _ => none
theorem szl {n : Nat} (h : n ≤ 16000000) : n ≤ sizeLine := by rw [sizeLine_eq]; omega
theorem Ex.add (ha : Ex X a f) (hb : Ex X b g) : Ex X (.BinOp a .Add b pos) (bin2 addD f g) :=
  Ex.op2 (OpR.or op_add (OpR.or op_catA (OpR.or op_cat op_add_str))) (fun G ρ σ H r1 r2 a b x y o Q R o1 o2 e1 e2 e hQ => by
    unfold addD at e
    split at e
    · rename_i i j
      cases e
      rw [o1.int R e1, o2.int R e2]
      exact .inl ⟨i, j, rfl, rfl, hQ _ _ (post_same R (.int _))⟩
    · rename_i ds es
      split at e
      · rename_i c
        cases e
        obtain ⟨a, xs, rfl, h1, w1⟩ := o1.tup R e1
        obtain ⟨b, ys, rfl, h2, w2⟩ := o2.tup R e2
        refine .inr (.inl ⟨a, b, xs, ys, rfl, rfl, SqT.of h1, SqT.of h2, by rw [w1.length, w2.length]; exact szl c, fun z => ?_, fun _ z => ?_, fun _ _ p hp => ?_⟩)
        · refine hQ _ _ (post_same R ?_)
          subst z
          cases w1
          exact .tup h2 w2
        · refine hQ _ _ (post_same R ?_)
          subst z
          cases w2
          rw [List.append_nil]
          exact .tup h1 w1
        · exact hQ _ _ (post_tup R (w1.append w2) hp)
      · cases e
    · rename_i ds es
      split at e
      · rename_i c
        cases e
        obtain ⟨a, xs, rfl, h1, w1⟩ := o1.lst R e1
        obtain ⟨b, ys, rfl, h2, w2⟩ := o2.lst R e2
        exact .inr (.inr (.inl ⟨a, b, xs, ys, rfl, rfl, h1, h2, by rw [w1.length, w2.length]; exact szl c, fun p hp => hQ _ _ (post_lst R (w1.append w2) hp)⟩))
      · cases e
    · rename_i s t
      split at e
      · rename_i c
        cases e
        rw [o1.str R e1, o2.str R e2]
        exact .inr (.inr (.inr ⟨s, t, rfl, rfl, szl c, hQ _ _ (post_same R (.str _))⟩))
      · cases e
    · cases e) ha hb
end
end Mi

/-! Comparisons, tests, displays, subscripts, built-ins. -/
namespace Mi
open PySem PySem.Spec
open PyProof.Rows hiding St
open L2

/-! ### comparisons -/
def CmpK (X : Cx) (op : CmpOp) (k : D → D → Option Bool) : Prop := ∃ R, OpR X (compareOp op) R ∧
  ∀ G ρ σ H r1 r2 a b x y c (Q : VK), Rel X.K G ρ σ H → OpOk X.K G ρ σ H r1 x → OpOk X.K G ρ σ H r2 y → res ρ r1 = some a → res ρ r2 = some b → k a b = some c → Q (.bl c) H → R x y H Q
def cmpV (k : D → D → Option Bool) : D → D → Option Opd := fun a b => (k a b).map fun c => .val (.bl c)
/-- the truth of a value that is a truth -/
def ofV (f : SE) : STe := fun ρ => match f ρ with
  | some (.val (.bl b), ρ') => some (b, ρ')
  | _ => none
section
variable {X : Cx} {a b c : Expr} {f g h : SE} {pos : Pos}
theorem Ex.cmp {op : CmpOp} {k : D → D → Option Bool} (ck : CmpK X op k) (ha : Ex X a f) (hb : Ex X b g) (hm : behindInMarks op b = false := by first | exact nomark _ | rfl | with_unfolding_all rfl) : Ex X (.Compare a [op] [b] pos) (bin2 (cmpV k) f g) := by
  obtain ⟨R, ho, hk⟩ := ck
  exact PE.imp (pe_cmpR ho ha hb hm) fun σ H Q ⟨G, ρ, r, ρ', R0, hf, hQ⟩ => bin2_elim R0 hf fun r1 r2 a b x y H2 e e1 e2 S R2 o1 o2 => by
    unfold cmpV at e
    cases q : k a b with
    | none => rw [q] at e; cases e
    | some t =>
      rw [q] at e
      cases e
      exact hk G ρ' σ H2 r1 r2 a b x y t Q R2 o1 o2 e1 e2 q (hQ _ _ ⟨S, R2, .bl t⟩)
theorem Ts.cmp {op : CmpOp} {k : D → D → Option Bool} (ck : CmpK X op k) (ha : Ex X a f) (hb : Ex X b g) (hm : behindInMarks op b = false := by first | exact nomark _ | rfl | with_unfolding_all rfl) : Ts X (.Compare a [op] [b] pos) (ofV (bin2 (cmpV k) f g)) := by
  obtain ⟨R, ho, hk⟩ := ck
  exact PT.imp (pt_cmpR ho ha hb hm) fun σ H Q ⟨G, ρ, t, ρ', R0, hf, hQ⟩ => by
    unfold ofV at hf
    split at hf
    · rename_i t' ρ2 hf'
      cases hf
      exact bin2_elim R0 hf' fun r1 r2 a b x y H2 e e1 e2 S R2 o1 o2 => by
        unfold cmpV at e
        cases q : k a b with
        | none => rw [q] at e; cases e
        | some t =>
          rw [q] at e
          cases e
          exact hk G ρ' σ H2 r1 r2 a b x y t _ R2 o1 o2 e1 e2 q ⟨t, rfl, hQ _ S R2⟩
    · cases hf

theorem Rep.nonIff {K : PySem.W.Frag} {H : Hp} {A : Addr → Prop} {v : V} {d : D} (r : Rep K H A v d) : (v = .non) = (d = .non) := by
  cases r <;> simp
def isNon : D → Bool
  | .non => true
  | _ => false
def isBl (t : Bool) : D → Bool
  | .bl u => u == t
  | _ => false
def isN (a b : D) : Option Bool := match b with
  | .non => some (isNon a)
  | .bl t => some (isBl t a)
  | _ => none
def isNotN (a b : D) : Option Bool := match b with
  | .non => some (!isNon a)
  | .bl t => some (!isBl t a)
  | _ => none
theorem isNon_iff {d : D} : isNon d = true ↔ d = .non := by cases d <;> simp [isNon]
theorem dec_non {K : PySem.W.Frag} {H : Hp} {A : Addr → Prop} {v : V} {d : D} (r : Rep K H A v d) : decide (v = .non) = isNon d := by
  cases r <;> rfl
theorem dec_isBl {K : PySem.W.Frag} {H : Hp} {A : Addr → Prop} {v : V} {d : D} {t : Bool} (r : Rep K H A v d) : decide (v = .bl t) = isBl t d := by
  cases r <;> simp [isBl]
  rename_i b
  cases b <;> cases t <;> decide
theorem dec_vbl (a b : Bool) : decide (V.bl a = V.bl b) = (Value.bool a == Value.bool b) := by cases a <;> cases b <;> decide
theorem op_isNB : OpR X (compareOp .Is) (fun x y H Q => (y = .non ∧ Q (.bl (decide (x = .non))) H) ∨ ∃ b, y = .bl b ∧ Q (.bl (decide (x = .bl b))) H) := by
  intro pins s σ H x y v u Q I rx ry h
  rcases h with h | ⟨b, rfl, q⟩
  · exact op_isN pins s σ H x y v u Q I rx ry h
  · cases ry
    cases x <;> first
      | (cases rx; exact wpAny_is_plain rfl (fin_bl I q (by first | exact dec_vbl _ _ | exact congrArg not (dec_vbl _ _) | (simp <;> rfl))))
      | (obtain ⟨t, rfl⟩ := rx; exact wpAny_is_plain rfl (fin_bl I q (by first | exact dec_vbl _ _ | exact congrArg not (dec_vbl _ _) | (simp <;> rfl))))
theorem op_notNB : OpR X (compareOp .IsNot) (fun x y H Q => (y = .non ∧ Q (.bl (!decide (x = .non))) H) ∨ ∃ b, y = .bl b ∧ Q (.bl (!decide (x = .bl b))) H) := by
  intro pins s σ H x y v u Q I rx ry h
  rcases h with h | ⟨b, rfl, q⟩
  · exact op_notN pins s σ H x y v u Q I rx ry h
  · cases ry
    cases x <;> first
      | (cases rx; exact wpAny_isNot_plain rfl (fin_bl I q (by first | exact dec_vbl _ _ | exact congrArg not (dec_vbl _ _) | (simp <;> rfl))))
      | (obtain ⟨t, rfl⟩ := rx; exact wpAny_isNot_plain rfl (fin_bl I q (by first | exact dec_vbl _ _ | exact congrArg not (dec_vbl _ _) | (simp <;> rfl))))
theorem ck_is : CmpK X .Is isN := ⟨_, op_isNB, fun G ρ σ H r1 r2 a b x y c Q R o1 o2 e1 e2 e q => by
  unfold isN at e
  have w := o2.rep R e2
  split at e
  · cases e
    cases w
    refine .inl ⟨rfl, ?_⟩
    rw [dec_non (o1.rep R e1)]
    exact q
  · cases e
    cases w
    refine .inr ⟨_, rfl, ?_⟩
    rw [dec_isBl (o1.rep R e1)]
    exact q
  · cases e⟩
theorem ck_isnot : CmpK X .IsNot isNotN := ⟨_, op_notNB, fun G ρ σ H r1 r2 a b x y c Q R o1 o2 e1 e2 e q => by
  unfold isNotN at e
  have w := o2.rep R e2
  split at e
  · cases e
    cases w
    refine .inl ⟨rfl, ?_⟩
    rw [dec_non (o1.rep R e1)]
    exact q
  · cases e
    cases w
    refine .inr ⟨_, rfl, ?_⟩
    rw [dec_isBl (o1.rep R e1)]
    exact q
  · cases e⟩
/-- comparisons of ints -/
def iiB (k : Int → Int → Bool) : D → D → Option Bool
  | .int i, .int j => some (k i j)
  | _, _ => none
theorem ck_ii {op : CmpOp} {k : Int → Int → Bool} (ho : OpR X (compareOp op) (rI0 fun i j => .bl (k i j))) : CmpK X op (iiB k) := ⟨_, ho, fun G ρ σ H r1 r2 a b x y c Q R o1 o2 e1 e2 e q => by
  unfold iiB at e
  split at e
  · cases e
    exact ⟨_, _, o1.int R e1, o2.int R e2, q⟩
  · cases e⟩
theorem ck_le : CmpK X .LtE (iiB fun i j => decide (i ≤ j)) := ck_ii op_le
theorem ck_gt : CmpK X .Gt (iiB fun i j => decide (j < i)) := ck_ii op_gt
theorem ck_ge : CmpK X .GtE (iiB fun i j => decide (j ≤ i)) := ck_ii op_ge
/-- ints of a row -/
def intsOf : List D → Option (List Int)
  | [] => some []
  | .int i :: ds => (intsOf ds).map (i :: ·)
  | _ :: _ => none
theorem intsOf_eq : ∀ {ds : List D} {ns : List Int}, intsOf ds = some ns → ds = ns.map D.int
  | [], ns, h => by cases h; rfl
  | d :: ds, ns, h => by
    cases d with
    | int i =>
      simp only [intsOf] at h
      cases q : intsOf ds with
      | none => rw [q] at h; cases h
      | some ms =>
        rw [q] at h
        cases h
        rw [intsOf_eq q]; rfl
    | _ => cases h
theorem intsOf_map : ∀ ns : List Int, intsOf (ns.map D.int) = some ns
  | [] => rfl
  | n :: ns => by simp only [List.map_cons, intsOf, intsOf_map ns, Option.map_some]
/-- < of ints, of tuples of ints -/
def ltD (a b : D) : Option Bool := match a, b with
  | .int i, .int j => some (decide (i < j))
  | .tup xs, .tup ys => match intsOf xs, intsOf ys with
    | some ns, some ms => some (HT.lexLt ns ms)
    | _, _ => none
  | _, _ => none
theorem ck_lt (hu : X.A.units + 64 < cLine) : CmpK X .Lt ltD := ⟨_, OpR.or op_lt (op_ltT (by omega)), fun G ρ σ H r1 r2 a b x y c Q R o1 o2 e1 e2 e q => by
  unfold ltD at e
  split at e
  · cases e
    exact .inl ⟨_, _, o1.int R e1, o2.int R e2, q⟩
  · split at e
    · rename_i ns ms h1 h2
      cases e
      have z1 := intsOf_eq h1
      have z2 := intsOf_eq h2
      subst z1 z2
      obtain ⟨a, us, rfl, t1, w1⟩ := o1.tup R e1
      obtain ⟨b, vs, rfl, t2, w2⟩ := o2.tup R e2
      rw [RepAll.ints_of w1] at t1
      rw [RepAll.ints_of w2] at t2
      exact .inr ⟨a, b, ns, ms, rfl, rfl, SqT.of t1, SqT.of t2, q⟩
    · cases e
  · cases e⟩
/-- == -/
def eqK (a b : D) : Option Bool := if a.okE && b.okE then some (eqD a b) else none
def neK (a b : D) : Option Bool := if a.okE && b.okE then some (!eqD a b) else none
theorem okE_of {a : D} (h : a.okE = true) : a.nd = true ∧ SeqAt.shaped a.py = true := by simpa [D.okE] using h
theorem ck_eq (hu : X.A.units + 64 < cLine) : CmpK X .Eq eqK := ⟨_, op_eqD hu, fun G ρ σ H r1 r2 a b x y c Q R o1 o2 e1 e2 e q => by
  unfold eqK at e
  split at e
  · rename_i z
    cases e
    rw [Bool.and_eq_true] at z
    obtain ⟨n1, s1⟩ := okE_of z.1
    obtain ⟨n2, s2⟩ := okE_of z.2
    exact ⟨_, _, (o1.rep R e1).dp n1, (o2.rep R e2).dp n2, s1, s2, q⟩
  · cases e⟩
theorem ck_ne (hu : X.A.units + 64 < cLine) : CmpK X .NotEq neK := ⟨_, op_neD hu, fun G ρ σ H r1 r2 a b x y c Q R o1 o2 e1 e2 e q => by
  unfold neK at e
  split at e
  · rename_i z
    cases e
    rw [Bool.and_eq_true] at z
    obtain ⟨n1, s1⟩ := okE_of z.1
    obtain ⟨n2, s2⟩ := okE_of z.2
    exact ⟨_, _, (o1.rep R e1).dp n1, (o2.rep R e2).dp n2, s1, s2, q⟩
  · cases e⟩

/-! ### dicts: what stands at a key -/
def toKey : D → Option Key
  | .int i => some (.inl i)
  | .str x => some (.inr x)
  | _ => none
def toKeys : List D → Option (List Key)
  | [] => some []
  | d :: ds => match toKey d, toKeys ds with
    | some k, some ks => some (k :: ks)
    | _, _ => none
theorem toKey_key (k : Key) : toKey (keyD k) = some k := by cases k <;> rfl
theorem key_toKey {d : D} {k : Key} (h : toKey d = some k) : d = keyD k := by
  cases d <;> simp [toKey] at h <;> subst h <;> rfl
theorem toKeys_map : ∀ ks : List Key, toKeys (ks.map keyD) = some ks
  | [] => rfl
  | k :: ks => by simp only [List.map_cons, toKeys, toKey_key, toKeys_map ks]
theorem map_toKeys : ∀ {ds : List D} {ks : List Key}, toKeys ds = some ks → ds = ks.map keyD
  | [], ks, h => by cases h; rfl
  | d :: ds, ks, h => by
    simp only [toKeys] at h
    split at h
    · rename_i k ks' h1 h2
      cases h
      rw [key_toKey h1, map_toKeys h2]; rfl
    · cases h
/-- a key of a dict of that kind -/
def kEq (t : Bool) (k d : D) : Bool := match t, k, d with
  | false, k, d => match toKey k, toKey d with
    | some a, some b => decide (a = b)
    | _, _ => false
  | true, .tup ks, .tup ds => match toKeys ks, toKeys ds with
    | some a, some b => decide (a = b)
    | _, _ => false
  | _, _, _ => false
def isKey (t : Bool) (d : D) : Bool := match t, d with
  | false, d => (toKey d).isSome
  | true, .tup ds => (toKeys ds).isSome
  | _, _ => false
def lookD (t : Bool) (kvs : List (D × D)) (k : D) : Option D := (kvs.find? fun p => kEq t p.1 k).map (·.2)
def putD (t : Bool) (kvs : List (D × D)) (k v : D) : List (D × D) :=
  if (lookD t kvs k).isSome then kvs.map fun p => if kEq t p.1 k then (p.1, v) else p else kvs ++ [(k, v)]
end
section
variable {K : PySem.W.Frag} {H : Hp} {A : Addr → Prop}
theorem kEq_false (k j : Key) : kEq false (keyD k) (keyD j) = decide (k = j) := by
  unfold kEq
  simp only [toKey_key]
theorem kEq_true (k j : List Key) : kEq true (.tup (k.map keyD)) (.tup (j.map keyD)) = decide (k = j) := by
  unfold kEq
  simp only [toKeys_map]
/-- nothing on both sides, or a value and what it stands for -/
def RepO (K : PySem.W.Frag) (H : Hp) (A : Addr → Prop) : Option V → Option D → Prop
  | none, none => True
  | some v, some d => Rep K H A v d
  | _, _ => False
theorem lookD_nil {t : Bool} {k : D} : lookD t [] k = none := rfl
theorem lookD_cons {t : Bool} {p : D × D} {r : List (D × D)} {k : D} : lookD t (p :: r) k = if kEq t p.1 k then some p.2 else lookD t r k := by
  unfold lookD
  rw [List.find?_cons]
  cases kEq t p.1 k <;> rfl
theorem RepK.look (k : Key) : ∀ {kvs : List (Key × V)} {ds : List (D × D)}, RepK K H A kvs ds → RepO K H A (valV kvs k) (lookD false ds (keyD k))
  | _, _, .nil => trivial
  | _, _, .cons (k := j) (vs := vs) (ds := ds) h r => by
    rw [lookD_cons, kEq_false]
    by_cases e : j = k
    · rw [valV_pos (show (j, _).1 = k from e), if_pos (decide_eq_true e)]
      exact h
    · rw [valV_neg (show ¬ (j, _).1 = k from e), if_neg (by simpa using e)]
      exact RepK.look k r
theorem RepT.look (k : List Key) : ∀ {kvs : List (List Key × V)} {ds : List (D × D)}, RepT K H A kvs ds → RepO K H A (valV kvs k) (lookD true ds (.tup (k.map keyD)))
  | _, _, .nil => trivial
  | _, _, .cons (k := j) (vs := vs) (ds := ds) h r => by
    rw [lookD_cons, kEq_true]
    by_cases e : j = k
    · rw [valV_pos (show (j, _).1 = k from e), if_pos (decide_eq_true e)]
      exact h
    · rw [valV_neg (show ¬ (j, _).1 = k from e), if_neg (by simpa using e)]
      exact RepT.look k r
theorem RepO.isSome {o : Option V} {u : Option D} (h : RepO K H A o u) : o.isSome = u.isSome := by
  cases o <;> cases u <;> first | rfl | exact h.elim
theorem RepO.some {o : Option V} {d : D} (h : RepO K H A o (.some d)) : ∃ v, o = .some v ∧ Rep K H A v d := by
  cases o with
  | none => exact h.elim
  | some v => exact ⟨v, rfl, h⟩
theorem RepO.none {o : Option V} (h : RepO K H A o .none) : o = .none := by
  cases o with
  | none => rfl
  | some v => exact h.elim
theorem RepK.append : ∀ {xs ys : List (Key × V)} {ds es : List (D × D)}, RepK K H A xs ds → RepK K H A ys es → RepK K H A (xs ++ ys) (ds ++ es)
  | _, _, _, _, .nil, s => s
  | _, _, _, _, .cons h r, s => .cons h (RepK.append r s)
theorem RepT.append : ∀ {xs ys : List (List Key × V)} {ds es : List (D × D)}, RepT K H A xs ds → RepT K H A ys es → RepT K H A (xs ++ ys) (ds ++ es)
  | _, _, _, _, .nil, s => s
  | _, _, _, _, .cons h r, s => .cons h (RepT.append r s)
theorem RepK.mapAt {v : V} {d : D} (hv : Rep K H A v d) (k : Key) : ∀ {kvs : List (Key × V)} {ds : List (D × D)}, RepK K H A kvs ds →
    RepK K H A (kvs.map fun kv => if kv.1 = k then (kv.1, v) else kv) (ds.map fun p => if kEq false p.1 (keyD k) then (p.1, d) else p)
  | _, _, .nil => .nil
  | _, _, .cons (k := j) (v := w) (d := e) h r => by
    simp only [List.map_cons, kEq_false]
    have ih := RepK.mapAt hv k r
    by_cases z : j = k
    · simp only [if_pos z, decide_eq_true z, if_true]
      exact .cons hv ih
    · simp only [if_neg z, decide_eq_false z, Bool.false_eq_true, if_false]
      exact .cons h ih
theorem RepT.mapAt {v : V} {d : D} (hv : Rep K H A v d) (k : List Key) : ∀ {kvs : List (List Key × V)} {ds : List (D × D)}, RepT K H A kvs ds →
    RepT K H A (kvs.map fun kv => if kv.1 = k then (kv.1, v) else kv) (ds.map fun p => if kEq true p.1 (.tup (k.map keyD)) then (p.1, d) else p)
  | _, _, .nil => .nil
  | _, _, .cons (k := j) (v := w) (d := e) h r => by
    simp only [List.map_cons, kEq_true]
    have ih := RepT.mapAt hv k r
    by_cases z : j = k
    · simp only [if_pos z, decide_eq_true z, if_true]
      exact .cons hv ih
    · simp only [if_neg z, decide_eq_false z, Bool.false_eq_true, if_false]
      exact .cons h ih
theorem RepK.put {v : V} {d : D} (hv : Rep K H A v d) (k : Key) {kvs : List (Key × V)} {ds : List (D × D)} (r : RepK K H A kvs ds) : RepK K H A (putK kvs k v) (putD false ds (keyD k) d) := by
  unfold putK putD
  rw [valV_any, (r.look k).isSome]
  split
  · exact r.mapAt hv k
  · exact r.append (.cons hv .nil)
theorem RepT.put {v : V} {d : D} (hv : Rep K H A v d) (k : List Key) {kvs : List (List Key × V)} {ds : List (D × D)} (r : RepT K H A kvs ds) : RepT K H A (putK kvs k v) (putD true ds (.tup (k.map keyD)) d) := by
  unfold putK putD
  rw [valV_any, (r.look k).isSome]
  split
  · exact r.mapAt hv k
  · exact r.append (.cons hv .nil)
theorem RepK.length : ∀ {kvs : List (Key × V)} {ds : List (D × D)}, RepK K H A kvs ds → kvs.length = ds.length
  | _, _, .nil => rfl
  | _, _, .cons _ r => by simp [RepK.length r]
theorem RepT.length : ∀ {kvs : List (List Key × V)} {ds : List (D × D)}, RepT K H A kvs ds → kvs.length = ds.length
  | _, _, .nil => rfl
  | _, _, .cons _ r => by simp [RepT.length r]
theorem keyV_rep {k : Key} {v : V} (r : Rep K H A v (keyD k)) : v = kV k := by
  cases k with
  | inl i => cases r; rfl
  | inr x => cases r; rfl
theorem keysV_rep : ∀ {ks : List Key} {vs : List V}, RepAll K H A vs (ks.map keyD) → vs = ks.map kV
  | [], _, h => by cases h; rfl
  | k :: ks, _, h => by
    cases h with
    | cons h r =>
      rw [keyV_rep h, keysV_rep r]; rfl
/-- a dict is read at a key -/
theorem dget_of {a : Addr} {t : Bool} {kvs : List (D × D)} {k : D} {y : V} (hd : Rep K H A (.ref a) (.dic t kvs)) (hk : Rep K H A y k) (ok : isKey t k = true) :
    ∃ o, DGet H a y o ∧ RepO K H A o (lookD t kvs k) := by
  cases hd with
  | dk e n r =>
    unfold isKey at ok
    obtain ⟨kk, e2⟩ := Option.isSome_iff_exists.mp ok
    have z := key_toKey e2
    subst z
    have y' := keyV_rep hk
    subst y'
    exact ⟨_, .inl ⟨_, kk, e, rfl, rfl⟩, r.look kk⟩
  | dt e n r =>
    cases k with
    | tup ds =>
      obtain ⟨kk, e2⟩ := Option.isSome_iff_exists.mp (show (toKeys ds).isSome = true from ok)
      have z := map_toKeys e2
      subst z
      cases hk with
      | tup h w =>
        rw [keysV_rep w] at h
        exact ⟨_, .inr ⟨_, kk, _, e, rfl, h, rfl⟩, r.look kk⟩
    | _ => exact absurd ok (by simp [isKey])
end

/-! ### in, not in -/
/-- a flat thing -/
def flatD : D → Bool
  | .non => true
  | .bl _ => true
  | .int _ => true
  | .str _ => true
  | _ => false
def inSeq (x : D) (ds : List D) : Bool := ds.any fun z => eqD z x
/-- in a tuple of flat things, in a list, in a dict -/
def inD (x c : D) : Option Bool := match c with
  | .tup ds => if flatD x && ds.all flatD then some (inSeq x ds) else none
  | .lst ds => if x.okE && (D.lst ds).okE then some (inSeq x ds) else none
  | .dic t kvs => if isKey t x then some (lookD t kvs x).isSome else none
  | _ => none
def notInD (x c : D) : Option Bool := (inD x c).map (!·)
end Mi

namespace Mi
open PySem PySem.Spec
open PyProof.Rows hiding St
open L2
section
variable {K : PySem.W.Frag} {H : Hp} {A : Addr → Prop}
theorem flat_rep {v : V} {d : D} (r : Rep K H A v d) (f : flatD d = true) : flatV v = true := by
  cases r <;> first | rfl | (simp [flatD] at f)
theorem flat_all : ∀ {vs : List V} {ds : List D}, RepAll K H A vs ds → ds.all flatD = true → vs.all flatV = true
  | _, _, .nil, _ => rfl
  | _, _, .cons h r, f => by
    rw [List.all_cons, Bool.and_eq_true] at f ⊢
    exact ⟨flat_rep h f.1, flat_all r f.2⟩
theorem eqV_rep {v w : V} {d e : D} (r : Rep K H A v d) (q : Rep K H A w e) (f : flatD d = true) (g : flatD e = true) : eqV v w = eqD d e := by
  cases r <;> first
    | (cases q <;> first | (simp [eqV, eqD, D.py, PyData.eqv]; done) | (simp [flatD] at g))
    | (simp [flatD] at f)
theorem inV_rep {v : V} {d : D} (q : Rep K H A v d) (g : flatD d = true) : ∀ {vs : List V} {ds : List D}, RepAll K H A vs ds → ds.all flatD = true → inV v vs = inSeq d ds
  | _, _, .nil, _ => rfl
  | _, _, .cons h r, f => by
    rw [List.all_cons, Bool.and_eq_true] at f
    have ih := inV_rep q g r f.2
    unfold inV inSeq at ih ⊢
    rw [List.any_cons, List.any_cons, eqV_rep h q f.1 g, ih]
theorem any_py (x : D) : ∀ ds : List D, ((D.pyAll ds).any fun z => PyData.eqv z x.py) = inSeq x ds
  | [] => rfl
  | d :: ds => by
    have ih := any_py x ds
    unfold inSeq at ih ⊢
    rw [D.pyAll, List.any_cons, List.any_cons, ih]; rfl
theorem OpOk.dic {G : Fr} {ρ : En} {σ : St} {r : Opd} {v : V} {t : Bool} {kvs : List (D × D)} (R : Rel K G ρ σ H) (h : OpOk K G ρ σ H r v) (e : res ρ r = some (.dic t kvs)) : ∃ a, v = .ref a ∧ Rep K H NoA (.ref a) (.dic t kvs) ∧
    ∀ y k, Rep K H NoA y k → isKey t k = true → ∃ o, DGet H a y o ∧ RepO K H (Av G ρ σ) o (lookD t kvs k) := by
  have w0 := h.rep R e
  have fin : ∀ (a : Addr), v = .ref a → (Rep K H (Av G ρ σ) (.ref a) (.dic t kvs) ∨ ∃ l, Own K H (Av G ρ σ) l a (.dic t kvs)) → ∀ y k, Rep K H NoA y k → isKey t k = true → ∃ o, DGet H a y o ∧ RepO K H (Av G ρ σ) o (lookD t kvs k) := by
    intro a ea hh y k hk ok
    subst ea
    obtain ⟨o, g, _⟩ := dget_of w0 hk ok
    have main : (∃ kv, Rd H a (.dK kv) ∧ RepK K H (Av G ρ σ) kv kvs ∧ t = false) ∨ (∃ kv, Rd H a (.dT kv) ∧ RepT K H (Av G ρ σ) kv kvs ∧ t = true) := by
      rcases hh with hh | ⟨l, hh⟩
      · cases hh with
        | dk e8 n r => exact .inl ⟨_, e8, r, rfl⟩
        | dt e8 n r => exact .inr ⟨_, e8, r, rfl⟩
      · cases hh with
        | dk e8 r => exact .inl ⟨_, .inl e8, r, rfl⟩
        | dt e8 r => exact .inr ⟨_, .inl e8, r, rfl⟩
        | dkl e8 r => exact .inl ⟨_, .inr ⟨_, e8⟩, r, rfl⟩
        | dtl e8 r => exact .inr ⟨_, .inr ⟨_, e8⟩, r, rfl⟩
    rcases main with ⟨kv, e8, r, rfl⟩ | ⟨kv, e8, r, rfl⟩
    · unfold isKey at ok
      obtain ⟨kk, e2⟩ := Option.isSome_iff_exists.mp ok
      have z := key_toKey e2
      subst z
      have y' := keyV_rep hk
      subst y'
      exact ⟨_, .inl ⟨_, kk, e8, rfl, rfl⟩, r.look kk⟩
    · cases k with
      | tup ds =>
        obtain ⟨kk, e2⟩ := Option.isSome_iff_exists.mp (show (toKeys ds).isSome = true from ok)
        have z := map_toKeys e2
        subst z
        cases hk with
        | tup h w =>
          rw [keysV_rep w] at h
          exact ⟨_, .inr ⟨_, kk, _, e8, rfl, h, rfl⟩, r.look kk⟩
      | _ => exact absurd ok (by simp [isKey])
  cases r with
  | val d' =>
    cases e
    cases w0 with
    | dk e8 n r => exact ⟨_, rfl, .dk e8 n r, fin _ rfl (.inl h)⟩
    | dt e8 n r => exact ⟨_, rfl, .dt e8 n r, fin _ rfl (.inl h)⟩
  | new d' =>
    cases e
    cases w0 with
    | dk e8 n r => exact ⟨_, rfl, .dk e8 n r, fin _ rfl (.inl h)⟩
    | dt e8 n r => exact ⟨_, rfl, .dt e8 n r, fin _ rfl (.inl h)⟩
  | slot i =>
    obtain ⟨s, q, l, d', e'⟩ := h
    rw [res_slot e'] at e
    cases e
    obtain ⟨a, s', w⟩ := R.ow i q l _ e'
    rw [s] at s'
    cases s'
    exact ⟨a, rfl, w0, fin a rfl (.inr ⟨l, w⟩)⟩
end
section
variable {X : Cx}
/-- in, not in, a dict: by values -/
theorem op_inDict (hu : X.A.units + 1 < cLine) : OpR X (compareOp .In) (fun x y H Q => ∃ a o, y = .ref a ∧ DGet H a x o ∧ Q (.bl o.isSome) H) := by
  intro pins s σ H x y v u Q I rx ry h
  obtain ⟨a, o, rfl, g, q⟩ := h
  cases ry
  exact d_in hu I g rx fun s' I' => ⟨.bl _, H, I', rfl, q⟩
theorem op_notInDict (hu : X.A.units + 1 < cLine) : OpR X (compareOp .NotIn) (fun x y H Q => ∃ a o, y = .ref a ∧ DGet H a x o ∧ Q (.bl (!o.isSome)) H) := by
  intro pins s σ H x y v u Q I rx ry h
  obtain ⟨a, o, rfl, g, q⟩ := h
  cases ry
  exact d_notIn hu I g rx fun s' I' => ⟨.bl _, H, I', rfl, q⟩
theorem ck_in (hu : X.A.units + 65 < cLine) : CmpK X .In inD := ⟨_, OpR.or op_in_seq (OpR.or (op_inD hu) (op_inDict (by omega))), fun G ρ σ H r1 r2 a b x y c Q R o1 o2 e1 e2 e q => by
  unfold inD at e
  split at e
  · split at e
    · rename_i ds z
      cases e
      rw [Bool.and_eq_true] at z
      obtain ⟨p, xs, rfl, h, w⟩ := o2.tup R e2
      have w' : RepAll X.K H NoA xs ds := w.go ⟨fun _ _ e _ => e, fun _ _ e _ => e, fun _ z => z.elim⟩
      have wx := o1.rep R e1
      refine .inl ⟨p, xs, rfl, .inr (SqT.of h), flat_rep wx z.1, flat_all w' z.2, ?_⟩
      show Q (.bl (inV x xs)) H
      rw [inV_rep wx z.1 w' z.2]
      exact q
    · cases e
  · split at e
    · rename_i ds z
      cases e
      rw [Bool.and_eq_true] at z
      obtain ⟨n1, s1⟩ := okE_of z.1
      obtain ⟨n2, s2⟩ := okE_of z.2
      refine .inr (.inl ⟨_, D.pyAll ds, (o1.rep R e1).dp n1, (o2.rep R e2).dp n2, s1, s2, ?_⟩)
      rw [any_py]
      exact q
    · cases e
  · split at e
    · rename_i t kvs z
      cases e
      obtain ⟨p, rfl, _, g⟩ := o2.dic R e2
      obtain ⟨o, g1, g2⟩ := g x a (o1.rep R e1) z
      refine .inr (.inr ⟨p, o, rfl, g1, ?_⟩)
      rw [g2.isSome]
      exact q
    · cases e
  · cases e⟩
theorem ck_notin (hu : X.A.units + 65 < cLine) : CmpK X .NotIn notInD := ⟨_, OpR.or op_notIn_seq (OpR.or (op_notInD hu) (op_notInDict (by omega))), fun G ρ σ H r1 r2 a b x y c Q R o1 o2 e1 e2 e q => by
  unfold notInD inD at e
  split at e
  · split at e
    · rename_i ds z
      cases e
      rw [Bool.and_eq_true] at z
      obtain ⟨p, xs, rfl, h, w⟩ := o2.tup R e2
      have w' : RepAll X.K H NoA xs ds := w.go ⟨fun _ _ e _ => e, fun _ _ e _ => e, fun _ z => z.elim⟩
      have wx := o1.rep R e1
      refine .inl ⟨p, xs, rfl, .inr (SqT.of h), flat_rep wx z.1, flat_all w' z.2, ?_⟩
      show Q (.bl (!inV x xs)) H
      rw [inV_rep wx z.1 w' z.2]
      exact q
    · cases e
  · split at e
    · rename_i ds z
      cases e
      rw [Bool.and_eq_true] at z
      obtain ⟨n1, s1⟩ := okE_of z.1
      obtain ⟨n2, s2⟩ := okE_of z.2
      refine .inr (.inl ⟨_, D.pyAll ds, (o1.rep R e1).dp n1, (o2.rep R e2).dp n2, s1, s2, ?_⟩)
      rw [any_py]
      exact q
    · cases e
  · split at e
    · rename_i t kvs z
      cases e
      obtain ⟨p, rfl, _, g⟩ := o2.dic R e2
      obtain ⟨o, g1, g2⟩ := g x a (o1.rep R e1) z
      refine .inr (.inr ⟨p, o, rfl, g1, ?_⟩)
      rw [g2.isSome]
      exact q
    · cases e
  · cases e⟩

/-! ### tests, truth values -/
variable {a b c : Expr} {f g h : SE} {pos : Pos} {rest : List Expr}
def notT (t : STe) : STe := fun ρ => match t ρ with
  | some (b, ρ') => some (!b, ρ')
  | none => none
theorem Ts.not {t : STe} (ha : Ts X a t) : Ts X (.UnaryOp .Not a pos) (notT t) := PT.imp (pt_not ha) fun σ H Q ⟨G, ρ, r, ρ', R0, hf, hQ⟩ => by
  unfold notT at hf
  split at hf
  · rename_i b ρ2 e
    cases hf
    exact ⟨G, ρ, b, ρ', R0, e, fun H' S R => hQ H' S R⟩
  · cases hf
/-- truth -/
def truD : D → Option Bool
  | .non => some false
  | .bl b => some b
  | .int i => some (i != 0)
  | .str x => if x.length ≤ 16000000 then some ((x.length : Int) != 0) else none
  | .tup ds => some (!ds.isEmpty)
  | .lst ds => some (!ds.isEmpty)
  | _ => none
def truT (f : SE) : STe := fun ρ => match f ρ with
  | some (r, ρ') => match res ρ' r with
    | some d => (truD d).map fun b => (b, ρ')
    | none => none
  | none => none
theorem isEmpty_len {α β : Type} {xs : List α} {ys : List β} (h : xs.length = ys.length) : xs.isEmpty = ys.isEmpty := by
  cases xs <;> cases ys <;> first | rfl | (simp at h)
theorem Ts.truth (ha : Ex X a f) (he : ∀ whole, isTrue a X.env whole = (do let v ← whole; standAt a.pos; holding [v] (truthy v)) := by intro _; rfl) : Ts X a (truT f) := PT.imp (pt_truth ha he) fun σ H Q ⟨G, ρ, t, ρ', R0, hf, hQ⟩ => by
  unfold truT at hf
  split at hf
  · rename_i r ρ2 e
    split at hf
    · rename_i d ed
      cases q : truD d with
      | none => rw [q] at hf; cases hf
      | some b =>
        rw [q] at hf
        cases hf
        refine ⟨G, ρ, r, ρ', R0, e, fun v H' P => ⟨t, ?_, hQ H' P.step P.rel⟩⟩
        have o := P.ok R0
        cases d with
        | non => cases q; have w := o.rep P.rel ed; cases w; rfl
        | bl b => cases q; rw [o.bl P.rel ed]; rfl
        | int i => cases q; rw [o.int P.rel ed]; rfl
        | str x =>
          simp only [truD] at q
          split at q
          · rename_i c
            cases q
            rw [o.str P.rel ed]
            exact ⟨szl c, rfl⟩
          · cases q
        | tup ds =>
          cases q
          obtain ⟨a, xs, rfl, h1, w⟩ := o.tup P.rel ed
          exact .inr (.inl ⟨xs, SqT.of h1, by rw [isEmpty_len w.length]⟩)
        | lst ds =>
          cases q
          obtain ⟨a, xs, rfl, h1, w⟩ := o.lst P.rel ed
          exact .inl ⟨xs, SqL.of h1, by rw [isEmpty_len w.length]⟩
        | _ => cases q
    · cases hf
  · cases hf
def andT (f g : STe) : STe := fun ρ => match f ρ with
  | some (true, ρ') => g ρ'
  | some (false, ρ') => some (false, ρ')
  | none => none
def orT (f g : STe) : STe := fun ρ => match f ρ with
  | some (true, ρ') => some (true, ρ')
  | some (false, ρ') => g ρ'
  | none => none
theorem Tw.and1 {t : STe} (ha : Ts X a t) : Tw X (.BoolOp .And [a] pos) t := pw_and1 ha
theorem Tw.or1 {t : STe} (ha : Ts X a t) : Tw X (.BoolOp .Or [a] pos) t := pw_or1 ha
theorem Tw.and {t u : STe} (ha : Ts X a t) (hb : Tw X (.BoolOp .And (b :: rest) pos) u) : Tw X (.BoolOp .And (a :: b :: rest) pos) (andT t u) := PW.imp (pw_and ha hb) fun σ H Q ⟨G, ρ, r, ρ', R0, hf, hQ⟩ => by
  unfold andT at hf
  split at hf
  · rename_i ρ2 e
    exact ⟨G, ρ, true, ρ2, R0, e, fun H1 S1 R1 => (if_pos rfl).mpr ⟨G, ρ2, r, ρ', R1, hf, fun H2 S2 R2 => hQ H2 (S1.trans S2) R2⟩⟩
  · rename_i ρ2 e
    cases hf
    exact ⟨G, ρ, false, ρ', R0, e, fun H1 S1 R1 => (if_neg Bool.false_ne_true).mpr (hQ H1 S1 R1)⟩
  · cases hf
theorem Tw.or {t u : STe} (ha : Ts X a t) (hb : Tw X (.BoolOp .Or (b :: rest) pos) u) : Tw X (.BoolOp .Or (a :: b :: rest) pos) (orT t u) := PW.imp (pw_or ha hb) fun σ H Q ⟨G, ρ, r, ρ', R0, hf, hQ⟩ => by
  unfold orT at hf
  split at hf
  · rename_i ρ2 e
    cases hf
    exact ⟨G, ρ, true, ρ', R0, e, fun H1 S1 R1 => (if_pos rfl).mpr (hQ H1 S1 R1)⟩
  · rename_i ρ2 e
    exact ⟨G, ρ, false, ρ2, R0, e, fun H1 S1 R1 => (if_neg Bool.false_ne_true).mpr ⟨G, ρ2, r, ρ', R1, hf, fun H2 S2 R2 => hQ H2 (S1.trans S2) R2⟩⟩
  · cases hf
theorem Ts.ofW {t : STe} (h : Tw X a t) : Ts X a t := PW.pt h
/-- and, or, not as values, of truths -/
def andV (f g : SE) : SE := fun ρ => match f ρ with
  | some (.val (.bl true), ρ') => g ρ'
  | some (.val (.bl false), ρ') => some (.val (.bl false), ρ')
  | _ => none
def orV (f g : SE) : SE := fun ρ => match f ρ with
  | some (.val (.bl true), ρ') => some (.val (.bl true), ρ')
  | some (.val (.bl false), ρ') => g ρ'
  | _ => none
def notV (f : SE) : SE := fun ρ => match f ρ with
  | some (.val (.bl b), ρ') => some (.val (.bl (!b)), ρ')
  | _ => none
theorem post_bl {K : PySem.W.Frag} {G : Fr} {ρ ρ' : En} {σ : St} {H H' : Hp} {v : V} {b : Bool} (P : PostE K G ρ σ H (.val (.bl b)) ρ' v H') : v = .bl b := by
  have w := P.2.2
  cases w; rfl
theorem Ex.one {op : BoolOp} (ha : Ex X a f) : Ex X (.BoolOp op [a] pos) f := pe_one ha
theorem Ex.and (ha : Ex X a f) (hb : Ex X (.BoolOp .And (b :: rest) pos) g) : Ex X (.BoolOp .And (a :: b :: rest) pos) (andV f g) := PE.imp (pe_and ha hb) fun σ H Q ⟨G, ρ, r, ρ', R0, hf, hQ⟩ => by
  unfold andV at hf
  split at hf
  · rename_i ρ2 e
    refine ⟨G, ρ, _, ρ2, R0, e, fun v H1 P => ⟨true, post_bl P, ?_⟩⟩
    rw [if_pos rfl]
    exact ⟨G, ρ2, r, ρ', P.rel, hf, fun v H2 P2 => hQ v H2 (P2.trans P.step P.rel)⟩
  · rename_i ρ2 e
    cases hf
    refine ⟨G, ρ, _, ρ', R0, e, fun v H1 P => ⟨false, post_bl P, ?_⟩⟩
    rw [if_neg Bool.false_ne_true]
    rw [post_bl P] at P
    exact hQ _ _ P
  · cases hf
theorem Ex.or (ha : Ex X a f) (hb : Ex X (.BoolOp .Or (b :: rest) pos) g) : Ex X (.BoolOp .Or (a :: b :: rest) pos) (orV f g) := PE.imp (pe_or ha hb) fun σ H Q ⟨G, ρ, r, ρ', R0, hf, hQ⟩ => by
  unfold orV at hf
  split at hf
  · rename_i ρ2 e
    cases hf
    refine ⟨G, ρ, _, ρ', R0, e, fun v H1 P => ⟨true, post_bl P, ?_⟩⟩
    rw [if_pos rfl]
    rw [post_bl P] at P
    exact hQ _ _ P
  · rename_i ρ2 e
    refine ⟨G, ρ, _, ρ2, R0, e, fun v H1 P => ⟨false, post_bl P, ?_⟩⟩
    rw [if_neg Bool.false_ne_true]
    exact ⟨G, ρ2, r, ρ', P.rel, hf, fun v H2 P2 => hQ v H2 (P2.trans P.step P.rel)⟩
  · cases hf
theorem Ex.not (ha : Ex X a f) : Ex X (.UnaryOp .Not a pos) (notV f) := PE.imp (pe_not ha) fun σ H Q ⟨G, ρ, r, ρ', R0, hf, hQ⟩ => by
  unfold notV at hf
  split at hf
  · rename_i b ρ2 e
    cases hf
    exact ⟨G, ρ, _, ρ', R0, e, fun v H1 P => ⟨b, post_bl P, hQ _ _ ⟨P.step, P.rel, .bl _⟩⟩⟩
  · cases hf
/-- a if t else b -/
def iteV (t : STe) (f g : SE) : SE := fun ρ => match t ρ with
  | some (true, ρ') => f ρ'
  | some (false, ρ') => g ρ'
  | none => none
theorem Ex.ife {t : STe} (hc : Ts X c t) (ha : Ex X a f) (hb : Ex X b g) : Ex X (.IfExp c a b pos) (iteV t f g) := PE.imp (pe_ifExp hc ha hb) fun σ H Q ⟨G, ρ, r, ρ', R0, hf, hQ⟩ => by
  unfold iteV at hf
  split at hf
  · rename_i ρ2 e
    exact ⟨G, ρ, true, ρ2, R0, e, fun H1 S1 R1 => (if_pos rfl).mpr ⟨G, ρ2, r, ρ', R1, hf, fun v H2 P2 => hQ v H2 (P2.trans S1 R1)⟩⟩
  · rename_i ρ2 e
    exact ⟨G, ρ, false, ρ2, R0, e, fun H1 S1 R1 => (if_neg Bool.false_ne_true).mpr ⟨G, ρ2, r, ρ', R1, hf, fun v H2 P2 => hQ v H2 (P2.trans S1 R1)⟩⟩
  · cases hf
/-- -a -/
def negV (f : SE) : SE := fun ρ => match f ρ with
  | some (.val (.int i), ρ') => some (.val (.int (-i)), ρ')
  | _ => none
theorem Ex.neg (ha : Ex X a f) : Ex X (.UnaryOp .USub a pos) (negV f) := PE.imp (pe_un un_neg ha) fun σ H Q ⟨G, ρ, r, ρ', R0, hf, hQ⟩ => by
  unfold negV at hf
  split at hf
  · rename_i i ρ2 e
    cases hf
    refine ⟨G, ρ, _, ρ', R0, e, fun v H1 P => ⟨i, ?_, hQ _ _ ⟨P.step, P.rel, .int _⟩⟩⟩
    have w := P.2.2
    cases w; rfl
  · cases hf
end
end Mi

/-! Argument lists, displays, subscripts, slices, calls of built-ins. -/
namespace Mi
open PySem PySem.Spec
open PyProof.Rows hiding St
open L2
section
variable {K : PySem.W.Frag} {G : Fr} {ρ ρ' ρ1 ρ2 : En} {σ σ' : St} {H H' H1 H2 : Hp}
theorem OpsOk.unplus {r0 : Opd} {v0 : V} : ∀ {rs : List Opd} {vs : List V}, OpsOk K (G.plus r0 v0) ρ σ H rs vs → OpsOk K G ρ σ H rs vs
  | _, _, .nil => .nil
  | _, _, .cons h r => .cons h.unplus (OpsOk.unplus r)
def resAll (ρ : En) : List Opd → Option (List D)
  | [] => some []
  | r :: rs => match res ρ r, resAll ρ rs with
    | some d, some ds => some (d :: ds)
    | _, _ => none
def keepAll : List Opd → Option (List D)
  | [] => some []
  | r :: rs => match keepD r, keepAll rs with
    | some d, some ds => some (d :: ds)
    | _, _ => none
theorem OpsOk.kept : ∀ {rs : List Opd} {vs : List V} {ds : List D}, OpsOk K G ρ σ H rs vs → keepAll rs = some ds → RepAll K H (Av G ρ σ) vs ds
  | _, _, ds, .nil, e => by cases e; exact .nil
  | _, _, ds, .cons (r := r) (rs := rs) h w, e => by
    simp only [keepAll] at e
    split at e
    · rename_i d ds' e1 e2
      cases e
      exact .cons (h.kept e1) (OpsOk.kept w e2)
    · cases e
end
/-! ### argument lists, operands that wait -/
/-- an operand as it stands for a name to take -/
def OpS (K : PySem.W.Frag) (G : Fr) (ρ : En) (σ : St) (H : Hp) (r : Opd) (v : V) : Prop :=
  match r with
  | .val d => Rep K H (Av G ρ σ) v d
  | .new d => ∃ p, v = .ref p ∧ G.O p ∧ ¬ Owned ρ σ p ∧ Own K H (Av G ρ σ) false p d
  | .slot i => σ[i]? = some (some v) ∧ ∃ p l d, ρ[i]? = some (.ow p l d)
section
variable {K : PySem.W.Frag} {G G' : Fr} {ρ ρ' ρ1 ρ2 : En} {σ σ' σ1 σ2 : St} {H H' H1 H2 : Hp} {r : Opd} {v : V} {i : Nat} {d : D} {p : Addr}
theorem PostE.opS (R : Rel K G ρ σ H) (P : PostE K G ρ σ H r ρ' v H') : OpS K (G.plus r v) ρ' σ H' r v := by
  cases r with
  | val d => exact P.2.2
  | slot j => exact P.2.2
  | new d =>
    obtain ⟨S, p, e, hp, R', w⟩ := P
    subst e
    exact ⟨p, rfl, .inr rfl, S.notOwned R hp, w⟩
/-- an operand that waits for its name -/
theorem OpS.go {G2 : Fr} (h : OpS K G ρ σ H r v) (R : Rel K G ρ σ H) (S : Step ρ σ H ρ' H') (i : ∀ a, G.O a → G2.O a) (n : ∀ a, G2.O a → H a ≠ none → G.O a) : OpS K G2 ρ' σ H' r v := by
  have g : Goes H H' (Av G ρ σ) (Av G2 ρ' σ) := R.goes S.keep fun b h hn => h.elim (fun z => .inl (n b z hn)) fun z => .inr ((S.sk.owned b).mp z)
  cases r with
  | val d => exact Rep.go g h
  | new d =>
    obtain ⟨p, e, hp, no, w⟩ := h
    exact ⟨p, e, i p hp, fun z => no ((S.sk.owned p).mp z), w.go g fun o e => S.keep _ o e fun z => no z.owned⟩
  | slot j =>
    obtain ⟨s, q, l, d, e⟩ := h
    obtain ⟨d', e'⟩ := S.sk.ow e
    exact ⟨s, q, l, d', e'⟩
theorem PostE.hO (R : Rel K G ρ σ H) (P : PostE K G ρ σ H r ρ' v H') : ∀ p, (∃ d, r = .new d) → v = .ref p → ¬ G.O p ∧ H p = none := by
  rintro p ⟨d, rfl⟩ rfl
  obtain ⟨S, q, e, hq, _⟩ := P
  cases e
  exact ⟨fun z => R.dom _ z hq, hq⟩
/-- the addresses that are new -/
def newsOf : List Opd → List V → List Addr
  | .new _ :: rs, .ref p :: vs => p :: newsOf rs vs
  | _ :: rs, _ :: vs => newsOf rs vs
  | _, _ => []
inductive OpsS (K : PySem.W.Frag) (G : Fr) (ρ : En) (σ : St) (H : Hp) : List Opd → List V → Prop
  | nil : OpsS K G ρ σ H [] []
  | cons {r : Opd} {v : V} {rs : List Opd} {vs : List V} : OpS K G ρ σ H r v → OpsS K G ρ σ H rs vs → OpsS K G ρ σ H (r :: rs) (v :: vs)
theorem OpsS.go {G2 : Fr} (R : Rel K G ρ σ H) (S : Step ρ σ H ρ' H') (i : ∀ a, G.O a → G2.O a) (n : ∀ a, G2.O a → H a ≠ none → G.O a) : ∀ {rs : List Opd} {vs : List V}, OpsS K G ρ σ H rs vs → OpsS K G2 ρ' σ H' rs vs
  | _, _, .nil => .nil
  | _, _, .cons h r => .cons (h.go R S i n) (OpsS.go R S i n r)
/-- behind a row of operands: Gt protects what is new besides -/
structure ArgsOk (K : PySem.W.Frag) (G : Fr) (H0 : Hp) (ρ : En) (σ : St) (H : Hp) (rs : List Opd) (vs : List V) : Prop where
  ex : ∃ Gt : Fr, Gt.pin = G.pin ∧ (∀ a, Gt.O a ↔ G.O a ∨ a ∈ newsOf rs vs) ∧ Rel K Gt ρ σ H ∧ OpsS K Gt ρ σ H rs vs
  fresh : ∀ a, a ∈ newsOf rs vs → H0 a = none ∧ ¬ Owned ρ σ a
  nd : (newsOf rs vs).Nodup
theorem ArgsOk.rel {H0 : Hp} {rs : List Opd} {vs : List V} (h : ArgsOk K G H0 ρ σ H rs vs) : Rel K G ρ σ H := by
  obtain ⟨⟨O, pin⟩, hp, hO, R, _⟩ := h.ex
  cases G with
  | mk O' pin' =>
    cases (show pin = pin' from hp)
    exact R.less fun a z => (hO a).mpr (.inl z)
theorem OpsS.weak {Gt : Fr} (hR : ∀ a, G.O a → Gt.O a) {rs : List Opd} {vs : List V} (h : OpsS K Gt ρ σ H rs vs) : (∀ a, a ∈ newsOf rs vs → ¬ G.O a) → OpsOk K G ρ σ H rs vs := by
  have g : Goes H H (Av Gt ρ σ) (Av G ρ σ) := ⟨fun _ _ e _ => e, fun _ _ e _ => e, fun b z _ => z.elim (fun z => .inl (hR b z)) .inr⟩
  induction h with
  | nil => exact fun _ => .nil
  | @cons r v rs vs h w ih =>
    intro hf
    refine .cons ?_ (ih fun a ha => hf a ?_)
    · cases r with
      | val d => exact Rep.go g h
      | slot j => exact h
      | new d =>
        obtain ⟨p, rfl, hp, no, ow⟩ := h
        exact ow.rep (fun b z _ => z.elim (fun z => .inl (hR b z)) .inr) fun z => z.elim (hf p (by simp [newsOf])) no
    · cases r with
      | val d => simpa [newsOf] using ha
      | slot j => simpa [newsOf] using ha
      | new d => cases v <;> first | (simpa [newsOf] using ha) | (simp only [newsOf]; exact List.mem_cons_of_mem _ ha)
theorem ArgsOk.ok {H0 : Hp} {rs : List Opd} {vs : List V} (R0 : Rel K G ρ1 σ1 H0) (h : ArgsOk K G H0 ρ σ H rs vs) : OpsOk K G ρ σ H rs vs := by
  obtain ⟨Gt, hp, hO, R, w⟩ := h.ex
  exact OpsS.weak (fun a z => (hO a).mpr (.inl z)) w fun a ha z => R0.dom a z (h.fresh a ha).1
end
def tA (K : PySem.W.Frag) (f : SA) : TA := fun σ H Q => ∃ G ρ rs ρ', Rel K G ρ σ H ∧ f ρ = some (rs, ρ') ∧ ∀ vs H', Step ρ σ H ρ' H' → ArgsOk K G H ρ' σ H' rs vs → Q vs H'
abbrev Ar (X : Cx) (es : List Expr) (f : SA) : Prop := PA X es (tA X.K f)
def nilA : SA := fun ρ => some ([], ρ)
def consA (f : SE) (F : SA) : SA := fun ρ => match f ρ with
  | none => none
  | some (r, ρ1) => match F ρ1 with
    | none => none
    | some (rs, ρ2) => some (r :: rs, ρ2)
section
variable {X : Cx} {e : Expr} {es : List Expr} {f : SE} {F : SA} {pos : Pos}
theorem Ar.nil : Ar X [] nilA := PA.imp pa_nil fun σ H Q ⟨G, ρ, rs, ρ', R0, hf, hQ⟩ => by
  cases hf
  exact hQ [] H (Step.refl _ _ _) ⟨⟨G, rfl, fun a => by simp [newsOf], R0, .nil⟩, fun a h => by simp [newsOf] at h, by simp [newsOf]⟩
theorem consA_elim {K : PySem.W.Frag} {σ : St} {H : Hp} {Q : List V → Hp → Prop} (h : tA K (consA f F) σ H Q) : tCons (tE K f) (tA K F) σ H Q := by
  obtain ⟨G, ρ, rs, ρ', R0, hf, hQ⟩ := h
  unfold consA at hf
  cases e1 : f ρ with
  | none => rw [e1] at hf; cases hf
  | some a1 =>
    obtain ⟨r, ρ1⟩ := a1
    rw [e1] at hf
    cases e2 : F ρ1 with
    | none => simp only [e2] at hf; cases hf
    | some a2 =>
      obtain ⟨rs', ρ2⟩ := a2
      simp only [e2] at hf
      cases hf
      refine ⟨G, ρ, r, ρ1, R0, e1, fun x H1 P1 => ⟨G.plus r x, ρ1, rs', ρ', P1.relP, e2, fun vs H2 S2 A2 => hQ (x :: vs) H2 (P1.step.trans S2) ?_⟩⟩
      obtain ⟨Gt, hp, hO, R, w⟩ := A2.ex
      have w1 : OpS K Gt ρ' σ H2 r x := (P1.opS R0).go P1.relP S2 (fun a z => (hO a).mpr (.inl z)) fun a z n => ((hO a).mp z).elim id fun q => absurd (A2.fresh a q).1 n
      have up : ∀ a, a ∈ newsOf rs' vs → H a = none := fun a h => P1.step.none P1.rel (A2.fresh a h).1
      cases r with
      | val d => exact ⟨⟨Gt, hp, fun a => by rw [hO a]; rfl, R, .cons w1 w⟩, fun a h => ⟨up a h, (A2.fresh a h).2⟩, A2.nd⟩
      | slot j => exact ⟨⟨Gt, hp, fun a => by rw [hO a]; rfl, R, .cons w1 w⟩, fun a h => ⟨up a h, (A2.fresh a h).2⟩, A2.nd⟩
      | new d =>
        obtain ⟨p, rfl, hpO, no, ow⟩ := id w1
        have hp0 : H p = none := (P1.hO R0 p ⟨d, rfl⟩ rfl).2
        refine ⟨⟨Gt, hp, fun a => ?_, R, .cons w1 w⟩, fun a h => ?_, ?_⟩
        · rw [hO a]
          simp only [newsOf, List.mem_cons]
          constructor
          · rintro ((h | h) | h)
            · exact .inl h
            · exact .inr (.inl h)
            · exact .inr (.inr h)
          · rintro (h | h | h)
            · exact .inl (.inl h)
            · exact .inl (.inr h)
            · exact .inr h
        · simp only [newsOf, List.mem_cons] at h
          rcases h with rfl | h
          · exact ⟨hp0, no⟩
          · exact ⟨up a h, (A2.fresh a h).2⟩
        · simp only [newsOf, List.nodup_cons]
          refine ⟨fun z => ?_, A2.nd⟩
          have q := (A2.fresh p z).1
          obtain ⟨_, p', e', _, R', _⟩ := P1
          cases e'
          exact R'.dom p (.inr rfl) q
theorem Ar.cons (ha : Ex X e f) (hr : Ar X es F) (hs : starEach (e :: es) X.env = (false, eval e X.env) :: starEach es X.env := by rfl) : Ar X (e :: es) (consA f F) := PA.imp (pa_cons ha hr hs) fun σ H Q h => consA_elim h

/-! ### displays -/
def tupF (F : SA) : SE := fun ρ => match F ρ with
  | some (rs, ρ') => match keepAll rs with
    | some ds => if ds.length ≤ 16000000 then some (.val (.tup ds), ρ') else none
    | none => none
  | none => none
def lstF (F : SA) : SE := fun ρ => match F ρ with
  | some (rs, ρ') => match keepAll rs with
    | some ds => if ds.length ≤ 16000000 then some (.new (.lst ds), ρ') else none
    | none => none
  | none => none
theorem Ex.tup {k : Nat} (h : Ar X es F) : Ex X (.Tuple es k pos) (tupF F) := PE.imp (pe_tup h) fun σ H Q ⟨G, ρ, r, ρ', R0, hf, hQ⟩ => by
  unfold tupF at hf
  split at hf
  · rename_i rs ρ2 e1
    split at hf
    · rename_i ds e2
      split at hf
      · rename_i c
        cases hf
        refine ⟨G, ρ, rs, ρ', R0, e1, fun vs H1 S1 A1 => ?_⟩
        have R1 := A1.rel
        have w := (A1.ok R0).kept e2
        exact ⟨by rw [w.length]; exact szl c, fun p hp => hQ _ _ ((post_tup R1 w hp).trans S1 R1)⟩
      · cases hf
    · cases hf
  · cases hf
theorem Ex.lst (h : Ar X es F) : Ex X (.List es pos) (lstF F) := PE.imp (pe_lst h) fun σ H Q ⟨G, ρ, r, ρ', R0, hf, hQ⟩ => by
  unfold lstF at hf
  split at hf
  · rename_i rs ρ2 e1
    split at hf
    · rename_i ds e2
      split at hf
      · rename_i c
        cases hf
        refine ⟨G, ρ, rs, ρ', R0, e1, fun vs H1 S1 A1 => ?_⟩
        have R1 := A1.rel
        have w := (A1.ok R0).kept e2
        exact ⟨by rw [w.length]; exact szl c, fun p hp => hQ _ _ ((post_lst R1 w hp).trans S1 R1)⟩
      · cases hf
    · cases hf
  · cases hf
/-- {} -/
def dicF (t : Bool) : SE := fun ρ => some (.new (.dic t []), ρ)
theorem Ex.dicK : Ex X (.Dict [] [] pos) (dicF false) := PE.imp pe_dnewK fun σ H Q ⟨G, ρ, r, ρ', R0, hf, hQ⟩ => by
  cases hf
  exact fun p hp => hQ _ _ (post_dic (t := false) R0 hp)
theorem Ex.dicT : Ex X (.Dict [] [] pos) (dicF true) := PE.imp pe_dnewT fun σ H Q ⟨G, ρ, r, ρ', R0, hf, hQ⟩ => by
  cases hf
  exact fun p hp => hQ _ _ (post_dic (t := true) R0 hp)
end

/-! ### subscripts -/
section
variable {X : Cx} {a b : Expr} {f g : SE} {pos : Pos}
theorem ix_dict (hu : X.A.units + 1 < cLine) : IxR X (fun x y H Q => ∃ a v, x = .ref a ∧ DGet H a y (some v) ∧ Q v H) := by
  intro value slice pins s σ H x y v u Q I rx ry h hs
  obtain ⟨a, z, rfl, g, q⟩ := h
  cases rx
  have hT := dict_typeIs I g
  have h2 : wpAny (model X.prog X.w) X.A (getItem (.ref a) u) (EP X pins σ Q) X.xe s := d_getItem hu I g ry fun w' s' I' r' => ⟨z, H, I', r', q⟩
  unfold subscriptTail
  refine wpAny_bind ?_
  rw [getitemInPython_of_ne hT.not_modules]
  refine wpAny_bind (wpAny_specialOf hT PySem.F.slot_dict_getitem.lookup ?_)
  have fin : wpAny (model X.prog X.w) X.A (subscripted slice false (.ref a) u) (fun r s₃ => wpAny (model X.prog X.w) X.A (letTemporaryGo value (.ref a) r >>= fun _ => pure r) (EP X pins σ Q) X.xe s₃) X.xe s := by
    rw [hs]
    exact wpAny_operating (wpAny_mono h2 (fun r s₃ h₃ => wpAny_bind (wpAny_letTemporaryGo (wpAny_pure h₃))) fun _ _ x => x)
  first
    | exact wpAny_pure (wpAny_bind fin)
    | exact wpAny_bind (wpAny_pure (wpAny_bind fin))
    | exact wpAny_bind fin
theorem RepAll.at {K : PySem.W.Frag} {H : Hp} {A : Addr → Prop} {vs : List V} {ds : List D} {i : Int} {d : D} (r : RepAll K H A vs ds) (h : atI ds i = some d) : ∃ v, atI vs i = some v ∧ Rep K H A v d := by
  unfold atI at h ⊢
  rw [r.length]
  cases e : ixN ds.length i with
  | none => rw [e] at h; cases h
  | some j =>
    rw [e] at h
    exact r.get h
/-- a[k] -/
def ixD (a k : D) : Option Opd := match a, k with
  | .tup ds, .int i => (atI ds i).map .val
  | .kt ds, .int i => (atI ds i).map .val
  | .lst ds, .int i => (atI ds i).map .val
  | .scr ns, .int i => (atI ns i).map fun n => .val (.int n)
  | .dic t kvs, k => if isKey t k then (lookD t kvs k).map .val else none
  | _, _ => none
theorem atI_map {α β : Type} (f : α → β) (xs : List α) (i : Int) : atI (xs.map f) i = (atI xs i).map f := by
  unfold atI
  rw [List.length_map]
  cases ixN xs.length i with
  | none => rfl
  | some j => simp
theorem Ex.ix (hu : X.A.units + 1 < cLine) (ha : Ex X a f) (hb : Ex X b g) (hs : PlainIx b := by intro _ _; rfl) : Ex X (.Subscript a b pos) (bin2 ixD f g) :=
  PE.imp (pe_ix (IxR.or ix_list (IxR.or ix_tup (ix_dict hu))) ha hb hs) fun σ H Q ⟨G, ρ, r, ρ', R0, hf, hQ⟩ => bin2_elim R0 hf fun r1 r2 a b x y H2 e e1 e2 S R o1 o2 => by
    have seq : ∀ (ds : List D) (i : Int) (p : Addr) (xs : List V), RepAll X.K H2 (Av G ρ' σ) xs ds → (atI ds i).map Opd.val = some r → ∃ v, atI xs i = some v ∧ Q v H2 := fun ds i p xs w e => by
      cases q : atI ds i with
      | none => rw [q] at e; cases e
      | some d =>
        rw [q] at e
        cases e
        obtain ⟨v, h1, h2⟩ := w.at q
        exact ⟨v, h1, hQ v H2 ⟨S, R, h2⟩⟩
    unfold ixD at e
    split at e
    · rename_i ds i
      obtain ⟨p, xs, rfl, h, w⟩ := o1.tup R e1
      obtain ⟨v, h1, h2⟩ := seq ds i p xs w e
      exact .inr (.inl ⟨p, xs, i, v, rfl, o2.int R e2, SqT.of h, h1, h2⟩)
    · rename_i ds i
      obtain ⟨p, xs, rfl, h, w⟩ := o1.kt R e1
      obtain ⟨v, h1, h2⟩ := seq ds i p xs w e
      exact .inr (.inl ⟨p, xs, i, v, rfl, o2.int R e2, .inr h, h1, h2⟩)
    · rename_i ds i
      obtain ⟨p, xs, rfl, h, w⟩ := o1.lst R e1
      obtain ⟨v, h1, h2⟩ := seq ds i p xs w e
      exact .inl ⟨p, xs, i, v, rfl, o2.int R e2, SqL.of h, h1, h2⟩
    · rename_i ns i
      obtain ⟨p, rfl, h⟩ := o1.scr R e1
      cases q : atI ns i with
      | none => rw [q] at e; cases e
      | some n =>
        rw [q] at e
        cases e
        exact .inl ⟨p, _, i, .int n, rfl, o2.int R e2, h, by rw [atI_map, q]; rfl, hQ _ _ ⟨S, R, .int n⟩⟩
    · rename_i t kvs
      split at e
      · rename_i ok
        cases q : lookD t kvs b with
        | none => rw [q] at e; cases e
        | some d =>
          rw [q] at e
          cases e
          obtain ⟨p, rfl, _, g⟩ := o1.dic R e1
          obtain ⟨o, g1, g2⟩ := g y b (o2.rep R e2) ok
          rw [q] at g2
          obtain ⟨v, rfl, g3⟩ := g2.some
          exact .inr (.inr ⟨p, v, rfl, g1, hQ v H2 ⟨S, R, g3⟩⟩)
      · cases e
    · cases e

/-! ### slices -/
def cutL {α : Type} (xs : List α) (lo hi : Option Int) : List α := (xs.drop (HT.sIx xs.length 0 lo)).take (HT.sIx xs.length xs.length hi - HT.sIx xs.length 0 lo)
def partF (f : Option SE) (ρ : En) : Option (Option Int × En) := match f with
  | none => some (none, ρ)
  | some f => match f ρ with
    | some (.val (.int i), ρ') => some (some i, ρ')
    | _ => none
def tO (K : PySem.W.Frag) (f : Option SE) : TO := fun σ H Q => ∃ G ρ o ρ', Rel K G ρ σ H ∧ partF f ρ = some (o, ρ') ∧ ∀ H', Step ρ σ H ρ' H' → Rel K G ρ' σ H' → Q o H'
abbrev Op (X : Cx) (e : Option Expr) (f : Option SE) : Prop := PO X e (tO X.K f)
theorem PO.imp {e : Option Expr} {t t' : TO} (h : PO X e t) (i : ∀ σ H Q, t' σ H Q → t σ H Q) : PO X e t' := by
  cases h with
  | mk run => exact ⟨fun pins s σ H Q I q => run pins s σ H Q I (i σ H Q q)⟩
theorem Op.none : Op X none none := PO.imp po_none fun σ H Q ⟨G, ρ, o, ρ', R, hf, hQ⟩ => by
  cases hf
  exact hQ H (Step.refl _ _ _) R
theorem Op.some (ha : Ex X a f) : Op X (some a) (some f) := PO.imp (po_some ha) fun σ H Q ⟨G, ρ, o, ρ', R, hf, hQ⟩ => by
  simp only [partF] at hf
  split at hf
  · rename_i i ρ2 e
    cases hf
    refine ⟨G, ρ, _, ρ', R, e, fun v H' P => ⟨i, ?_, hQ H' P.step P.rel⟩⟩
    have w := P.2.2
    cases w; rfl
  · cases hf
def slF (f : SE) (lo hi : Option SE) : SE := fun ρ => match f ρ with
  | none => none
  | some (r, ρ1) => match partF lo ρ1 with
    | none => none
    | some (l, ρ2) => match partF hi ρ2 with
      | none => none
      | some (h, ρ3) => match res ρ3 r with
        | some (.tup ds) => some (.val (.tup (cutL ds l h)), ρ3)
        | some (.lst ds) => some (.new (.lst (cutL ds l h)), ρ3)
        | _ => none
theorem RepAll.cut {K : PySem.W.Frag} {H : Hp} {A : Addr → Prop} {vs : List V} {ds : List D} (r : RepAll K H A vs ds) (l h : Option Int) : RepAll K H A (cutV vs l h) (cutL ds l h) := by
  unfold cutV cutL
  rw [r.length]
  exact (r.drop _).take _
theorem Ex.slice {lo hi : Option Expr} {flo fhi : Option SE} {p2 : Pos} (ha : Ex X a f) (hl : Op X lo flo) (hu : Op X hi fhi) : Ex X (.Subscript a (.Slice lo hi none p2) pos) (slF f flo fhi) :=
  PE.imp (pe_slice (SlR.or sl_tupA sl_list) ha hl hu) fun σ H Q ⟨G, ρ, r', ρ', R0, hf, hQ⟩ => by
    unfold slF at hf
    cases e1 : f ρ with
    | none => rw [e1] at hf; cases hf
    | some a1 =>
      obtain ⟨r, ρ1⟩ := a1
      simp only [e1] at hf
      cases e2 : partF flo ρ1 with
      | none => simp only [e2] at hf; cases hf
      | some a2 =>
        obtain ⟨l, ρ2⟩ := a2
        simp only [e2] at hf
        cases e3 : partF fhi ρ2 with
        | none => simp only [e3] at hf; cases hf
        | some a3 =>
          obtain ⟨h, ρ3⟩ := a3
          simp only [e3] at hf
          refine ⟨G, ρ, r, ρ1, R0, e1, fun x H1 P1 => ⟨G.plus r x, ρ1, l, ρ2, P1.relP, e2, fun H2 S2 R2 => ⟨G.plus r x, ρ2, h, ρ3, R2, e3, fun H3 S3 R3 => ?_⟩⟩⟩
          have S := P1.step.trans (S2.trans S3)
          have R := R3.unplus
          have o := P1.later R0 (S2.trans S3)
          split at hf
          · rename_i ds ed
            cases hf
            obtain ⟨p, xs, rfl, hp, w⟩ := o.tup R ed
            refine .inl ⟨p, xs, rfl, SqT.of hp, fun z => ?_, fun z q hq => hQ _ _ ((post_tup R (w.cut l h) hq).trans S R)⟩
            refine hQ _ _ ⟨S, R, ?_⟩
            have ec : cutL ds l h = ds := by
              unfold cutL
              rw [← w.length, z.1, z.2]
              simp [w.length]
            rw [ec]
            exact .tup hp w
          · rename_i ds ed
            cases hf
            obtain ⟨p, xs, rfl, hp, w⟩ := o.lst R ed
            exact .inr ⟨p, xs, rfl, SqL.of hp, fun q hq => hQ _ _ ((post_lst R (w.cut l h) hq).trans S R)⟩
          · cases hf
end
end Mi

/-! Statements: what is known behind them, assignments, if, return, blocks. -/
namespace Mi
open PySem PySem.Spec
open PyProof.Rows hiding St
open L2

inductive Out where
  | nx (ρ : En) | rt (r : Opd) (ρ : En) | bk (ρ : En) | ct (ρ : En)
abbrev SS := En → Option Out

structure PostS (K : PySem.W.Frag) (G : Fr) (ρ : En) (σ : St) (H : Hp) (ρ' : En) (σ' : St) (H' : Hp) : Prop where
  rel : Rel K G ρ' σ' H'
  keep : ∀ b o, H b = some o → ¬ Wr ρ σ b → H' b = some o
  own : ∀ a, Owned ρ' σ' a → Owned ρ σ a ∨ H a = none
  wr : ∀ a, Wr ρ' σ' a → Wr ρ σ a ∨ H a = none
  dom : ∀ b, H b ≠ none → H' b ≠ none
/-- what is handed back -/
def RetOk (K : PySem.W.Frag) (G : Fr) (H : Hp) (ρ' : En) (σ' : St) (r : Opd) (v : V) (H' : Hp) : Prop :=
  match r with
  | .val d => Rep K H' (Av G ρ' σ') v d
  | .new d => ∃ p, v = .ref p ∧ H p = none ∧ ¬ Owned ρ' σ' p ∧ Rel K (G.add p) ρ' σ' H' ∧ Own K H' (Av (G.add p) ρ' σ') false p d
  | .slot i => σ'[i]? = some (some v) ∧ ∃ p l d, ρ'[i]? = some (.ow p l d)
def OutD (K : PySem.W.Frag) (G : Fr) (ρ : En) (σ : St) (H : Hp) (o : Out) (D : Ends) : Prop :=
  match o with
  | .nx ρ' => ∀ σ' H', PostS K G ρ σ H ρ' σ' H' → D.nx σ' H'
  | .bk ρ' => ∀ σ' H', PostS K G ρ σ H ρ' σ' H' → D.bk σ' H'
  | .ct ρ' => ∀ σ' H', PostS K G ρ σ H ρ' σ' H' → D.ct σ' H'
  | .rt r ρ' => ∀ σ' v H', PostS K G ρ σ H ρ' σ' H' → RetOk K G H ρ' σ' r v H' → D.rt v H'
def tS (K : PySem.W.Frag) (F : SS) : TS := fun D σ H => ∃ G ρ o, Rel K G ρ σ H ∧ F ρ = some o ∧ OutD K G ρ σ H o D
abbrev Sx (X : Cx) (st : Stmt) (F : SS) : Prop := PS X st (tS X.K F)
abbrev Sxs (X : Cx) (st : List Stmt) (F : SS) : Prop := PSs X st (tS X.K F)

section
variable {K : PySem.W.Frag} {G : Fr} {ρ ρ' ρ1 ρ2 : En} {σ σ' σ1 σ2 : St} {H H' H1 H2 : Hp}
theorem PostS.refl (R : Rel K G ρ σ H) : PostS K G ρ σ H ρ σ H := ⟨R, fun _ _ e _ => e, fun _ h => .inl h, fun _ h => .inl h, fun _ h => h⟩
theorem PostS.trans (a : PostS K G ρ σ H ρ1 σ1 H1) (b : PostS K G ρ1 σ1 H1 ρ2 σ2 H2) : PostS K G ρ σ H ρ2 σ2 H2 where
  rel := b.rel
  keep := fun c o e n => b.keep c o (a.keep c o e n) fun z => (a.wr c z).elim n fun y => by rw [e] at y; cases y
  own := fun c h => (b.own c h).elim (fun z => a.own c z) fun z => .inr (by
    cases q : H c with
    | none => rfl
    | some o => exact absurd z (a.dom c (by rw [q]; simp)))
  wr := fun c h => (b.wr c h).elim (fun z => a.wr c z) fun z => .inr (by
    cases q : H c with
    | none => rfl
    | some o => exact absurd z (a.dom c (by rw [q]; simp)))
  dom := fun c h => b.dom c (a.dom c h)
theorem PostS.none (a : PostS K G ρ σ H ρ' σ' H') {b : Addr} (h : H' b = Option.none) : H b = Option.none := by
  cases q : H b with
  | none => rfl
  | some o => exact absurd h (a.dom b (by rw [q]; simp))
theorem Step.post (S : Step ρ σ H ρ' H') (R : Rel K G ρ' σ H') : PostS K G ρ σ H ρ' σ H' :=
  ⟨R, S.keep, fun a h => .inl ((S.sk.owned a).mp h), fun a h => .inl ((S.sk.wr a).mp h), fun b h => by
    cases q : H b with
    | none => exact absurd q h
    | some o =>
      by_cases z : Wr ρ σ b
      · obtain ⟨o', e, _⟩ := R.owned ((S.sk.owned b).mpr z.owned)
        rw [e]; simp
      · rw [S.keep b o q z]; simp⟩
theorem RetOk.before {r : Opd} {v : V} (a : PostS K G ρ σ H ρ1 σ1 H1) (h : RetOk K G H1 ρ' σ' r v H') : RetOk K G H ρ' σ' r v H' := by
  cases r with
  | val d => exact h
  | slot i => exact h
  | new d =>
    obtain ⟨p, e, hp, n, w⟩ := h
    exact ⟨p, e, a.none hp, n, w⟩
theorem OutD.before {o : Out} {D : Ends} (a : PostS K G ρ σ H ρ1 σ1 H1) (h : OutD K G ρ σ H o D) : OutD K G ρ1 σ1 H1 o D := by
  cases o with
  | nx ρ' => exact fun σ' H' P => h σ' H' (a.trans P)
  | bk ρ' => exact fun σ' H' P => h σ' H' (a.trans P)
  | ct ρ' => exact fun σ' H' P => h σ' H' (a.trans P)
  | rt r ρ' => exact fun σ' v H' P w => h σ' v H' (a.trans P) (w.before a)
end

/-! ### blocks -/
def seqS (F1 F2 : SS) : SS := fun ρ => match F1 ρ with
  | some (.nx ρ1) => F2 ρ1
  | o => o
def skipS : SS := fun ρ => some (.nx ρ)
section
variable {X : Cx} {st : Stmt} {rest : List Stmt} {F F1 F2 : SS} {f g : SE} {t : STe} {e c : Expr} {pos : Pos}
theorem Sxs.nil : Sxs X [] skipS := PSs.imp pss_nil fun D σ H ⟨G, ρ, o, R, hf, hD⟩ => by
  cases hf
  exact hD σ H (PostS.refl R)
theorem Sxs.one (h : Sx X st F) : Sxs X [st] F := pss_one h
theorem Sxs.cons (h1 : Sx X st F1) (h2 : Sxs X rest F2) : Sxs X (st :: rest) (seqS F1 F2) := PSs.imp (pss_cons h1 h2) fun D σ H ⟨G, ρ, o, R, hf, hD⟩ => by
  unfold seqS at hf
  split at hf
  · rename_i ρ1 e
    exact ⟨G, ρ, .nx ρ1, R, e, fun σ1 H1 P => ⟨G, ρ1, o, P.rel, hf, hD.before P⟩⟩
  · rename_i o' ne
    refine ⟨G, ρ, o, R, hf, ?_⟩
    cases o with
    | nx ρ1 => exact absurd hf (ne ρ1)
    | bk ρ' => exact hD
    | ct ρ' => exact hD
    | rt r ρ' => exact hD
def passS : SS := fun ρ => some (.nx ρ)
def brS : SS := fun ρ => some (.bk ρ)
def ctS : SS := fun ρ => some (.ct ρ)
theorem Sx.pass : Sx X (.Pass pos) passS := PS.imp ps_pass fun D σ H ⟨G, ρ, o, R, hf, hD⟩ => by
  cases hf
  exact hD σ H (PostS.refl R)
theorem Sx.brk : Sx X (.Break pos) brS := PS.imp ps_break fun D σ H ⟨G, ρ, o, R, hf, hD⟩ => by
  cases hf
  exact hD σ H (PostS.refl R)
theorem Sx.cont : Sx X (.Continue pos) ctS := PS.imp ps_continue fun D σ H ⟨G, ρ, o, R, hf, hD⟩ => by
  cases hf
  exact hD σ H (PostS.refl R)
theorem Sx.doc {x : Str} {j : Nat} {pos pos' : Pos} : Sx X (.Expr (.Constant (.str x) j pos) pos') passS := PS.imp ps_doc fun D σ H ⟨G, ρ, o, R, hf, hD⟩ => by
  cases hf
  exact hD σ H (PostS.refl R)
/-- a value dropped -/
def dropS (f : SE) : SS := fun ρ => match f ρ with
  | some (_, ρ') => some (.nx ρ')
  | none => none
theorem Sx.expr (he : Ex X e f) (hs : swapsWith e none pos.line X.env = pure false := by rfl) : Sx X (.Expr e pos) (dropS f) := PS.imp (ps_expr he hs) fun D σ H ⟨G, ρ, o, R, hf, hD⟩ => by
  unfold dropS at hf
  split at hf
  · rename_i r ρ' e
    cases hf
    exact ⟨G, ρ, r, ρ', R, e, fun v H' P => hD σ H' (P.step.post P.rel)⟩
  · cases hf
def retS (f : SE) : SS := fun ρ => match f ρ with
  | some (r, ρ') => some (.rt r ρ')
  | none => none
theorem Sx.ret (he : Ex X e f) : Sx X (.Return (some e) pos) (retS f) := PS.imp (ps_ret he) fun D σ H ⟨G, ρ, o, R, hf, hD⟩ => by
  unfold retS at hf
  split at hf
  · rename_i r ρ' e
    cases hf
    refine ⟨G, ρ, r, ρ', R, e, fun v H' P => hD σ v H' (P.step.post P.rel) ?_⟩
    cases r with
    | val d => exact P.2.2
    | slot i => exact P.2.2
    | new d =>
      obtain ⟨S, p, e, hp, R', w⟩ := P
      exact ⟨p, e, hp, S.notOwned R hp, R', w⟩
  · cases hf
def ifS (t : STe) (F1 F2 : SS) : SS := fun ρ => match t ρ with
  | some (true, ρ') => F1 ρ'
  | some (false, ρ') => F2 ρ'
  | none => none
theorem Sx.if_ {a b : List Stmt} (hc : Ts X c t) (ha : Sxs X a F1) (hb : Sxs X b F2) : Sx X (.If c a b pos) (ifS t F1 F2) := PS.imp (ps_if hc ha hb) fun D σ H ⟨G, ρ, o, R, hf, hD⟩ => by
  unfold ifS at hf
  split at hf
  · rename_i ρ' e
    exact ⟨G, ρ, true, ρ', R, e, fun H' S R' => (if_pos rfl).mpr ⟨G, ρ', o, R', hf, hD.before (S.post R')⟩⟩
  · rename_i ρ' e
    exact ⟨G, ρ, false, ρ', R, e, fun H' S R' => (if_neg Bool.false_ne_true).mpr ⟨G, ρ', o, R', hf, hD.before (S.post R')⟩⟩
  · cases hf
/-- code that is never come to -/
def neverS : SS := fun _ => none
theorem Sx.never : Sx X st neverS := ⟨fun _ _ _ _ _ _ ⟨_, _, _, _, hf, _⟩ => by cases hf⟩
theorem Sxs.never {sts : List Stmt} : Sxs X sts neverS := ⟨fun _ _ _ _ _ _ ⟨_, _, _, _, hf, _⟩ => by cases hf⟩
end

/-! ### assignments to names -/
def free1 : Slot → Bool
  | .un => true
  | .fr _ => true
  | .ow false false _ => true
  | _ => false
/-- a name takes an operand -/
def asgn (i : Nat) (r : Opd) (ρ : En) : Option En := match ρ[i]? with
  | none => none
  | some s => if free1 s then (match r with
    | .val d => some (ρ.set i (.fr d))
    | .new d => some (ρ.set i (.ow false false d))
    | .slot j => match ρ[j]? with
      | some (.ow false false d) => some ((ρ.set j (.fr d)).set i (.fr d))
      | _ => none) else none
section
variable {K : PySem.W.Frag} {G G' : Fr} {ρ ρ' ρ1 ρ2 : En} {σ σ' σ1 σ2 : St} {H H' H1 H2 : Hp} {r : Opd} {v : V} {i : Nat} {d : D} {p : Addr}
theorem set_ne {α : Type} {l : List α} {i j : Nat} {a : α} (h : j ≠ i) : (l.set i a)[j]? = l[j]? := by rw [List.getElem?_set]; simp [Ne.symm h]
theorem set_at {α : Type} {l : List α} {i : Nat} {a b : α} (h : l[i]? = some b) : (l.set i a)[i]? = some a := by
  obtain ⟨hi, _⟩ := List.getElem?_eq_some_iff.mp h
  exact List.getElem?_set_self hi
theorem set_get {α : Type} {l : List α} {i j : Nat} {a b : α} (h : (l.set i a)[j]? = some b) : (j = i ∧ a = b) ∨ (j ≠ i ∧ l[j]? = some b) := by
  by_cases e : j = i
  · subst e
    rw [List.getElem?_set] at h
    split at h
    · split at h
      · exact .inl ⟨rfl, Option.some.inj h⟩
      · cases h
    · exact absurd rfl (by assumption)
  · rw [set_ne e] at h
    exact .inr ⟨e, h⟩
theorem Rel.slotσ (R : Rel K G ρ σ H) {s : Slot} (e : ρ[i]? = some s) : ∃ x, σ[i]? = some x := by
  obtain ⟨hi, _⟩ := List.getElem?_eq_some_iff.mp e
  exact ⟨σ[i]'(by rw [← R.len]; exact hi), List.getElem?_eq_getElem _⟩
/-- a slot that holds data -/
theorem Rel.setFr (R : Rel K G ρ σ H) {s : Slot} (e : ρ[i]? = some s) (hs : free1 s = true) (r : Rep K H (Av G ρ σ) v d) : Rel K G (ρ.set i (.fr d)) (σ.set i (some v)) H ∧ (∀ a, Owned (ρ.set i (.fr d)) (σ.set i (some v)) a → Owned ρ σ a) ∧ (∀ a, Wr (ρ.set i (.fr d)) (σ.set i (some v)) a → Wr ρ σ a) := by
  obtain ⟨x, ex⟩ := R.slotσ e
  have own : ∀ a, Owned (ρ.set i (.fr d)) (σ.set i (some v)) a → Owned ρ σ a := fun a ⟨j, q, l, d', e1, e2⟩ => by
    rcases set_get e1 with ⟨_, z⟩ | ⟨hj, z⟩
    · cases z
    · rw [set_ne hj] at e2
      exact ⟨j, q, l, d', z, e2⟩
  have wr : ∀ a, Wr (ρ.set i (.fr d)) (σ.set i (some v)) a → Wr ρ σ a := fun a ⟨j, q, d', e1, e2⟩ => by
    rcases set_get e1 with ⟨_, z⟩ | ⟨hj, z⟩
    · cases z
    · rw [set_ne hj] at e2
      exact ⟨j, q, d', z, e2⟩
  have g : Goes H H (Av G ρ σ) (Av G (ρ.set i (.fr d)) (σ.set i (some v))) := ⟨fun _ _ e _ => e, fun _ _ e _ => e, fun b h _ => h.elim .inl fun z => .inr (own b z)⟩
  refine ⟨⟨by rw [List.length_set, List.length_set]; exact R.len, fun j d' e1 => ?_, fun j q l d' e1 => ?_, fun j k q l d1 q' l' d2 a e1 e2 e3 e4 => ?_, fun j a q hp => ?_, R.dom, fun j l d' a e1 e2 => ?_⟩, own, wr⟩
  · rcases set_get e1 with ⟨hj, z⟩ | ⟨hj, z⟩
    · cases z
      subst hj
      exact ⟨v, set_at ex, r.go g⟩
    · obtain ⟨w, s', r'⟩ := R.fr j d' z
      exact ⟨w, by rw [set_ne hj]; exact s', r'.go g⟩
  · rcases set_get e1 with ⟨_, z⟩ | ⟨hj, z⟩
    · cases z
    · obtain ⟨a, s', r'⟩ := R.ow j q l d' z
      exact ⟨a, by rw [set_ne hj]; exact s', r'.go g fun _ e => e⟩
  · rcases set_get e1 with ⟨_, z⟩ | ⟨hj, z⟩
    · cases z
    · rcases set_get e2 with ⟨_, z'⟩ | ⟨hk, z'⟩
      · cases z'
      · rw [set_ne hj] at e3
        rw [set_ne hk] at e4
        exact R.inj j k q l d1 q' l' d2 a z z' e3 e4
  · obtain ⟨e1, l, d', e2, e3⟩ := R.pin j a q hp
    have hj : j ≠ i := fun z => by
      subst z
      rw [e] at e2
      cases e2
      cases q <;> cases l <;> first | (cases hs; done) | cases e3
    exact ⟨by rw [set_ne hj]; exact e1, l, d', by rw [set_ne hj]; exact e2, e3⟩
  · rcases set_get e1 with ⟨_, z⟩ | ⟨hj, z⟩
    · cases z
    · rw [set_ne hj] at e2
      exact R.dj j l d' a z e2
/-- a slot that owns what was just made -/
theorem Rel.setOw (R : Rel K (G.add p) ρ σ H) {s : Slot} (e : ρ[i]? = some s) (hs : free1 s = true) (hO : ¬ G.O p) (n : ¬ Owned ρ σ p) (w : Own K H (Av (G.add p) ρ σ) false p d) :
    Rel K G (ρ.set i (.ow false false d)) (σ.set i (some (.ref p))) H ∧ (∀ a, Owned (ρ.set i (.ow false false d)) (σ.set i (some (.ref p))) a → Owned ρ σ a ∨ a = p) ∧ (∀ a, Wr (ρ.set i (.ow false false d)) (σ.set i (some (.ref p))) a → Wr ρ σ a ∨ a = p) := by
  obtain ⟨x, ex⟩ := R.slotσ e
  have own : ∀ a, Owned (ρ.set i (.ow false false d)) (σ.set i (some (.ref p))) a → Owned ρ σ a ∨ a = p := fun a ⟨j, q, l, d', e1, e2⟩ => by
    rcases set_get e1 with ⟨hj, z⟩ | ⟨hj, z⟩
    · subst hj
      rw [set_at ex] at e2
      cases e2
      exact .inr rfl
    · rw [set_ne hj] at e2
      exact .inl ⟨j, q, l, d', z, e2⟩
  have wr : ∀ a, Wr (ρ.set i (.ow false false d)) (σ.set i (some (.ref p))) a → Wr ρ σ a ∨ a = p := fun a ⟨j, q, d', e1, e2⟩ => by
    rcases set_get e1 with ⟨hj, z⟩ | ⟨hj, z⟩
    · subst hj
      rw [set_at ex] at e2
      cases e2
      exact .inr rfl
    · rw [set_ne hj] at e2
      exact .inl ⟨j, q, d', z, e2⟩
  have g : Goes H H (Av (G.add p) ρ σ) (Av G (ρ.set i (.ow false false d)) (σ.set i (some (.ref p)))) := ⟨fun _ _ e _ => e, fun _ _ e _ => e, fun b h _ => by
    rcases h with h | h
    · exact .inl (.inl h)
    · rcases own b h with h | rfl
      · exact .inr h
      · exact .inl (.inr rfl)⟩
  refine ⟨⟨by rw [List.length_set, List.length_set]; exact R.len, fun j d' e1 => ?_, fun j q l d' e1 => ?_, fun j k q l d1 q' l' d2 a e1 e2 e3 e4 => ?_, fun j a q hp => ?_, fun a h => R.dom a (.inl h), fun j l d' a e1 e2 h => ?_⟩, own, wr⟩
  · rcases set_get e1 with ⟨hj, z⟩ | ⟨hj, z⟩
    · cases z
    · obtain ⟨w, s', r'⟩ := R.fr j d' z
      exact ⟨w, by rw [set_ne hj]; exact s', r'.go g⟩
  · rcases set_get e1 with ⟨hj, z⟩ | ⟨hj, z⟩
    · cases z
      subst hj
      exact ⟨p, set_at ex, w.go g fun _ e => e⟩
    · obtain ⟨a, s', r'⟩ := R.ow j q l d' z
      exact ⟨a, by rw [set_ne hj]; exact s', r'.go g fun _ e => e⟩
  · rcases set_get e1 with ⟨hj, z⟩ | ⟨hj, z⟩
    · rcases set_get e2 with ⟨hk, z'⟩ | ⟨hk, z'⟩
      · rw [hj, hk]
      · subst hj
        rw [set_at ex] at e3
        rw [set_ne hk] at e4
        cases e3
        exact absurd ⟨k, q', l', d2, z', e4⟩ n
    · rw [set_ne hj] at e3
      rcases set_get e2 with ⟨hk, z'⟩ | ⟨hk, z'⟩
      · subst hk
        rw [set_at ex] at e4
        cases e4
        exact absurd ⟨j, q, l, d1, z, e3⟩ n
      · rw [set_ne hk] at e4
        exact R.inj j k q l d1 q' l' d2 a z z' e3 e4
  · obtain ⟨e1, l, d', e2, e3⟩ := R.pin j a q hp
    have hj : j ≠ i := fun z => by
      subst z
      rw [e] at e2
      cases e2
      cases q <;> cases l <;> first | (cases hs; done) | cases e3
    exact ⟨by rw [set_ne hj]; exact e1, l, d', by rw [set_ne hj]; exact e2, e3⟩
  · rcases set_get e1 with ⟨hj, z⟩ | ⟨hj, z⟩
    · subst hj
      rw [set_at ex] at e2
      cases e2
      exact hO h
    · rw [set_ne hj] at e2
      exact R.dj j l d' a z e2 (.inl h)
/-- a container is let go: from now on data -/
theorem Rel.melt {j : Nat} (R : Rel K G ρ σ H) (e : ρ[j]? = some (.ow false false d)) (es : σ[j]? = some (some v)) : Rel K G (ρ.set j (.fr d)) σ H ∧ Rep K H (Av G (ρ.set j (.fr d)) σ) v d ∧ (∀ a, Owned (ρ.set j (.fr d)) σ a → Owned ρ σ a) ∧ (∀ a, Wr (ρ.set j (.fr d)) σ a → Wr ρ σ a) := by
  obtain ⟨b, s', w⟩ := R.ow j false false d e
  rw [es] at s'
  cases s'
  have own : ∀ a, Owned (ρ.set j (.fr d)) σ a → Owned ρ σ a := fun a ⟨k, q, l, d', e1, e2⟩ => by
    rcases set_get e1 with ⟨_, z⟩ | ⟨hk, z⟩
    · cases z
    · exact ⟨k, q, l, d', z, e2⟩
  have wr : ∀ a, Wr (ρ.set j (.fr d)) σ a → Wr ρ σ a := fun a ⟨k, q, d', e1, e2⟩ => by
    rcases set_get e1 with ⟨_, z⟩ | ⟨hk, z⟩
    · cases z
    · exact ⟨k, q, d', z, e2⟩
  have av : ∀ a, Av G (ρ.set j (.fr d)) σ a → Av G ρ σ a := fun a h => h.elim .inl fun z => .inr (own a z)
  have g : Goes H H (Av G ρ σ) (Av G (ρ.set j (.fr d)) σ) := ⟨fun _ _ e _ => e, fun _ _ e _ => e, fun b h _ => av b h⟩
  have rep : Rep K H (Av G (ρ.set j (.fr d)) σ) (.ref b) d := w.rep (fun a h _ => av a h) fun z => by
    rcases z with z | ⟨k, q, l, d', e1, e2⟩
    · exact R.dj j false d b e es z
    · rcases set_get e1 with ⟨_, z⟩ | ⟨hk, z⟩
      · cases z
      · exact hk (R.inj k j q l d' false false d b z e e2 es)
  refine ⟨⟨by rw [List.length_set]; exact R.len, fun k d' e1 => ?_, fun k q l d' e1 => ?_, fun k k' q l d1 q' l' d2 a e1 e2 e3 e4 => ?_, fun k a q hp => ?_, R.dom, fun k l d' a e1 e2 => ?_⟩, rep, own, wr⟩
  · rcases set_get e1 with ⟨hk, z⟩ | ⟨hk, z⟩
    · cases z
      subst hk
      exact ⟨_, es, rep⟩
    · obtain ⟨w, s', r'⟩ := R.fr k d' z
      exact ⟨w, s', r'.go g⟩
  · rcases set_get e1 with ⟨_, z⟩ | ⟨hk, z⟩
    · cases z
    · obtain ⟨a, s', r'⟩ := R.ow k q l d' z
      exact ⟨a, s', r'.go g fun _ e => e⟩
  · rcases set_get e1 with ⟨_, z⟩ | ⟨hk, z⟩
    · cases z
    · rcases set_get e2 with ⟨_, z'⟩ | ⟨hk', z'⟩
      · cases z'
      · exact R.inj k k' q l d1 q' l' d2 a z z' e3 e4
  · obtain ⟨e1, l, d', e2, e3⟩ := R.pin k a q hp
    have hk : k ≠ j := fun z => by
      subst z
      rw [e] at e2
      cases e2
      cases e3
    exact ⟨e1, l, d', by rw [set_ne hk]; exact e2, e3⟩
  · rcases set_get e1 with ⟨_, z⟩ | ⟨hk, z⟩
    · cases z
    · exact R.dj k l d' a z e2
/-- THE STORE: a name takes an operand -/
theorem Rel.asgn (R : Rel K (G.plus r v) ρ σ H) (hO : ∀ p, (∃ d, r = .new d) → v = .ref p → ¬ G.O p) (w : OpS K (G.plus r v) ρ σ H r v) (h : asgn i r ρ = some ρ') :
    Rel K G ρ' (σ.set i (some v)) H ∧ (∀ a, Owned ρ' (σ.set i (some v)) a → Owned ρ σ a ∨ ((∃ d, r = .new d) ∧ v = .ref a)) ∧ (∀ a, Wr ρ' (σ.set i (some v)) a → Wr ρ σ a ∨ ((∃ d, r = .new d) ∧ v = .ref a)) := by
  unfold Mi.asgn at h
  cases e : ρ[i]? with
  | none => rw [e] at h; cases h
  | some s =>
    simp only [e] at h
    split at h
    · rename_i hs
      cases r with
      | val d =>
        cases h
        obtain ⟨h1, h2, h3⟩ := R.setFr e hs w
        exact ⟨h1, fun a z => .inl (h2 a z), fun a z => .inl (h3 a z)⟩
      | new d =>
        cases h
        obtain ⟨p, rfl, hp, n, ow⟩ := w
        obtain ⟨h1, h2, h3⟩ := Rel.setOw (G := G) (p := p) R e hs (hO p ⟨d, rfl⟩ rfl) n ow
        exact ⟨h1, fun a z => (h2 a z).imp id fun q => ⟨⟨d, rfl⟩, by rw [q]⟩, fun a z => (h3 a z).imp id fun q => ⟨⟨d, rfl⟩, by rw [q]⟩⟩
      | slot j =>
        simp only at h
        split at h
        · rename_i d ej
          cases h
          obtain ⟨es, _⟩ := w
          obtain ⟨m1, m2, m3, m4⟩ := R.melt ej es
          have e' : ∃ s', (ρ.set j (.fr d))[i]? = some s' ∧ free1 s' = true := by
            by_cases z : i = j
            · subst z
              exact ⟨_, set_at ej, rfl⟩
            · exact ⟨s, by rw [set_ne z]; exact e, hs⟩
          obtain ⟨s', e1, e2⟩ := e'
          obtain ⟨h1, h2, h3⟩ := Rel.setFr (G := G) m1 e1 e2 m2
          exact ⟨h1, fun a z => .inl (m3 a (h2 a z)), fun a z => .inl (m4 a (h3 a z))⟩
        · cases h
    · cases h
end

def setS (i : Nat) (f : SE) : SS := fun ρ => match f ρ with
  | some (r, ρ1) => (asgn i r ρ1).map .nx
  | none => none
section
variable {X : Cx} {e : Expr} {f g : SE} {pos : Pos}
theorem Sx.set {i : Nat} {x : Str} {pos' : Pos} (hN : X.N.Nodup) (hi : X.N[i]? = some x) (hx : Loc X.env.scope x) (he : Ex X e f) (hs : swapsWith e (some (.Name x pos')) pos.line X.env = pure false := by rfl) (hf : X.fn x = true ∨ X.env.scope.names.lookup x = some .local := by first | exact .inl rfl | exact .inr rfl | assumption) :
    Sx X (.Assign [.Name x pos'] e pos) (setS i f) := PS.imp (ps_set hN hi hx he hs hf) fun D σ H ⟨G, ρ, o, R, h, hD⟩ => by
  unfold setS at h
  split at h
  · rename_i r ρ1 e1
    cases q : asgn i r ρ1 with
    | none => rw [q] at h; cases h
    | some ρ' =>
      rw [q] at h
      cases h
      refine ⟨G, ρ, r, ρ1, R, e1, fun v H' P => ?_⟩
      have hO := P.hO R
      obtain ⟨h1, h2, h3⟩ := P.relP.asgn (fun p a b => (hO p a b).1) (P.opS R) q
      have S := P.step.post P.rel
      refine hD _ H' ⟨h1, S.keep, fun a z => ?_, fun a z => ?_, S.dom⟩
      · rcases h2 a z with z | ⟨z1, z2⟩
        · exact S.own a z
        · exact .inr (hO a z1 z2).2
      · rcases h3 a z with z | ⟨z1, z2⟩
        · exact S.wr a z
        · exact .inr (hO a z1 z2).2
  · cases h
end
end Mi

/-! Several names at once, subscripts stored, containers changed. -/
namespace Mi
open PySem PySem.Spec
open PyProof.Rows hiding St
open L2

def asgAll : List Nat → List Opd → En → Option En
  | [], [], ρ => some ρ
  | i :: is, r :: rs, ρ => match r with
    | .slot _ => none
    | r => match asgn i r ρ with
      | some ρ1 => asgAll is rs ρ1
      | none => none
  | _, _, _ => none
def setAll : List Nat → List V → St → St
  | i :: is, v :: vs, σ => setAll is vs (σ.set i (some v))
  | _, _, σ => σ
section
variable {K : PySem.W.Frag} {G G' : Fr} {ρ ρ' ρ1 ρ2 : En} {σ σ' σ1 σ2 : St} {H H' H1 H2 : Hp}
theorem OpsS.mem {r : Opd} {v : V} : ∀ {rs : List Opd} {vs : List V} {a : Addr}, OpsS K G ρ σ H rs vs → a ∈ newsOf rs vs → G.O a
  | _, _, a, .nil, h => by simp [newsOf] at h
  | _, _, a, .cons (r := r) (v := v) h w, m => by
    cases r with
    | val d => exact OpsS.mem (r := .slot 0) (v := .non) w (by simpa [newsOf] using m)
    | slot j => exact OpsS.mem (r := .slot 0) (v := .non) w (by simpa [newsOf] using m)
    | new d =>
      obtain ⟨p, rfl, hp, _⟩ := h
      simp only [newsOf, List.mem_cons] at m
      rcases m with rfl | m
      · exact hp
      · exact OpsS.mem (r := .slot 0) (v := .non) w m
/-- the others, behind a store -/
theorem OpsS.stored {Gt G1 : Fr} {i : Nat} {r0 : Opd} {v0 : V} (hO : ∀ a, G1.O a → Gt.O a) (ho : ∀ a, Owned ρ1 σ1 a → Owned ρ σ a ∨ ((∃ d, r0 = .new d) ∧ v0 = .ref a)) (hw : ∀ a, ((∃ d, r0 = .new d) ∧ v0 = .ref a) → Gt.O a) {rs : List Opd} {vs : List V} (h : OpsS K Gt ρ σ H rs vs) :
    (∀ r ∈ rs, ∀ j, r ≠ .slot j) → (∀ a, a ∈ newsOf rs vs → G1.O a ∧ ¬ ((∃ d, r0 = .new d) ∧ v0 = .ref a)) → OpsS K G1 ρ1 σ1 H rs vs := by
  have g : Goes H H (Av Gt ρ σ) (Av G1 ρ1 σ1) := ⟨fun _ _ e _ => e, fun _ _ e _ => e, fun b z _ => by
    rcases z with z | z
    · exact .inl (hO b z)
    · rcases ho b z with z | z
      · exact .inr z
      · exact .inl (hw b z)⟩
  induction h with
  | nil => exact fun _ _ => .nil
  | @cons r v rs vs h w ih =>
    intro hs hf
    refine .cons ?_ (ih (fun r hr => hs r (List.mem_cons_of_mem _ hr)) fun a ha => hf a ?_)
    · cases r with
      | val d => exact Rep.go g h
      | slot j => exact absurd rfl (hs _ List.mem_cons_self j)
      | new d =>
        obtain ⟨p, rfl, hp, no, ow⟩ := h
        obtain ⟨q1, q2⟩ := hf p (by simp [newsOf])
        exact ⟨p, rfl, q1, fun z => (ho p z).elim no q2, ow.go g fun _ e => e⟩
    · cases r with
      | val d => simpa [newsOf] using ha
      | slot j => simpa [newsOf] using ha
      | new d => cases v <;> first | (simpa [newsOf] using ha) | (simp only [newsOf]; exact List.mem_cons_of_mem _ ha)
theorem asgAll_noslot : ∀ {is : List Nat} {rs : List Opd} {ρ ρ' : En}, asgAll is rs ρ = some ρ' → ∀ r ∈ rs, ∀ j, r ≠ .slot j
  | [], [], _, _, _ => fun r h => by cases h
  | [], _ :: _, _, _, h => by cases h
  | _ :: _, [], _, _, h => by cases h
  | i :: is, r :: rs, ρ, ρ', h => by
    have fin : ∀ ρ1, asgAll is rs ρ1 = some ρ' → ∀ r ∈ rs, ∀ j, r ≠ .slot j := fun ρ1 h1 => asgAll_noslot h1
    intro r' hr j
    cases r with
    | slot k => cases h
    | val d =>
      simp only [asgAll] at h
      split at h
      · rename_i ρ1 _
        rcases List.mem_cons.mp hr with rfl | hr
        · exact fun z => by cases z
        · exact fin ρ1 h r' hr j
      · cases h
    | new d =>
      simp only [asgAll] at h
      split at h
      · rename_i ρ1 _
        rcases List.mem_cons.mp hr with rfl | hr
        · exact fun z => by cases z
        · exact fin ρ1 h r' hr j
      · cases h
theorem Rel.asgAll : ∀ {is : List Nat} {rs : List Opd} {vs : List V} {ρ ρ' : En} {σ : St} {Gt : Fr}, Gt.pin = G.pin → (∀ a, Gt.O a ↔ G.O a ∨ a ∈ newsOf rs vs) → Rel K Gt ρ σ H → OpsS K Gt ρ σ H rs vs → (newsOf rs vs).Nodup → (∀ a, a ∈ newsOf rs vs → ¬ G.O a) → Mi.asgAll is rs ρ = some ρ' →
    Rel K G ρ' (setAll is vs σ) H ∧ (∀ a, Owned ρ' (setAll is vs σ) a → Owned ρ σ a ∨ a ∈ newsOf rs vs) ∧ (∀ a, Wr ρ' (setAll is vs σ) a → Wr ρ σ a ∨ a ∈ newsOf rs vs)
  | [], [], vs, ρ, ρ', σ, Gt, hp, hO, R, w, nd, hf, h => by
    cases w
    cases h
    refine ⟨?_, fun a z => .inl z, fun a z => .inl z⟩
    cases G with
    | mk O' pin' =>
      cases Gt with
      | mk O pin =>
        cases (show pin = pin' from hp)
        exact R.less fun a z => (hO a).mpr (.inl z)
  | [], _ :: _, _, _, _, _, _, _, _, _, _, _, _, h => by cases h
  | _ :: _, [], _, _, _, _, _, _, _, _, _, _, _, h => by cases h
  | i :: is, r :: rs, [], ρ, ρ', σ, Gt, hp, hO, R, w0, nd, hf, h => by cases w0
  | i :: is, r :: rs, v :: vs, ρ, ρ', σ, Gt, hp, hO, R, w0, nd, hf, h => by
    have w : OpS K Gt ρ σ H r v := by cases w0; assumption
    have ws : OpsS K Gt ρ σ H rs vs := by cases w0; assumption
    have hs := asgAll_noslot h
    have h' : ∃ ρ1, Mi.asgn i r ρ = some ρ1 ∧ Mi.asgAll is rs ρ1 = some ρ' := by
      cases r with
      | slot k => cases h
      | val d =>
        simp only [Mi.asgAll] at h
        split at h
        · rename_i ρ1 e; exact ⟨ρ1, e, h⟩
        · cases h
      | new d =>
        simp only [Mi.asgAll] at h
        split at h
        · rename_i ρ1 e; exact ⟨ρ1, e, h⟩
        · cases h
    obtain ⟨ρ1, e1, e2⟩ := h'
    -- what is protected while the rest waits
    let G1 : Fr := ⟨fun a => G.O a ∨ a ∈ newsOf rs vs, G.pin⟩
    have sub : ∀ a, a ∈ newsOf rs vs → a ∈ newsOf (r :: rs) (v :: vs) := fun a ha => by
      cases r with
      | val d => simpa [newsOf] using ha
      | slot j => simpa [newsOf] using ha
      | new d => cases v <;> first | (simpa [newsOf] using ha) | (simp only [newsOf]; exact List.mem_cons_of_mem _ ha)
    have head : ∀ p, (∃ d, r = .new d) → v = .ref p → p ∈ newsOf (r :: rs) (v :: vs) ∧ p ∉ newsOf rs vs := fun p hd hv => by
      obtain ⟨d, rfl⟩ := hd
      subst hv
      simp only [newsOf, List.nodup_cons] at nd
      exact ⟨by simp [newsOf], nd.1⟩
    have up : ∀ a, (G1.plus r v).O a → Gt.O a := fun a z => by
      refine (hO a).mpr ?_
      have z' : (G.O a ∨ a ∈ newsOf rs vs) ∨ ((∃ d, r = .new d) ∧ v = .ref a) := by
        cases r with
        | val d => exact .inl z
        | slot j => exact .inl z
        | new d =>
          cases v <;> first
            | exact .inl z
            | exact z.imp id fun q => ⟨⟨d, rfl⟩, by rw [q]⟩
      rcases z' with (z' | z') | ⟨z1, z2⟩
      · exact .inl z'
      · exact .inr (sub a z')
      · exact .inr (head a z1 z2).1
    have pinE : (G1.plus r v).pin = G.pin := by
      cases r with
      | val d => rfl
      | slot j => rfl
      | new d => cases v <;> rfl
    have R1 : Rel K (G1.plus r v) ρ σ H := by
      have q := R.less (O' := (G1.plus r v).O) up
      have e : (⟨(G1.plus r v).O, Gt.pin⟩ : Fr) = G1.plus r v := by rw [hp, ← pinE]
      rw [e] at q
      exact q
    have w1 : OpS K (G1.plus r v) ρ σ H r v := by
      have g : Goes H H (Av Gt ρ σ) (Av (G1.plus r v) ρ σ) := ⟨fun _ _ e _ => e, fun _ _ e _ => e, fun b z _ => z.elim (fun z => .inl (up b z)) .inr⟩
      cases r with
      | val d => exact Rep.go g w
      | slot j => exact w
      | new d =>
        obtain ⟨p, rfl, hpO, no, ow⟩ := w
        exact ⟨p, rfl, .inr rfl, no, ow.go g fun _ e => e⟩
    have nO1 : ∀ p, (∃ d, r = .new d) → v = .ref p → ¬ G1.O p := fun p hd hv z => by
      obtain ⟨q1, q2⟩ := head p hd hv
      exact z.elim (hf p q1) q2
    obtain ⟨R2, o2, x2⟩ := R1.asgn nO1 w1 e1
    have ws2 : OpsS K G1 ρ1 (σ.set i (some v)) H rs vs := OpsS.stored (Gt := Gt) (i := i) (r0 := r) (v0 := v) (fun a z => up a (by
        cases r with
        | val d => exact z
        | slot j => exact z
        | new d => cases v <;> first | exact z | exact .inl z)) o2 (fun a z => (hO a).mpr (.inr (head a z.1 z.2).1)) ws (fun r' hr => hs r' (List.mem_cons_of_mem _ hr)) fun a ha => ⟨.inr ha, fun z => (head a z.1 z.2).2 ha⟩
    have nd1 : (newsOf rs vs).Nodup := by
      cases r with
      | val d => simpa [newsOf] using nd
      | slot j => simpa [newsOf] using nd
      | new d => cases v <;> first | (simpa [newsOf] using nd) | (simp only [newsOf, List.nodup_cons] at nd; exact nd.2)
    obtain ⟨q1, q2, q3⟩ := Rel.asgAll (Gt := G1) rfl (fun a => Iff.rfl) R2 ws2 nd1 (fun a ha => hf a (sub a ha)) e2
    refine ⟨q1, fun a z => ?_, fun a z => ?_⟩
    · rcases q2 a z with z | z
      · rcases o2 a z with z | z
        · exact .inl z
        · exact .inr (head a z.1 z.2).1
      · exact .inr (sub a z)
    · rcases q3 a z with z | z
      · rcases x2 a z with z | z
        · exact .inl z
        · exact .inr (head a z.1 z.2).1
      · exact .inr (sub a z)
end
theorem OpsS.length {K : PySem.W.Frag} {G : Fr} {ρ : En} {σ : St} {H : Hp} {rs : List Opd} {vs : List V} (h : OpsS K G ρ σ H rs vs) : rs.length = vs.length := by
  induction h with
  | nil => rfl
  | cons _ _ ih => simp [ih]
theorem asgAll_length : ∀ {is : List Nat} {rs : List Opd} {ρ ρ' : En}, asgAll is rs ρ = some ρ' → is.length = rs.length
  | [], [], _, _, _ => rfl
  | [], _ :: _, _, _, h => by cases h
  | _ :: _, [], _, _, h => by cases h
  | i :: is, r :: rs, ρ, ρ', h => by
    cases r with
    | slot k => cases h
    | val d =>
      simp only [asgAll] at h
      split at h
      · simp [asgAll_length h]
      · cases h
    | new d =>
      simp only [asgAll] at h
      split at h
      · simp [asgAll_length h]
      · cases h
/-- a, b, .. = e, f, .. -/
def parS (is : List Nat) (F : SA) : SS := fun ρ => match F ρ with
  | some (rs, ρ1) => (asgAll is rs ρ1).map .nx
  | none => none
section
variable {K : PySem.W.Frag} {F : SA} {is : List Nat}
theorem parS_elim {rsMax : Nat} (hm : is.length ≤ rsMax) {D : Ends} {σ : St} {H : Hp} {G : Fr} {ρ : En} {o : Out} (R : Rel K G ρ σ H) (h : parS is F ρ = some o) (hD : OutD K G ρ σ H o D) (T : List V → Hp → Prop) (hT : ∀ vs H', vs.length = is.length → vs.length ≤ rsMax → (∀ H'', (∀ b o, H' b = some o → H'' b = some o) → D.nx (setAll is vs σ) H'') → T vs H') : tA K F σ H T := by
  unfold parS at h
  split at h
  · rename_i rs ρ1 e1
    cases q : asgAll is rs ρ1 with
    | none => rw [q] at h; cases h
    | some ρ' =>
      rw [q] at h
      cases h
      refine ⟨G, ρ, rs, ρ1, R, e1, fun vs H' S A => hT vs H' (by
        obtain ⟨Gt, hp, hO, R1, w⟩ := A.ex
        rw [← w.length, asgAll_length q]) (by
        obtain ⟨Gt, hp, hO, R1, w⟩ := A.ex
        rw [← w.length, ← asgAll_length q]; exact hm) fun H'' ext => ?_⟩
      obtain ⟨Gt, hp, hO, R1, w⟩ := A.ex
      obtain ⟨h1, h2, h3⟩ := Rel.asgAll hp hO R1 w A.nd (fun a ha z => R.dom a z (A.fresh a ha).1) q
      have S' := S.post A.rel
      refine hD _ H'' ⟨h1.ext ext, fun b o e n => ext b o (S.keep b o e n), fun a z => ?_, fun a z => ?_, fun b z => ?_⟩
      · exact (h2 a z).elim (fun z => S'.own a z) fun z => .inr (A.fresh a z).1
      · exact (h3 a z).elim (fun z => S'.wr a z) fun z => .inr (A.fresh a z).1
      · cases y : H' b with
        | none => exact absurd y (S'.dom b z)
        | some o => rw [ext b o y]; simp
  · cases h
end
section
variable {X : Cx} {f g h : SE} {pos : Pos}
/-- both names local -/
theorem Sx.par2 {i j : Nat} {x y : Str} {a b : Expr} {F : SA} {px py pt : Pos} {kt k2 pt2} (hc : X.calm = true) (hN : X.N.Nodup) (hi : X.N[i]? = some x) (hj : X.N[j]? = some y) (hij : i ≠ j)
    (hx : X.env.scope.names.lookup x = some .local) (hy : X.env.scope.names.lookup y = some .local) (ha : Ar X [a, b] F)
    (hw : swappedStores [.Tuple [.Name x px, .Name y py] kt pt] (.Tuple [a, b] k2 pt2) X.env = pure (some [x, y]) := by rfl)
    (hs : swapsWithSole [.Tuple [.Name x px, .Name y py] kt pt] (.Tuple [a, b] k2 pt2) pos.line X.env = pure false := by rfl) :
    Sx X (.Assign [.Tuple [.Name x px, .Name y py] kt pt] (.Tuple [a, b] k2 pt2) pos) (parS [i, j] F) := PS.imp (ps_par hc hN hi hj hij hx hy ha hw hs) fun D σ H ⟨G, ρ, o, R, hf, hD⟩ =>
  parS_elim (Nat.le_refl _) R hf hD _ fun vs H' hl _ z => by
    match vs, hl, z with
    | [v, w], _, z => exact ⟨v, w, rfl, z H' fun _ _ e => e⟩
theorem Sx.par3 {i j l : Nat} {x y z : Str} {a b c : Expr} {F : SA} {px py pz pt : Pos} {kt k2 pt2} (hc : X.calm = true) (hN : X.N.Nodup) (hi : X.N[i]? = some x) (hj : X.N[j]? = some y) (hl : X.N[l]? = some z) (hij : i ≠ j) (hil : i ≠ l) (hjl : j ≠ l)
    (hx : X.env.scope.names.lookup x = some .local) (hy : X.env.scope.names.lookup y = some .local) (hz : X.env.scope.names.lookup z = some .local) (ha : Ar X [a, b, c] F)
    (hw : swappedStores [.Tuple [.Name x px, .Name y py, .Name z pz] kt pt] (.Tuple [a, b, c] k2 pt2) X.env = pure (some [x, y, z]) := by rfl)
    (hs : swapsWithSole [.Tuple [.Name x px, .Name y py, .Name z pz] kt pt] (.Tuple [a, b, c] k2 pt2) pos.line X.env = pure false := by rfl) :
    Sx X (.Assign [.Tuple [.Name x px, .Name y py, .Name z pz] kt pt] (.Tuple [a, b, c] k2 pt2) pos) (parS [i, j, l] F) := PS.imp (ps_par3 hc hN hi hj hl hij hil hjl hx hy hz ha hw hs) fun D σ H ⟨G, ρ, o, R, hf, hD⟩ =>
  parS_elim (Nat.le_refl _) R hf hD _ fun vs H' hl _ z => by
    match vs, hl, z with
    | [v, w, u], _, z => exact ⟨v, w, u, rfl, z H' fun _ _ e => e⟩
/-- the names of a target -/
def gNames : List Nat → TGs
  | [] => gNil
  | i :: is => gCons (gName i) (gNames is)
theorem gNames_set : ∀ (is : List Nat) (vs : List V) (σ : St) (H : Hp) (Q : St → Hp → Prop), vs.length = is.length → Q (setAll is vs σ) H → gNames is vs σ H Q
  | [], [], _, _, _, _, q => ⟨rfl, q⟩
  | [], _ :: _, _, _, _, h, _ => by simp at h
  | _ :: _, [], _, _, _, h, _ => by simp at h
  | i :: is, v :: vs, σ, H, Q, h, q => ⟨v, vs, rfl, gNames_set is vs _ H Q (by simpa using h) q⟩
/-- a pair is made and taken apart -/
theorem Sx.parT {is : List Nat} {es ts : List Expr} {F : SA} {kt k2 : Nat} {pt pt2 : Pos} {n : Nat} (hc : X.calm = true) (hg : PGs X ts (gNames is)) (ha : Ar X es F) (hl : is.length = n) (hm : n ≤ 1000)
    (hn : (assignEach ts X.env).length = n := by rfl) (hst : (assignEach ts X.env).findIdx? (·.1) = none := by rfl)
    (hs : swapsWithSole [.Tuple ts kt pt] (.Tuple es k2 pt2) pos.line X.env = pure false := by rfl) (hw : swappedStores [.Tuple ts kt pt] (.Tuple es k2 pt2) X.env = pure none := by rfl)
    (h1 : (assignEach [.Tuple ts kt pt] X.env).map (·.2) = [assign (.Tuple ts kt pt) X.env] := by rfl) :
    Sx X (.Assign [.Tuple ts kt pt] (.Tuple es k2 pt2) pos) (parS is F) := PS.imp (ps_asg (pe_tup ha) (pg_tup hc hg hn hst) hs hw h1) fun D σ H ⟨G, ρ, o, R, hf, hD⟩ => by
  exact parS_elim (rsMax := n) (by omega) R hf hD _ fun vs H' hv hz z =>
    ⟨szl (by omega), fun p hp => ⟨p, vs, rfl, SqT.of upd_same, by omega, gNames_set is vs σ _ _ hv (z _ fun b o e => by rw [upd_ne (ne_of_none e hp)]; exact e)⟩⟩
end
end Mi

/-! Targets; containers changed in place. -/
namespace Mi
open PySem PySem.Spec
open PyProof.Rows hiding St
open L2

section
variable {K : PySem.W.Frag} {G G' : Fr} {ρ ρ' ρ1 ρ2 : En} {σ σ' σ1 σ2 : St} {H H' H1 H2 : Hp}
theorem newsOf_val : ∀ (ds : List D) (vs : List V), newsOf (ds.map .val) vs = []
  | [], [] => rfl
  | [], _ :: _ => rfl
  | _ :: _, [] => rfl
  | d :: ds, v :: vs => by simp only [List.map_cons, newsOf]; exact newsOf_val ds vs
theorem opsS_val : ∀ {ds : List D} {vs : List V}, RepAll K H (Av G ρ σ) vs ds → OpsS K G ρ σ H (ds.map .val) vs
  | _, _, .nil => .nil
  | _, _, .cons h r => .cons h (opsS_val r)
end
/-- data taken by a target -/
def tupT (is : List Nat) (d : D) (ρ : En) : Option En := match d.asT with
  | some ds => if ds.length = is.length then asgAll is (ds.map .val) ρ else none
  | none => none
def tG (K : PySem.W.Frag) (is : List Nat) (F : D → En → Option En) : TG := fun v σ H Q => ∃ G ρ d ρ', Rel K G ρ σ H ∧ Rep K H (Av G ρ σ) v d ∧ F d ρ = some ρ' ∧
  ∀ vs, Rel K G ρ' (setAll is vs σ) H → (∀ a, Owned ρ' (setAll is vs σ) a → Owned ρ σ a) → (∀ a, Wr ρ' (setAll is vs σ) a → Wr ρ σ a) → Q (setAll is vs σ) H
abbrev Tg (X : Cx) (target : Expr) (is : List Nat) (F : D → En → Option En) : Prop := PG X target (tG X.K is F)
theorem PG.imp {X : Cx} {e : Expr} {t t' : TG} (h : PG X e t) (i : ∀ v σ H Q, t' v σ H Q → t v σ H Q) : PG X e t' := ⟨fun pins s σ H v u Q I r q => h.run pins s σ H v u Q I r (i v σ H Q q)⟩
section
variable {X : Cx} {pos : Pos}
def nameT (i : Nat) (d : D) (ρ : En) : Option En := asgn i (.val d) ρ
theorem Tg.name {i : Nat} {x : Str} (hN : X.N.Nodup) (hi : X.N[i]? = some x) (hx : Loc X.env.scope x) (hf : X.fn x = true ∨ X.env.scope.names.lookup x = some .local := by first | exact .inl rfl | exact .inr rfl | assumption) : Tg X (.Name x pos) [i] (nameT i) :=
  PG.imp (pg_name hN hi hx hf) fun v σ H Q ⟨G, ρ, d, ρ', R, w, hF, hQ⟩ => by
    obtain ⟨h1, h2, h3⟩ := Rel.asgn (r := .val d) (v := v) R (fun p ⟨d', e⟩ => by cases e) w hF
    exact hQ [v] h1 (fun a z => (h2 a z).elim id fun y => by obtain ⟨⟨d', e⟩, _⟩ := y; cases e) fun a z => (h3 a z).elim id fun y => by obtain ⟨⟨d', e⟩, _⟩ := y; cases e
theorem rel_tup {K : PySem.W.Frag} {G : Fr} {is : List Nat} {ρ ρ' : En} {σ : St} {H : Hp} {ds : List D} {vs : List V} (R : Rel K G ρ σ H) (w : RepAll K H (Av G ρ σ) vs ds) (h : asgAll is (ds.map .val) ρ = some ρ') :
    Rel K G ρ' (setAll is vs σ) H ∧ (∀ a, Owned ρ' (setAll is vs σ) a → Owned ρ σ a) ∧ (∀ a, Wr ρ' (setAll is vs σ) a → Wr ρ σ a) := by
  have e := newsOf_val ds vs
  obtain ⟨h1, h2, h3⟩ := Rel.asgAll (G := G) (Gt := G) rfl (fun a => by rw [e]; simp) R (opsS_val w) (by rw [e]; simp) (fun a ha => by rw [e] at ha; simp at ha) h
  rw [e] at h2 h3
  exact ⟨h1, fun a z => (h2 a z).elim id fun y => by simp at y, fun a z => (h3 a z).elim id fun y => by simp at y⟩
theorem Rep.asT {K : PySem.W.Frag} {H : Hp} {A : Addr → Prop} {v : V} {d : D} {ds : List D} (h : Rep K H A v d) (et : d.asT = some ds) : ∃ a xs, v = .ref a ∧ SqT K H a xs ∧ RepAll K H A xs ds := by
  cases h <;> simp [D.asT] at et
  · subst et
    exact ⟨_, _, rfl, SqT.of (by assumption), by assumption⟩
  · subst et
    exact ⟨_, _, rfl, .inr (by assumption), by assumption⟩
theorem Tg.tup {is : List Nat} {es : List Expr} {k n : Nat} (hc : X.calm = true) (hg : PGs X es (gNames is)) (hl : is.length = n)
    (hn : (assignEach es X.env).length = n := by rfl) (hst : (assignEach es X.env).findIdx? (·.1) = none := by rfl) : Tg X (.Tuple es k pos) is (tupT is) :=
  PG.imp (pg_tup hc hg hn hst) fun v σ H Q ⟨G, ρ, d, ρ', R, w, hF, hQ⟩ => by
    unfold tupT at hF
    split at hF
    · rename_i ds et
      split at hF
      · rename_i hlen
        obtain ⟨a, xs, rfl, h, r⟩ := w.asT et
        obtain ⟨h1, h2, h3⟩ := rel_tup R r hF
        have hx : xs.length = is.length := by rw [r.length, hlen]
        exact ⟨a, xs, rfl, h, by omega, gNames_set is xs σ H _ hx (hQ xs h1 h2 h3)⟩
      · cases hF
    · cases hF
/-- target = e, the target of names -/
def unpS (F : D → En → Option En) (f : SE) : SS := fun ρ => match f ρ with
  | some (r, ρ1) => match res ρ1 r with
    | some d => match r with
      | .slot _ => none
      | _ => (F d ρ1).map .nx
    | none => none
  | none => none
theorem Sx.unp {tg e : Expr} {f : SE} {is : List Nat} {F : D → En → Option En} (he : Ex X e f) (hg : Tg X tg is F) (hs : swapsWithSole [tg] e pos.line X.env = pure false := by rfl) (hw : swappedStores [tg] e X.env = pure none := by rfl)
    (h1 : (assignEach [tg] X.env).map (·.2) = [assign tg X.env] := by rfl) : Sx X (.Assign [tg] e pos) (unpS F f) := PS.imp (ps_asg he hg hs hw h1) fun D σ H ⟨G, ρ, o, R, h, hD⟩ => by
  unfold unpS at h
  split at h
  · rename_i r ρ1 e1
    split at h
    · rename_i d ed
      have fin : ∀ ρ', (∀ i, r ≠ .slot i) → F d ρ1 = some ρ' → o = .nx ρ' → tE X.K f σ H fun x H1 => tG X.K is F x σ H1 D.nx := fun ρ' hr hF ho => by
        subst ho
        refine ⟨G, ρ, r, ρ1, R, e1, fun v H' P => ?_⟩
        have w : Rep X.K H' (Av G ρ1 σ) v d := by
          have q := P.ok R
          cases r with
          | val d' => cases ed; exact q
          | new d' => cases ed; exact q
          | slot i => exact absurd rfl (hr i)
        have S := P.step.post P.rel
        exact ⟨G, ρ1, d, ρ', P.rel, w, hF, fun vs h1 h2 h3 => hD _ H' ⟨h1, S.keep, fun a z => S.own a (h2 a z), fun a z => S.wr a (h3 a z), S.dom⟩⟩
      split at h
      · cases h
      · rename_i hr
        cases q : F d ρ1 with
        | none => rw [q] at h; cases h
        | some ρ' =>
          rw [q] at h
          cases h
          exact fin ρ' (fun i z => hr i z) q rfl
    · cases h
  · cases h
end

/-! ### a container is changed -/
section
variable {K : PySem.W.Frag} {G : Fr} {ρ : En} {σ : St} {H : Hp} {i : Nat} {p : Bool} {d d' : D} {a : Addr} {o : HO}
theorem goes_wr {A : Addr → Prop} (hA : A a) (nt : ∀ u, H a = some u → tupO u = false) : Goes H (L2.upd H a o) A A :=
  { tups := fun b u e t => by
      have : b ≠ a := fun z => by
        subst z
        rw [nt u e] at t; cases t
      rw [upd_ne this]; exact e
    keep := fun b u e n => by rw [upd_ne (fun z : b = a => n (by rw [z]; exact hA))]; exact e
    av := fun _ h _ => h }
theorem Rel.write (R : Rel K G ρ σ H) (e : ρ[i]? = some (.ow p false d)) (es : σ[i]? = some (some (.ref a))) (w : Own K (L2.upd H a o) (Av G ρ σ) false a d') :
    Rel K G (ρ.set i (.ow p false d')) σ (L2.upd H a o) ∧ Step ρ σ H (ρ.set i (.ow p false d')) (L2.upd H a o) := by
  have oa : Owned ρ σ a := ⟨i, p, false, d, e, es⟩
  have sk : sameK ρ (ρ.set i (.ow p false d')) := ⟨List.length_set, fun j => by
    by_cases z : j = i
    · subst z
      exact .inr ⟨p, d, d', e, set_at e⟩
    · exact .inl (set_ne z)⟩
  have g : Goes H (L2.upd H a o) (Av G ρ σ) (Av G (ρ.set i (.ow p false d')) σ) := by
    rw [sk.av]
    exact goes_wr (.inr oa) fun u eu => by
      obtain ⟨u', e', t⟩ := R.owned oa
      rw [eu] at e'; cases e'; exact t
  have ne : ∀ j q l d1 b, ρ[j]? = some (.ow q l d1) → σ[j]? = some (some (.ref b)) → j ≠ i → b ≠ a := fun j q l d1 b e1 e2 hj z => hj (R.inj j i q l d1 p false d a e1 e (by rw [← z]; exact e2) es)
  refine ⟨⟨by rw [List.length_set]; exact R.len, fun j d1 e1 => ?_, fun j q l d1 e1 => ?_, fun j k q l d1 q' l' d2 b e1 e2 e3 e4 => ?_, fun j b q hp => ?_, fun b h => ?_, fun j l d1 b e1 e2 => ?_⟩, sk, fun b u eb n => ?_⟩
  · rcases set_get e1 with ⟨_, z⟩ | ⟨hj, z⟩
    · cases z
    · obtain ⟨v, s, r⟩ := R.fr j d1 z
      exact ⟨v, s, r.go g⟩
  · rcases set_get e1 with ⟨hj, z⟩ | ⟨hj, z⟩
    · cases z
      subst hj
      exact ⟨a, es, by rw [sk.av]; exact w⟩
    · obtain ⟨b, s, r⟩ := R.ow j q l d1 z
      have hb := ne j q l d1 b z s hj
      exact ⟨b, s, r.go g fun u eu => by rw [upd_ne hb]; exact eu⟩
  · have q1 : ∃ f1, ρ[j]? = some (.ow q l f1) := sk.wo e1
    have q2 : ∃ f2, ρ[k]? = some (.ow q' l' f2) := sk.wo e2
    obtain ⟨f1, z1⟩ := q1
    obtain ⟨f2, z2⟩ := q2
    exact R.inj j k q l f1 q' l' f2 b z1 z2 e3 e4
  · obtain ⟨e1, l, d1, e2, e4⟩ := R.pin j b q hp
    obtain ⟨d2, e3⟩ := sk.ow e2
    exact ⟨e1, l, d2, e3, e4⟩
  · by_cases z : b = a
    · rw [z, upd_same]; simp
    · rw [upd_ne z]; exact R.dom b h
  · obtain ⟨d2, e3⟩ := sk.wo e1
    exact R.dj j l d2 b e3 e2
  · rw [upd_ne (fun z : b = a => n ⟨i, p, d, e, by rw [z]; exact es⟩)]
    exact eb
/-- an own list, found -/
theorem Rel.ownL {ds : List D} (R : Rel K G ρ σ H) (e : ρ[i]? = some (.ow p false (.lst ds))) : ∃ a xs, σ[i]? = some (some (.ref a)) ∧ H a = some (.lst xs) ∧ RepAll K H (Av G ρ σ) xs ds := by
  obtain ⟨a, s, w⟩ := R.ow i p false _ e
  cases w with
  | lst h r => exact ⟨a, _, s, h, r⟩
theorem Rel.lstTo {ds es : List D} {xs ys : List V} (R : Rel K G ρ σ H) (e : ρ[i]? = some (.ow p false (.lst ds))) (s : σ[i]? = some (some (.ref a))) (h : H a = some (.lst xs)) (r : RepAll K H (Av G ρ σ) ys es) :
    Rel K G (ρ.set i (.ow p false (.lst es))) σ (L2.upd H a (.lst ys)) ∧ Step ρ σ H (ρ.set i (.ow p false (.lst es))) (L2.upd H a (.lst ys)) :=
  R.write e s (.lst upd_same (r.go (goes_wr (.inr ⟨i, p, false, _, e, s⟩) fun u eu => by rw [h] at eu; cases eu; rfl)))
end

/-! ### methods of own lists -/
section
variable {X : Cx} {o e : Expr} {f : SE} {pos apos : Pos}
/-- xs.append(e) -/
def appE (i : Nat) (f : SE) : SE := fun ρ => match ρ[i]? with
  | some (.ow _ _ (.lst _)) => (match f ρ with
    | some (r, ρ1) => match keepD r, ρ1[i]? with
      | some d, some (.ow p false (.lst ds)) => if ds.length < 16000000 then some (.val .non, ρ1.set i (.ow p false (.lst (ds ++ [d])))) else none
      | _, _ => none
    | none => none)
  | _ => none
theorem Rel.lstSlot {K : PySem.W.Frag} {G : Fr} {ρ : En} {σ : St} {H : Hp} {i : Nat} {p l : Bool} {ds : List D} (R : Rel K G ρ σ H) (e : ρ[i]? = some (.ow p l (.lst ds))) : ∃ a xs, σ[i]? = some (some (.ref a)) ∧ H a = some (.lst xs) := by
  obtain ⟨a, s, w⟩ := R.ow i p l _ e
  cases w with
  | lst h r => exact ⟨a, _, s, h⟩
theorem Ex.append {i : Nat} {F : SE} (ho : PE X o (tVar i)) (he : Ex X e F) (hbase : attributeBase o "append" X.env (eval o X.env) = eval o X.env := by rfl)
    (hfew : ((backTo pos (starEach [e] X.env)).all (fun x => !x.1) && (backToKw pos (keywordEach [] X.env)).all (fun x => x.1.isSome) && decide ([e].length + ([] : List Keyword).length + (if ([] : List Keyword).isEmpty then 0 else 1) < 30)) = true := by rfl)
    (hline : (apos.endLine == pos.line) = true := by rfl) (hs : starEach [e] X.env = (false, eval e X.env) :: starEach [] X.env := by rfl) (hplain : (backTo pos (starEach [] X.env)).any (·.1) = false := by rfl) :
    Ex X (.Call (.Attribute o "append" apos) [e] [] pos) (appE i F) :=
  PE.imp (pe_bm PySem.F.plainAttrs_list PySem.F.slot_list_append PySem.F.type_list_append mt_append ho (pa_cons he pa_nil hs) hbase hfew hline hs hplain) fun σ H Q ⟨G, ρ, r', ρ', R, hf, hQ⟩ => by
    unfold appE at hf
    split at hf
    · rename_i p0 l0 ds0 e0
      split at hf
      · rename_i r ρ1 e1
        split at hf
        · rename_i d p ds ek e2
          split at hf
          · rename_i hz
            cases hf
            obtain ⟨a, xs0, s, h0⟩ := R.lstSlot e0
            refine ⟨.ref a, s, .inl ⟨rfl, xs0, SqL.of h0⟩, G, ρ, r, ρ1, R, e1, fun v H1 P => ?_⟩
            obtain ⟨a', xs, s', h, w⟩ := P.rel.ownL e2
            rw [s] at s'; cases s'
            refine ⟨a, xs, v, rfl, rfl, h, Nat.lt_of_lt_of_le (by rw [w.length]; exact hz) (szl (Nat.le_refl _)), ?_⟩
            obtain ⟨R2, S2⟩ := P.rel.lstTo e2 s h (w.append (.cons ((P.ok R).kept ek) .nil))
            exact hQ _ _ ⟨P.step.trans S2, R2, .non⟩
          · cases hf
        · cases hf
      · cases hf
    · cases hf
/-- xs.extend(e) -/
def extE (i : Nat) (f : SE) : SE := fun ρ => match ρ[i]? with
  | some (.ow _ _ (.lst _)) => (match f ρ with
    | some (r, ρ1) => match res ρ1 r, ρ1[i]? with
      | some (.lst es), some (.ow p false (.lst ds)) => if ds.length + es.length ≤ 16000000 then some (.val .non, ρ1.set i (.ow p false (.lst (ds ++ es)))) else none
      | _, _ => none
    | none => none)
  | _ => none
theorem Ex.extend {i : Nat} {F : SE} (ho : PE X o (tVar i)) (he : Ex X e F) (hbase : attributeBase o "extend" X.env (eval o X.env) = eval o X.env := by rfl)
    (hfew : ((backTo pos (starEach [e] X.env)).all (fun x => !x.1) && (backToKw pos (keywordEach [] X.env)).all (fun x => x.1.isSome) && decide ([e].length + ([] : List Keyword).length + (if ([] : List Keyword).isEmpty then 0 else 1) < 30)) = true := by rfl)
    (hline : (apos.endLine == pos.line) = true := by rfl) (hs : starEach [e] X.env = (false, eval e X.env) :: starEach [] X.env := by rfl) (hplain : (backTo pos (starEach [] X.env)).any (·.1) = false := by rfl) :
    Ex X (.Call (.Attribute o "extend" apos) [e] [] pos) (extE i F) :=
  PE.imp (pe_bm PySem.F.plainAttrs_list PySem.F.slot_list_extend PySem.F.type_list_extend mt_extend ho (pa_cons he pa_nil hs) hbase hfew hline hs hplain) fun σ H Q ⟨G, ρ, r', ρ', R, hf, hQ⟩ => by
    unfold extE at hf
    split at hf
    · rename_i p0 l0 ds0 e0
      split at hf
      · rename_i r ρ1 e1
        split at hf
        · rename_i es p ds ek e2
          split at hf
          · rename_i hz
            cases hf
            obtain ⟨a, xs0, s, h0⟩ := R.lstSlot e0
            refine ⟨.ref a, s, .inl ⟨rfl, xs0, SqL.of h0⟩, G, ρ, r, ρ1, R, e1, fun v H1 P => ?_⟩
            obtain ⟨a', xs, s', h, w⟩ := P.rel.ownL e2
            rw [s] at s'; cases s'
            obtain ⟨b, ys, rfl, hb, w2⟩ := (P.ok R).lst P.rel ek
            refine ⟨a, b, xs, ys, rfl, rfl, h, hb, szl (by rw [w.length, w2.length]; exact hz), ?_⟩
            obtain ⟨R2, S2⟩ := P.rel.lstTo e2 s h (w.append w2)
            exact hQ _ _ ⟨P.step.trans S2, R2, .non⟩
          · cases hf
        · cases hf
      · cases hf
    · cases hf
/-- xs.pop() -/
def popE (i : Nat) : SE := fun ρ => match ρ[i]? with
  | some (.ow p false (.lst ds)) => (match ds[ds.length - 1]? with
    | some d => some (.val d, ρ.set i (.ow p false (.lst ds.dropLast)))
    | none => none)
  | _ => none
theorem Ex.pop {i : Nat} (ho : PE X o (tVar i)) (hbase : attributeBase o "pop" X.env (eval o X.env) = eval o X.env := by rfl) (hline : (apos.endLine == pos.line) = true := by rfl) :
    Ex X (.Call (.Attribute o "pop" apos) [] [] pos) (popE i) :=
  PE.imp (pe_bm0 PySem.F.plainAttrs_list PySem.F.slot_list_pop PySem.F.type_list_pop mt_pop ho hbase hline) fun σ H Q ⟨G, ρ, r', ρ', R, hf, hQ⟩ => by
    unfold popE at hf
    split at hf
    · rename_i p ds e0
      split at hf
      · rename_i d ed
        cases hf
        obtain ⟨a, xs, s, h, w⟩ := R.ownL e0
        obtain ⟨v, ev, rv⟩ := w.get ed
        refine ⟨.ref a, s, .inl ⟨rfl, xs, SqL.of h⟩, a, xs, v, rfl, rfl, h, by rw [w.length]; exact ev, ?_⟩
        obtain ⟨R2, S2⟩ := R.lstTo e0 s h w.dropLast
        refine hQ _ _ ⟨S2, R2, ?_⟩
        rw [S2.sk.av]
        exact rv.go (goes_wr (.inr ⟨i, p, false, _, e0, s⟩) fun u eu => by rw [h] at eu; cases eu; rfl)
      · cases hf
    · cases hf
/-- xs.pop(e) -/
def popAtE (i : Nat) (f : SE) : SE := fun ρ => match ρ[i]? with
  | some (.ow _ _ (.lst _)) => (match f ρ with
    | some (.val (.int k), ρ1) => (match ρ1[i]? with
      | some (.ow p false (.lst ds)) => (match (if ds.length ≤ 16000000 then ixN ds.length k else none) with
        | some j => match ds[j]? with
          | some d => some (.val d, ρ1.set i (.ow p false (.lst (ds.eraseIdx j))))
          | none => none
        | none => none)
      | _ => none)
    | _ => none)
  | _ => none
theorem Ex.popAt {i : Nat} {F : SE} (ho : PE X o (tVar i)) (he : Ex X e F) (hbase : attributeBase o "pop" X.env (eval o X.env) = eval o X.env := by rfl)
    (hfew : ((backTo pos (starEach [e] X.env)).all (fun x => !x.1) && (backToKw pos (keywordEach [] X.env)).all (fun x => x.1.isSome) && decide ([e].length + ([] : List Keyword).length + (if ([] : List Keyword).isEmpty then 0 else 1) < 30)) = true := by rfl)
    (hline : (apos.endLine == pos.line) = true := by rfl) (hs : starEach [e] X.env = (false, eval e X.env) :: starEach [] X.env := by rfl) (hplain : (backTo pos (starEach [] X.env)).any (·.1) = false := by rfl) :
    Ex X (.Call (.Attribute o "pop" apos) [e] [] pos) (popAtE i F) :=
  PE.imp (pe_bm PySem.F.plainAttrs_list PySem.F.slot_list_pop PySem.F.type_list_pop mt_popAt ho (pa_cons he pa_nil hs) hbase hfew hline hs hplain) fun σ H Q ⟨G, ρ, r', ρ', R, hf, hQ⟩ => by
    unfold popAtE at hf
    split at hf
    · rename_i p0 l0 ds0 e0
      split at hf
      · rename_i k ρ1 e1
        split at hf
        · rename_i p ds e2
          split at hf
          · rename_i j ej0
            have hzz : ds.length ≤ 16000000 ∧ ixN ds.length k = some j := by
              split at ej0
              · exact ⟨by assumption, ej0⟩
              · cases ej0
            obtain ⟨hz, ej⟩ := hzz
            split at hf
            · rename_i d ed
              cases hf
              obtain ⟨a, xs0, s, h0⟩ := R.lstSlot e0
              refine ⟨.ref a, s, .inl ⟨rfl, xs0, SqL.of h0⟩, G, ρ, _, ρ1, R, e1, fun v H1 P => ?_⟩
              obtain ⟨a', xs, s', h, w⟩ := P.rel.ownL e2
              rw [s] at s'; cases s'
              obtain ⟨u, eu, ru⟩ := w.get ed
              obtain ⟨h1, h2, h3, h4⟩ := ixN_seq ej
              have hl := w.length
              refine ⟨a, xs, k, j, u, rfl, ?_, h, by omega, by omega, by rw [hl]; exact h1, eu, ?_⟩
              · have wv := P.2.2
                cases wv; rfl
              obtain ⟨R2, S2⟩ := P.rel.lstTo e2 s h (w.eraseIdx j)
              refine hQ _ _ ⟨P.step.trans S2, R2, ?_⟩
              rw [S2.sk.av]
              exact ru.go (goes_wr (.inr ⟨i, p, false, _, e2, s⟩) fun u eu => by rw [h] at eu; cases eu; rfl)
            · cases hf
          · cases hf
        · cases hf
      · cases hf
    · cases hf
end
end Mi

/-! Loops. -/
namespace Mi
open PySem PySem.Spec
open PyProof.Rows hiding St
open L2

theorem ne_of_mem {α : Type} {i j : α} {is : List α} (hj : j ∈ is) (h : i ∉ is) : j ≠ i := fun z => h (by rw [← z]; exact hj)
/-! ### locks: a list that a loop walks stays -/
def lock1 (i : Nat) (ρ : En) : En := match ρ[i]? with
  | some (.ow p false (.lst ds)) => ρ.set i (.ow p true (.lst ds))
  | _ => ρ
def lockAll : List Nat → En → En
  | [], ρ => ρ
  | i :: is, ρ => lockAll is (lock1 i ρ)
/-- the slots of operands that are lists not locked yet -/
def toLock (ρ : En) : List Opd → List Nat
  | [] => []
  | .slot i :: rs => (match ρ[i]? with
    | some (.ow _ false (.lst _)) => if i ∈ toLock ρ rs then toLock ρ rs else i :: toLock ρ rs
    | _ => toLock ρ rs)
  | _ :: rs => toLock ρ rs
def unlock1 (i : Nat) (ρ : En) : Option En := match ρ[i]? with
  | some (.ow p true (.lst ds)) => some (ρ.set i (.ow p false (.lst ds)))
  | _ => none
def unlockAll : List Nat → En → Option En
  | [], ρ => some ρ
  | i :: is, ρ => match unlock1 i ρ with
    | some ρ1 => unlockAll is ρ1
    | none => none
section
variable {K : PySem.W.Frag} {G : Fr} {ρ ρ' : En} {σ σ' : St} {H H' : Hp}
/-- a slot's lock is turned -/
theorem Rel.turn {i : Nat} {p l l' : Bool} {ds : List D} (R : Rel K G ρ σ H) (e : ρ[i]? = some (.ow p l (.lst ds))) (hp : ∀ a q, G.pin i = some (a, q) → (p || l') = true) :
    Rel K G (ρ.set i (.ow p l' (.lst ds))) σ H ∧ (∀ a, Owned (ρ.set i (.ow p l' (.lst ds))) σ a ↔ Owned ρ σ a) := by
  have own : ∀ a, Owned (ρ.set i (.ow p l' (.lst ds))) σ a ↔ Owned ρ σ a := fun a => by
    constructor
    · rintro ⟨j, q, k, d, e1, e2⟩
      rcases set_get e1 with ⟨hj, z⟩ | ⟨hj, z⟩
      · cases z
        subst hj
        exact ⟨j, p, l, _, e, e2⟩
      · exact ⟨j, q, k, d, z, e2⟩
    · rintro ⟨j, q, k, d, e1, e2⟩
      by_cases hj : j = i
      · subst hj
        rw [e] at e1
        cases e1
        exact ⟨j, p, l', _, set_at e, e2⟩
      · exact ⟨j, q, k, d, by rw [set_ne hj]; exact e1, e2⟩
  have av : Av G (ρ.set i (.ow p l' (.lst ds))) σ = Av G ρ σ := by
    funext a
    unfold Av
    rw [own a]
  have back : ∀ (j : Nat) (q k : Bool) (d : D), (ρ.set i (.ow p l' (.lst ds)))[j]? = some (.ow q k d) → ∃ k', ρ[j]? = some (.ow q k' d) := fun j q k d e1 => by
    rcases set_get e1 with ⟨hj, z⟩ | ⟨hj, z⟩
    · cases z
      subst hj
      exact ⟨l, e⟩
    · exact ⟨k, z⟩
  refine ⟨⟨by rw [List.length_set]; exact R.len, fun j d e1 => ?_, fun j q k d e1 => ?_, fun j j' q k d q' k' d' a e1 e2 e3 e4 => ?_, fun j a q hj => ?_, R.dom, fun j k d a e1 e2 => ?_⟩, own⟩
  · rw [av]
    rcases set_get e1 with ⟨_, z⟩ | ⟨hj, z⟩
    · cases z
    · exact R.fr j d z
  · rw [av]
    rcases set_get e1 with ⟨hj, z⟩ | ⟨hj, z⟩
    · cases z
      subst hj
      obtain ⟨a, s, w⟩ := R.ow j p l _ e
      refine ⟨a, s, ?_⟩
      cases w with
      | lst h r => exact .lst h r
    · exact R.ow j q k d z
  · obtain ⟨f1, z1⟩ := back j q k d e1
    obtain ⟨f2, z2⟩ := back j' q' k' d' e2
    exact R.inj j j' q f1 d q' f2 d' a z1 z2 e3 e4
  · obtain ⟨e1, k, d, e2, e3⟩ := R.pin j a q hj
    by_cases z : j = i
    · subst z
      rw [e] at e2
      cases e2
      exact ⟨e1, l', _, set_at e, hp a _ hj⟩
    · exact ⟨e1, k, d, by rw [set_ne z]; exact e2, e3⟩
  · obtain ⟨f1, z1⟩ := back j false k d e1
    exact R.dj j f1 d a z1 e2
/-- pins besides -/
def Fr.pins (G : Fr) (is : List Nat) (ρ : En) (σ : St) : Fr := ⟨G.O, fun j => if j ∈ is then (match ρ[j]?, σ[j]? with | some (.ow p _ _), some (some (.ref a)) => some (a, p) | _, _ => G.pin j) else G.pin j⟩
/-- locked: the same, pinned -/
theorem lockAll_spec : ∀ (is : List Nat) (ρ : En), (∀ i ∈ is, ∃ p ds, ρ[i]? = some (.ow p false (.lst ds))) → is.Nodup →
    (∀ i p ds, i ∈ is → ρ[i]? = some (.ow p false (.lst ds)) → (lockAll is ρ)[i]? = some (.ow p true (.lst ds))) ∧ (∀ i, i ∉ is → (lockAll is ρ)[i]? = ρ[i]?) ∧ (lockAll is ρ).length = ρ.length
  | [], ρ, _, _ => ⟨fun _ _ _ h => by simp at h, fun _ _ => rfl, rfl⟩
  | i :: is, ρ, h, nd => by
    obtain ⟨p, ds, e⟩ := h i List.mem_cons_self
    have e1 : lock1 i ρ = ρ.set i (.ow p true (.lst ds)) := by unfold lock1; rw [e]
    rw [List.nodup_cons] at nd
    have h' : ∀ j ∈ is, ∃ p ds, (lock1 i ρ)[j]? = some (.ow p false (.lst ds)) := fun j hj => by
      obtain ⟨q, es, e2⟩ := h j (List.mem_cons_of_mem _ hj)
      exact ⟨q, es, by rw [e1, set_ne (ne_of_mem hj nd.1)]; exact e2⟩
    obtain ⟨q1, q2, q3⟩ := lockAll_spec is (lock1 i ρ) h' nd.2
    refine ⟨fun j q es hj ej => ?_, fun j hj => ?_, ?_⟩
    · show (lockAll is (lock1 i ρ))[j]? = _
      rcases List.mem_cons.mp hj with rfl | hj
      · rw [e] at ej
        cases ej
        rw [q2 _ nd.1, e1]
        exact set_at e
      · exact q1 j q es hj (by rw [e1, set_ne (ne_of_mem hj nd.1)]; exact ej)
    · show (lockAll is (lock1 i ρ))[j]? = _
      rw [List.mem_cons, not_or] at hj
      rw [q2 j hj.2, e1, set_ne hj.1]
    · show (lockAll is (lock1 i ρ)).length = _
      rw [q3, e1, List.length_set]
theorem Rel.lockAll : ∀ {is : List Nat} {ρ : En} {G : Fr}, Rel K G ρ σ H → (∀ i ∈ is, ∃ p ds, ρ[i]? = some (.ow p false (.lst ds))) → is.Nodup →
    Rel K G (Mi.lockAll is ρ) σ H ∧ (∀ a, Owned (Mi.lockAll is ρ) σ a ↔ Owned ρ σ a)
  | [], ρ, G, R, _, _ => ⟨R, fun _ => Iff.rfl⟩
  | i :: is, ρ, G, R, h, nd => by
    obtain ⟨p, ds, e⟩ := h i List.mem_cons_self
    have e1 : lock1 i ρ = ρ.set i (.ow p true (.lst ds)) := by unfold lock1; rw [e]
    rw [List.nodup_cons] at nd
    obtain ⟨R1, o1⟩ := R.turn (l' := true) e fun _ _ _ => by cases p <;> rfl
    rw [← e1] at R1 o1
    obtain ⟨R2, o2⟩ := Rel.lockAll (is := is) R1 (fun j hj => by
      obtain ⟨q, es, e2⟩ := h j (List.mem_cons_of_mem _ hj)
      exact ⟨q, es, by rw [e1, set_ne (ne_of_mem hj nd.1)]; exact e2⟩) nd.2
    exact ⟨R2, fun a => (o2 a).trans (o1 a)⟩
theorem Rel.repin {G' : Fr} (R : Rel K G ρ σ H) (hO : G'.O = G.O) (h : ∀ i a p, G'.pin i = some (a, p) → σ[i]? = some (some (.ref a)) ∧ ∃ l d, ρ[i]? = some (.ow p l d) ∧ (p || l) = true) : Rel K G' ρ σ H := by
  obtain ⟨O, pin⟩ := G
  obtain ⟨O', pin'⟩ := G'
  cases (show O' = O from hO)
  exact ⟨R.len, R.fr, R.ow, R.inj, h, R.dom, R.dj⟩
theorem toLock_mem {ρ : En} : ∀ {rs : List Opd} {i : Nat}, i ∈ toLock ρ rs → .slot i ∈ rs ∧ ∃ p ds, ρ[i]? = some (.ow p false (.lst ds))
  | [], i, h => by simp [toLock] at h
  | r :: rs, i, h => by
    have up : i ∈ toLock ρ rs → .slot i ∈ r :: rs ∧ ∃ p ds, ρ[i]? = some (.ow p false (.lst ds)) := fun z => ⟨List.mem_cons_of_mem _ (toLock_mem z).1, (toLock_mem z).2⟩
    cases r with
    | val d => exact up (by simpa [toLock] using h)
    | new d => exact up (by simpa [toLock] using h)
    | slot j =>
      simp only [toLock] at h
      split at h
      · rename_i p ds e
        split at h
        · exact up h
        · rcases List.mem_cons.mp h with rfl | h
          · exact ⟨List.mem_cons_self, _, _, e⟩
          · exact up h
      · exact up h
theorem toLock_nodup {ρ : En} : ∀ rs : List Opd, (toLock ρ rs).Nodup
  | [] => by simp [toLock]
  | r :: rs => by
    have ih := toLock_nodup (ρ := ρ) rs
    cases r with
    | val d => simpa [toLock] using ih
    | new d => simpa [toLock] using ih
    | slot j =>
      simp only [toLock]
      split
      · split
        · exact ih
        · rename_i h
          exact List.nodup_cons.mpr ⟨h, ih⟩
      · exact ih
theorem toLock_in {ρ : En} {i : Nat} {p : Bool} {ds : List D} (e : ρ[i]? = some (.ow p false (.lst ds))) : ∀ {rs : List Opd}, .slot i ∈ rs → i ∈ toLock ρ rs
  | [], hi => by cases hi
  | r :: rs, hi => by
    cases r with
    | val d0 => simpa [toLock] using toLock_in e (rs := rs) (by simpa using hi)
    | new d0 => simpa [toLock] using toLock_in e (rs := rs) (by simpa using hi)
    | slot k =>
      simp only [toLock]
      by_cases hk : k = i
      · subst hk
        rw [e]
        simp only
        split
        · assumption
        · exact List.mem_cons_self
      · have hi' : i ∈ toLock ρ rs := toLock_in e (by
          rcases List.mem_cons.mp hi with z | z
          · cases z; exact absurd rfl hk
          · exact z)
        split
        · split
          · exact hi'
          · exact List.mem_cons_of_mem _ hi'
        · exact hi'
theorem Rel.locked {rs : List Opd} (R : Rel K G ρ σ H) : Rel K (G.pins (toLock ρ rs) ρ σ) (Mi.lockAll (toLock ρ rs) ρ) σ H ∧ (∀ a, Owned (Mi.lockAll (toLock ρ rs) ρ) σ a ↔ Owned ρ σ a) ∧ (∀ a, Wr (Mi.lockAll (toLock ρ rs) ρ) σ a → Wr ρ σ a) ∧
    (∀ i a, .slot i ∈ rs → σ[i]? = some (some (.ref a)) → (∃ p l ds, ρ[i]? = some (.ow p l (.lst ds))) → ¬ Wr (Mi.lockAll (toLock ρ rs) ρ) σ a) := by
  have hm : ∀ i ∈ toLock ρ rs, ∃ p ds, ρ[i]? = some (.ow p false (.lst ds)) := fun i hi => (toLock_mem hi).2
  have nd := toLock_nodup (ρ := ρ) rs
  obtain ⟨R1, o1⟩ := R.lockAll hm nd
  obtain ⟨s1, s2, s3⟩ := lockAll_spec (toLock ρ rs) ρ hm nd
  refine ⟨R1.repin rfl fun i a p hi => ?_, o1, fun a ⟨i, p, d, e1, e2⟩ => ?_, fun i a hi es hs ⟨j, q, d, e1, e2⟩ => ?_⟩
  · unfold Fr.pins at hi
    simp only at hi
    split at hi
    · rename_i hmem
      obtain ⟨p', ds, e⟩ := hm i hmem
      obtain ⟨b, s, w⟩ := R.ow i p' false _ e
      rw [s, e] at hi
      cases hi
      exact ⟨s, true, _, s1 i p ds hmem e, by cases p <;> rfl⟩
    · rename_i hmem
      obtain ⟨e1, l, d, e2, e3⟩ := R.pin i a p hi
      exact ⟨e1, l, d, by rw [s2 i hmem]; exact e2, e3⟩
  · by_cases hmem : i ∈ toLock ρ rs
    · obtain ⟨q, ds, e⟩ := hm i hmem
      rw [s1 i q ds hmem e] at e1
      cases e1
    · rw [s2 i hmem] at e1
      exact ⟨i, p, d, e1, e2⟩
  · obtain ⟨p, l, ds, e⟩ := hs
    have hij : i = j := by
      have z1 : ∃ q' l' d', ρ[j]? = some (.ow q' l' d') := by
        by_cases hmem : j ∈ toLock ρ rs
        · obtain ⟨q', ds', e'⟩ := hm j hmem
          exact ⟨_, _, _, e'⟩
        · rw [s2 j hmem] at e1
          exact ⟨_, _, _, e1⟩
      obtain ⟨q', l', d', z1⟩ := z1
      exact R.inj i j p l _ q' l' d' a e z1 es e2
    subst hij
    have hin : l = false → i ∈ toLock ρ rs := fun hl => by
      subst hl
      exact toLock_in e hi
    by_cases hmem : i ∈ toLock ρ rs
    · obtain ⟨q', ds', e'⟩ := hm i hmem
      rw [s1 i q' ds' hmem e'] at e1
      cases e1
    · rw [s2 i hmem, e] at e1
      cases e1
      exact hmem (hin rfl)
theorem unlockAll_rel : ∀ {is : List Nat} {ρ ρ' : En} {G : Fr}, Rel K G ρ σ H → (∀ i a p, G.pin i = some (a, p) → i ∈ is → p = true) → unlockAll is ρ = some ρ' →
    Rel K G ρ' σ H ∧ (∀ a, Owned ρ' σ a ↔ Owned ρ σ a) ∧ (∀ a, Wr ρ' σ a → Wr ρ σ a ∨ ∃ i ∈ is, σ[i]? = some (some (.ref a)))
  | [], ρ, ρ', G, R, _, h => by
    cases h
    exact ⟨R, fun _ => Iff.rfl, fun _ z => .inl z⟩
  | i :: is, ρ, ρ', G, R, hp, h => by
    simp only [unlockAll] at h
    split at h
    · rename_i ρ1 e1
      unfold unlock1 at e1
      split at e1
      · rename_i p ds e
        cases e1
        obtain ⟨R1, o1⟩ := R.turn (l' := false) e fun a q ha => by
          have z := hp i a q ha List.mem_cons_self
          subst z
          obtain ⟨_, l, d, z, _⟩ := R.pin i a true ha
          rw [e] at z
          cases z; rfl
        obtain ⟨R2, o2, w2⟩ := unlockAll_rel (is := is) R1 (fun j a q hj hm => hp j a q hj (List.mem_cons_of_mem _ hm)) h
        refine ⟨R2, fun a => (o2 a).trans (o1 a), fun a z => ?_⟩
        rcases w2 a z with ⟨j, q, d, e3, e4⟩ | ⟨j, hj, z⟩
        · rcases set_get e3 with ⟨hj, _⟩ | ⟨hj, z⟩
          · subst hj
            exact .inr ⟨j, List.mem_cons_self, e4⟩
          · exact .inl ⟨j, q, d, z, e4⟩
        · exact .inr ⟨j, List.mem_cons_of_mem _ hj, z⟩
      · cases e1
    · cases h
end

/-! ### what is walked -/
abbrev SI := En → Option (List Opd × List D × En)
/-- a walk whose items stand for data -/
def WalkD (K : PySem.W.Frag) (G : Fr) (ρ : En) (σ : St) (H : Hp) (rs : List Opd) (ds : List D) (J : It) : Prop :=
  ∃ Gd Y, Walk J ds.length Gd Y ∧ (∀ H', (∀ b o, H b = some o → ¬ Wr (lockAll (toLock ρ rs) ρ) σ b → H' b = some o) → Gd H') ∧
    ∀ (i : Nat) (H1 : Hp) (x : V) (H2 : Hp) (d : D) (A : Addr → Prop), ds[i]? = some d → Y i H1 x H2 → (∀ b o, H b = some o → ¬ Wr (lockAll (toLock ρ rs) ρ) σ b → H1 b = some o) → Goes H H1 (Av G ρ σ) A → (∀ b o, H1 b = some o → H2 b = some o) ∧ Rep K H2 A x d
def tI (K : PySem.W.Frag) (f : SI) : TI := fun σ H R => ∃ G ρ rs ds ρ', Rel K G ρ σ H ∧ f ρ = some (rs, ds, ρ') ∧ ∀ J H', Step ρ σ H ρ' H' → Rel K G ρ' σ H' → WalkD K G ρ' σ H' rs ds J → R J H'
abbrev Ix (X : Cx) (tg iter : Expr) (f : SI) : Prop := PI X tg iter (tI X.K f)
theorem PI.imp {X : Cx} {tg e : Expr} {t t' : TI} (h : PI X tg e t) (i : ∀ σ H Q, t' σ H Q → t σ H Q) : PI X tg e t' := ⟨fun pins s σ H R I q => h.run pins s σ H R I (i σ H R q)⟩
section
variable {X : Cx} {tg e : Expr} {f : SE}
def iSeq (K : PySem.W.Frag) (tl : TE) : TI := fun σ H R => tl σ H fun x H1 => ∃ a, x = .ref a ∧ (((∃ xs, SqL K H1 a xs) ∧ R (Itl K a) H1) ∨ ((∃ xs, SqT K H1 a xs) ∧ R (Itt K a) H1))
theorem pi_seq {l : Expr} {tl : TE} (hl : PE X l tl) : PI X tg l (iSeq X.K tl) := by
  refine ⟨fun pins s σ H R I h => ?_⟩
  refine thn (hl.run pins s σ H _ I h) fun v s1 ⟨x, H1, I1, r1, q1⟩ => ?_
  obtain ⟨a, e, q⟩ := q1
  subst e
  cases r1
  rcases q with ⟨⟨xs, hq⟩, q⟩ | ⟨⟨xs, hq⟩, q⟩
  · obtain ⟨its, rv, p, hz⟩ := I1.list hq
    refine wpAny_pyIter_list p.isList ?_
    refine ⟨s1.heap.objs.size, [s1.heap.objs.size], _, _, H1, rfl, I1.kept (t' := s1.toks) fun b o e => Heap.get?_push_of_some _ e, turn_list a _, ⟨_, Heap.get?_push_size _ rfl, rfl, rfl⟩, fun b hb => ?_, q⟩
    have e : b = s1.heap.objs.size := by simpa using hb
    subst e
    exact I1.fpOk (Nat.le_refl _) (I1.hok.fresh (Nat.le_refl _))
  · obtain ⟨its, rv, p, hz⟩ := I1.tuple hq
    refine wpAny_pyIter_tuple (show s1.heap.IsTuple a its.toArray from p) ?_
    refine ⟨s1.heap.objs.size, [s1.heap.objs.size], _, _, H1, rfl, I1.kept (t' := s1.toks) fun b o e => Heap.get?_push_of_some _ e, turn_tuple a _, ⟨_, Heap.get?_push_size _ rfl, rfl, rfl⟩, fun b hb => ?_, q⟩
    have e : b = s1.heap.objs.size := by simpa using hb
    subst e
    exact I1.fpOk (Nat.le_refl _) (I1.hok.fresh (Nat.le_refl _))
/-- over a list or a tuple -/
def seqI (f : SE) : SI := fun ρ => match f ρ with
  | some (r, ρ') => match res ρ' r with
    | some (.lst ds) => some ([r], ds, ρ')
    | some (.tup ds) => some ([r], ds, ρ')
    | some (.kt ds) => some ([r], ds, ρ')
    | _ => none
  | none => none
/-- a list that stays: through a loop its object is the same -/
theorem lst_keeps {K : PySem.W.Frag} {G : Fr} {ρ : En} {σ : St} {H : Hp} {r : Opd} {rs : List Opd} {v : V} {ds : List D} (R : Rel K G ρ σ H) (o : OpOk K G ρ σ H r v) (e : res ρ r = some (.lst ds)) (hr : r ∈ rs) :
    ∃ a xs, v = .ref a ∧ H a = some (.lst xs) ∧ RepAll K H (Av G ρ σ) xs ds ∧ ¬ Wr (lockAll (toLock ρ rs) ρ) σ a := by
  obtain ⟨a, xs, ev, h, w⟩ := o.lst R e
  refine ⟨a, xs, ev, h, w, ?_⟩
  obtain ⟨_, o1, o2, o3⟩ := Rel.locked (rs := rs) R
  subst ev
  have notIn : (¬ Av G ρ σ a) → ¬ Wr (lockAll (toLock ρ rs) ρ) σ a := fun n z => n (.inr (o2 a z).owned)
  cases r with
  | val d =>
    cases e
    cases o with
    | lst _ n _ => exact notIn n
  | new d =>
    cases e
    cases o with
    | lst _ n _ => exact notIn n
  | slot i =>
    obtain ⟨s, q, l, d', e'⟩ := o
    rw [res_slot e'] at e
    cases e
    exact o3 i a hr s ⟨q, l, _, e'⟩
theorem Wr.notTup {K : PySem.W.Frag} {G : Fr} {ρ : En} {σ : St} {H : Hp} {a : Addr} {u : HO} (R : Rel K G ρ σ H) (e : H a = some u) (t : tupO u = true) : ¬ Wr ρ σ a := fun z => by
  obtain ⟨o, e', t'⟩ := R.owned z.owned
  rw [e] at e'; cases e'
  rw [t] at t'; cases t'
theorem walkD_lst {K : PySem.W.Frag} {G : Fr} {ρ : En} {σ : St} {H : Hp} {r : Opd} {v : V} {ds : List D} (R : Rel K G ρ σ H) (o : OpOk K G ρ σ H r v) (e : res ρ r = some (.lst ds)) :
    ∃ a xs, v = .ref a ∧ SqL K H a xs ∧ WalkD K G ρ σ H [r] ds (Itl K a) := by
  obtain ⟨a, xs, ev, h, w, nw⟩ := lst_keeps (rs := [r]) R o e (by simp)
  refine ⟨a, xs, ev, SqL.of h, _, _, by rw [← w.length]; exact walk_list, fun H' k => SqL.of (k _ _ h nw), fun i H1 x H2 d A ed y _ g => ?_⟩
  obtain ⟨rfl, hx⟩ := y
  refine ⟨fun _ _ e => e, ?_⟩
  obtain ⟨d', e1, e2⟩ := w.getV hx
  rw [ed] at e1
  cases e1
  exact e2.go g
theorem walkD_tup {K : PySem.W.Frag} {G : Fr} {ρ : En} {σ : St} {H : Hp} {r : Opd} {v : V} {d0 : D} {ds : List D} (R : Rel K G ρ σ H) (o : OpOk K G ρ σ H r v) (e : res ρ r = some d0) (et : d0.asT = some ds) :
    ∃ a xs, v = .ref a ∧ SqT K H a xs ∧ WalkD K G ρ σ H [r] ds (Itt K a) := by
  have main : ∃ a xs, v = .ref a ∧ SqT K H a xs ∧ RepAll K H (Av G ρ σ) xs ds ∧ ∀ H', (∀ b o, H b = some o → ¬ Wr (lockAll (toLock ρ [r]) ρ) σ b → H' b = some o) → SqT K H' a xs := by
    unfold D.asT at et
    split at et
    · cases et
      obtain ⟨a, xs, h1, h2, h3⟩ := o.tup R e
      refine ⟨a, xs, h1, SqT.of h2, h3, fun H' k => SqT.of (k _ _ h2 fun z => ?_)⟩
      obtain ⟨_, _, o2, _⟩ := Rel.locked (rs := [r]) R
      exact Wr.notTup R h2 rfl (o2 a z)
    · cases et
      obtain ⟨a, xs, h1, h2, h3⟩ := o.kt R e
      exact ⟨a, xs, h1, .inr h2, h3, fun H' k => .inr h2⟩
    · cases et
  obtain ⟨a, xs, h1, h2, w, k⟩ := main
  refine ⟨a, xs, h1, h2, _, _, by rw [← w.length]; exact walk_tup, k, fun i H1 x H2 d A ed y _ g => ?_⟩
  obtain ⟨rfl, hx⟩ := y
  refine ⟨fun _ _ e => e, ?_⟩
  obtain ⟨d', e1, e2⟩ := w.getV hx
  rw [ed] at e1
  cases e1
  exact e2.go g
theorem Ix.seq (he : Ex X e f) : Ix X tg e (seqI f) := PI.imp (pi_seq he) fun σ H Q ⟨G, ρ, rs, ds, ρ', R, hf, hQ⟩ => by
  unfold seqI at hf
  split at hf
  · rename_i r ρ1 e1
    split at hf
    · rename_i ds' ed
      cases hf
      refine ⟨G, ρ, r, ρ', R, e1, fun v H' P => ?_⟩
      obtain ⟨a, xs, rfl, h, w⟩ := walkD_lst P.rel (P.ok R) ed
      exact ⟨a, rfl, .inl ⟨⟨xs, h⟩, hQ _ _ P.step P.rel w⟩⟩
    · rename_i ds' ed
      cases hf
      refine ⟨G, ρ, r, ρ', R, e1, fun v H' P => ?_⟩
      obtain ⟨a, xs, rfl, h, w⟩ := walkD_tup P.rel (P.ok R) ed rfl
      exact ⟨a, rfl, .inr ⟨⟨xs, h⟩, hQ _ _ P.step P.rel w⟩⟩
    · rename_i ds' ed
      cases hf
      refine ⟨G, ρ, r, ρ', R, e1, fun v H' P => ?_⟩
      obtain ⟨a, xs, rfl, h, w⟩ := walkD_tup P.rel (P.ok R) ed rfl
      exact ⟨a, rfl, .inr ⟨⟨xs, h⟩, hQ _ _ P.step P.rel w⟩⟩
    · cases hf
  · cases hf
/-- the numbers of a range -/
def rangeD (lo hi : Int) : List D := (List.range (hi - lo).toNat).map fun i => .int (lo + (i : Nat))
theorem walkD_range {K : PySem.W.Frag} {G : Fr} {ρ : En} {σ : St} {H : Hp} {lo hi : Int} : WalkD K G ρ σ H [] (rangeD lo hi) (Itr lo (hi - lo).toNat) := by
  refine ⟨_, _, by unfold rangeD; rw [List.length_map, List.length_range]; exact walk_range, fun _ _ => trivial, fun i H1 x H2 d A ed y _ g => ?_⟩
  obtain ⟨rfl, rfl⟩ := y
  refine ⟨fun _ _ e => e, ?_⟩
  unfold rangeD at ed
  rw [List.getElem?_map] at ed
  cases q : (List.range (hi - lo).toNat)[i]? with
  | none => rw [q] at ed; cases ed
  | some j =>
    rw [q] at ed
    cases ed
    obtain ⟨hi', e'⟩ := List.getElem?_eq_some_iff.mp q
    rw [List.getElem_range] at e'
    subst e'
    exact .int _
def rng1I (F : SA) : SI := fun ρ => match F ρ with
  | some ([.val (.int j)], ρ') => if j < 2 ^ 62 ∧ -(2 ^ 62) ≤ j then some ([], rangeD 0 j, ρ') else none
  | _ => none
def rng2I (F : SA) : SI := fun ρ => match F ρ with
  | some ([.val (.int i), .val (.int j)], ρ') => if (i < 2 ^ 62 ∧ -(2 ^ 62) ≤ i) ∧ j < 2 ^ 62 ∧ -(2 ^ 62) ≤ j then some ([], rangeD i j, ρ') else none
  | _ => none
theorem opsOk1 {K : PySem.W.Frag} {G : Fr} {ρ : En} {σ : St} {H : Hp} {r : Opd} {vs : List V} (h : OpsOk K G ρ σ H [r] vs) : ∃ v, vs = [v] ∧ OpOk K G ρ σ H r v := by
  cases h with
  | cons h w => cases w; exact ⟨_, rfl, h⟩
theorem opsOk2 {K : PySem.W.Frag} {G : Fr} {ρ : En} {σ : St} {H : Hp} {r r' : Opd} {vs : List V} (h : OpsOk K G ρ σ H [r, r'] vs) : ∃ v w, vs = [v, w] ∧ OpOk K G ρ σ H r v ∧ OpOk K G ρ σ H r' w := by
  cases h with
  | cons h w =>
    obtain ⟨v, rfl, h2⟩ := opsOk1 w
    exact ⟨_, _, rfl, h, h2⟩
theorem Ix.range1 {a : Expr} {F : SA} {p pos : Pos} (hm : X.mg "range" = none) (ha : Ar X [a] F) (hg : Gl X "range" := by rfl) (hs : starEach [a] X.env = [(false, eval a X.env)] := by rfl) : Ix X tg (.Call (.Name "range" p) [a] [] pos) (rng1I F) :=
  PI.imp (pi_range1 hg hm ha hs) fun σ H Q ⟨G, ρ, rs, ds, ρ', R, hf, hQ⟩ => by
    unfold rng1I at hf
    split at hf
    · rename_i j ρ1 e1
      split at hf
      · rename_i hj
        cases hf
        refine ⟨G, ρ, _, ρ', R, e1, fun vs H' S A => ?_⟩
        obtain ⟨v, rfl, o⟩ := opsOk1 (A.ok R)
        have ev : v = .int j := by cases o; rfl
        subst ev
        refine ⟨j, rfl, hj.2, hj.1, hQ _ _ S A.rel ?_⟩
        have w := walkD_range (K := X.K) (G := G) (ρ := ρ') (σ := σ) (H := H') (lo := 0) (hi := j)
        simpa using w
      · cases hf
    · cases hf
theorem Ix.range2 {a b : Expr} {F : SA} {p pos : Pos} (hm : X.mg "range" = none) (ha : Ar X [a, b] F) (hg : Gl X "range" := by rfl) (hs : starEach [a, b] X.env = [(false, eval a X.env), (false, eval b X.env)] := by rfl) (hs2 : starEach [b] X.env = [(false, eval b X.env)] := by rfl) :
    Ix X tg (.Call (.Name "range" p) [a, b] [] pos) (rng2I F) :=
  PI.imp (pi_range2 hg hm ha hs hs2) fun σ H Q ⟨G, ρ, rs, ds, ρ', R, hf, hQ⟩ => by
    unfold rng2I at hf
    split at hf
    · rename_i i j ρ1 e1
      split at hf
      · rename_i hj
        cases hf
        refine ⟨G, ρ, _, ρ', R, e1, fun vs H' S A => ?_⟩
        obtain ⟨v, w, rfl, o1, o2⟩ := opsOk2 (A.ok R)
        have ev : v = .int i := by cases o1; rfl
        have ew : w = .int j := by cases o2; rfl
        subst ev ew
        exact ⟨i, j, rfl, ⟨hj.1.2, hj.1.1, hj.2.2, hj.2.1⟩, hQ _ _ S A.rel walkD_range⟩
      · cases hf
    · cases hf
end

/-! ### for -/
def loopS (tg : D → En → Option En) (body : SS) : List D → En → Option Out
  | [], ρ => some (.nx ρ)
  | d :: ds, ρ => match tg d ρ with
    | none => none
    | some ρ1 => match body ρ1 with
      | none => none
      | some (.nx ρ2) => loopS tg body ds ρ2
      | some (.ct ρ2) => loopS tg body ds ρ2
      | some (.bk ρ2) => some (.bk ρ2)
      | some (.rt r ρ2) => some (.rt r ρ2)
def forS (it : SI) (tg : D → En → Option En) (body : SS) : SS := fun ρ => match it ρ with
  | none => none
  | some (rs, ds, ρ1) => match loopS tg body ds (lockAll (toLock ρ1 rs) ρ1) with
    | none => none
    | some (.nx ρ2) => (unlockAll (toLock ρ1 rs) ρ2).map .nx
    | some (.bk ρ2) => (unlockAll (toLock ρ1 rs) ρ2).map .nx
    | some (.ct _) => none
    | some (.rt r ρ2) => some (.rt r ρ2)
section
variable {K : PySem.W.Frag} {G : Fr} {ρ ρ' ρ1 ρ2 : En} {σ σ' σ1 σ2 : St} {H H' H1 H2 : Hp}
theorem Rel.unpins {is : List Nat} {ρ0 : En} {σ0 : St} (R : Rel K (G.pins is ρ0 σ0) ρ σ H) (h : ∀ i a p, G.pin i = some (a, p) → σ0[i]? = some (some (.ref a)) ∧ ∃ l d, ρ0[i]? = some (.ow p l d)) : Rel K G ρ σ H :=
  R.repin rfl fun i a p hi => R.pin i a p (by
    unfold Fr.pins
    simp only
    split
    · obtain ⟨h1, l, d, h2⟩ := h i a p hi
      rw [h1, h2]
    · exact hi)
theorem av_pins {is : List Nat} {ρ0 : En} {σ0 : St} : Av (G.pins is ρ0 σ0) ρ σ = Av G ρ σ := rfl
/-- a loop's end: unlocked -/
theorem loop_end {rs : List Opd} (R0 : Rel K G ρ σ H) (P : PostS K (G.pins (toLock ρ rs) ρ σ) (lockAll (toLock ρ rs) ρ) σ H ρ2 σ2 H2) (h : unlockAll (toLock ρ rs) ρ2 = some ρ') : PostS K G ρ σ H ρ' σ2 H2 := by
  obtain ⟨_, o1, o2, _⟩ := Rel.locked (rs := rs) R0
  have hp0 : ∀ i a p, G.pin i = some (a, p) → σ[i]? = some (some (.ref a)) ∧ ∃ l d, ρ[i]? = some (.ow p l d) := fun i a p hi => by
    obtain ⟨h1, l, d, h2, _⟩ := R0.pin i a p hi
    exact ⟨h1, l, d, h2⟩
  have R2 : Rel K G ρ2 σ2 H2 := P.rel.unpins hp0
  have hslot : ∀ i ∈ toLock ρ rs, ∃ a, σ[i]? = some (some (.ref a)) ∧ σ2[i]? = some (some (.ref a)) ∧ Wr ρ σ a := fun i hi => by
    obtain ⟨p, ds, e⟩ := (toLock_mem hi).2
    obtain ⟨a, s, w⟩ := R0.ow i p false _ e
    refine ⟨a, s, (P.rel.pin i a p ?_).1, i, p, _, e, s⟩
    unfold Fr.pins
    simp only [if_pos hi, s, e]
  -- the kinds of the slots that are pinned by G are theirs
  have hk : ∀ i a p, G.pin i = some (a, p) → i ∈ toLock ρ rs → p = true := fun i a p hi hm => by
    obtain ⟨q, ds, e⟩ := (toLock_mem hm).2
    obtain ⟨_, l, d, e2, e3⟩ := R0.pin i a p hi
    rw [e] at e2
    cases e2
    simpa using e3
  obtain ⟨R3, o3, w3⟩ := unlockAll_rel R2 hk h
  refine ⟨R3, fun b o e n => P.keep b o e fun z => n (o2 b z), fun a z => ?_, fun a z => ?_, P.dom⟩
  · exact (P.own a ((o3 a).mp z)).imp (o1 a).mp id
  · rcases w3 a z with z | ⟨i, hi, s⟩
    · exact (P.wr a z).imp (o2 a) id
    · obtain ⟨b, s1, s2, w⟩ := hslot i hi
      rw [s] at s2
      cases s2
      exact .inl w
end
end Mi

namespace Mi
open PySem PySem.Spec
open PyProof.Rows hiding St
open L2
section
variable {K : PySem.W.Frag} {G G' : Fr} {ρ ρ' ρ1 ρ2 : En} {σ σ' σ1 σ2 : St} {H H' H1 H2 : Hp}
theorem Rep.goD {A A' : Addr → Prop} {v : V} {d : D} (g : Goes H H' A A') (h : Rep K H A v d) : Rep K H' A' v d := h.go g
/-- what an item of a walk is worth later -/
theorem post_goes {ρL : En} (R : Rel K G ρ σ H) (oL : ∀ a, Owned ρL σ a ↔ Owned ρ σ a) (wL : ∀ a, Wr ρL σ a → Wr ρ σ a) (P : PostS K G' ρL σ H ρ1 σ1 H1) (hO : G'.O = G.O) : Goes H H1 (Av G ρ σ) (Av G' ρ1 σ1) :=
  R.goes (fun b o e n => P.keep b o e fun z => n (wL b z)) fun b h n => by
    rcases h with h | h
    · exact .inl (by rw [← hO]; exact h)
    · rcases P.own b h with z | z
      · exact .inr ((oL b).mp z)
      · exact absurd z n
theorem PostS.ext (P : PostS K G ρ σ H ρ' σ' H1) (e : ∀ b o, H1 b = some o → H2 b = some o) : PostS K G ρ σ H ρ' σ' H2 :=
  ⟨P.rel.ext e, fun b o h n => e b o (P.keep b o h n), P.own, P.wr, fun b h => by
    cases q : H1 b with
    | none => exact absurd q (P.dom b h)
    | some o => rw [e b o q]; simp⟩
end
section
variable {X : Cx} {tg iter c : Expr} {body : List Stmt} {pos : Pos} {it : SI} {F : SS} {is : List Nat} {T : D → En → Option En} {t : STe}
theorem Sx.for_ (hp : PassesOwn (model X.prog X.w) X.A X.env X.xe) (hc : X.calm = true) (hi : Ix X tg iter it) (hg : Tg X tg is T) (hb : Sxs X body F)
    (hs : ∀ x, foldedSetIterable iter X.env x = pure x := by intro _; rfl) : Sx X (.For tg iter body [] pos) (forS it T F) := PS.imp (ps_for hp hc hi hg hb hs) fun D σ H ⟨G, ρ, o, R, hf, hD⟩ => by
  unfold forS at hf
  cases e0 : it ρ with
  | none => rw [e0] at hf; cases hf
  | some q0 =>
    obtain ⟨rs, ds, ρ1⟩ := q0
    simp only [e0] at hf
    refine ⟨G, ρ, rs, ds, ρ1, R, e0, fun J H1 S R1 W => ?_⟩
    cases eL : loopS T F ds (lockAll (toLock ρ1 rs) ρ1) with
    | none => rw [eL] at hf; cases hf
    | some oL =>
      obtain ⟨RL, oL1, oL2, _⟩ := Rel.locked (rs := rs) R1
      obtain ⟨Gd, Y, w, hGd, hY⟩ := W
      -- what the loop's outcome is to give
      have fin : OutD X.K (G.pins (toLock ρ1 rs) ρ1 σ) (lockAll (toLock ρ1 rs) ρ1) σ H1 oL { D with bk := D.nx, ct := fun _ _ => False } := by
        have S1 := S.post R1
        have endN : ∀ ρ2, (unlockAll (toLock ρ1 rs) ρ2).map Out.nx = some o → ∀ σ' H', PostS X.K (G.pins (toLock ρ1 rs) ρ1 σ) (lockAll (toLock ρ1 rs) ρ1) σ H1 ρ2 σ' H' → D.nx σ' H' := fun ρ2 h σ' H' P => by
          cases q : unlockAll (toLock ρ1 rs) ρ2 with
          | none => rw [q] at h; cases h
          | some ρ' =>
            rw [q] at h
            cases h
            exact hD σ' H' (S1.trans (loop_end R1 P q))
        cases oL with
        | nx ρ2 => simp only [eL] at hf; exact endN ρ2 hf
        | bk ρ2 => simp only [eL] at hf; exact endN ρ2 hf
        | ct ρ2 => simp only [eL] at hf; cases hf
        | rt r ρ2 =>
          simp only [eL] at hf
          cases hf
          intro σ' v H' P w'
          have P' : PostS X.K G ρ1 σ H1 ρ2 σ' H' := ⟨P.rel.unpins fun i a p hi => (by
              obtain ⟨h1, l, d, h2, _⟩ := R1.pin i a p hi
              exact ⟨h1, l, d, h2⟩), fun b o e n => P.keep b o e fun z => n (oL2 b z), fun a z => (P.own a z).imp (oL1 a).mp id, fun a z => (P.wr a z).imp (oL2 a) id, P.dom⟩
          refine hD σ' v H' (S1.trans P') (RetOk.before S1 ?_)
          cases r with
          | val d => exact w'
          | slot i => exact w'
          | new d =>
            obtain ⟨p, e, hp, no, RA, ow⟩ := w'
            refine ⟨p, e, hp, no, RA.repin rfl fun i a q hi => ?_, ow⟩
            obtain ⟨h1, l, d, h2, h3⟩ := P'.rel.pin i a q hi
            exact ⟨h1, l, d, h2, h3⟩
      refine for_it w (fun i σ' H' => ∃ ρ', PostS X.K (G.pins (toLock ρ1 rs) ρ1 σ) (lockAll (toLock ρ1 rs) ρ1) σ H1 ρ' σ' H' ∧ loopS T F (ds.drop i) ρ' = some oL) ⟨_, PostS.refl RL, eL⟩ (fun i σ' H' _ ⟨ρ', P, _⟩ => hGd H' P.keep) (fun i x σ' H' H2 hi ⟨ρ', P, hl⟩ y => ?_) fun σ' H' ⟨ρ', P, hl⟩ => ?_
      · have ed : ds[i]? = some ds[i] := List.getElem?_eq_getElem hi
        rw [List.drop_eq_getElem_cons hi] at hl
        simp only [loopS] at hl
        cases et : T ds[i] ρ' with
        | none => rw [et] at hl; cases hl
        | some ρ3 =>
          simp only [et] at hl
          have gg := post_goes R1 oL1 oL2 P (show (G.pins (toLock ρ1 rs) ρ1 σ).O = G.O from rfl)
          obtain ⟨ext, rx⟩ := hY i H' x H2 ds[i] _ ed y P.keep gg
          have P2 := P.ext ext
          refine ⟨_, ρ', ds[i], ρ3, P2.rel, rx, et, fun vs h1 h2 h3 => ?_⟩
          have P3 : PostS X.K (G.pins (toLock ρ1 rs) ρ1 σ) (lockAll (toLock ρ1 rs) ρ1) σ H1 ρ3 (setAll is vs σ') H2 :=
            ⟨h1, P2.keep, fun a z => P2.own a (h2 a z), fun a z => P2.wr a (h3 a z), P2.dom⟩
          cases eb : F ρ3 with
          | none => rw [eb] at hl; cases hl
          | some o1 =>
            refine ⟨_, ρ3, o1, h1, eb, ?_⟩
            cases o1 with
            | nx ρ4 =>
              simp only [eb] at hl
              exact fun σ4 H4 P4 => ⟨ρ4, P3.trans P4, hl⟩
            | ct ρ4 =>
              simp only [eb] at hl
              exact fun σ4 H4 P4 => ⟨ρ4, P3.trans P4, hl⟩
            | bk ρ4 =>
              simp only [eb] at hl
              cases hl
              exact fun σ4 H4 P4 => fin σ4 H4 (P3.trans P4)
            | rt r ρ4 =>
              simp only [eb] at hl
              cases hl
              exact fun σ4 v H4 P4 w4 => fin σ4 v H4 (P3.trans P4) (w4.before P3)
      · rw [List.drop_length] at hl
        simp only [loopS] at hl
        cases hl
        exact fin σ' H' P

/-- while: so many turns at most -/
def whileL (t : STe) (body : SS) : Nat → En → Option Out
  | 0, _ => none
  | n + 1, ρ => match t ρ with
    | none => none
    | some (false, ρ1) => some (.nx ρ1)
    | some (true, ρ1) => match body ρ1 with
      | none => none
      | some (.nx ρ2) => whileL t body n ρ2
      | some (.ct ρ2) => whileL t body n ρ2
      | some (.bk ρ2) => some (.nx ρ2)
      | some (.rt r ρ2) => some (.rt r ρ2)
/-- while, with its turns told -/
def whileS (n : En → Nat) (t : STe) (body : SS) : SS := fun ρ => whileL t body (n ρ) ρ
theorem Sx.while_ (n : En → Nat) (hp : PassesOwn (model X.prog X.w) X.A X.env X.xe) (hc : Ts X c t) (hb : Sxs X body F) : Sx X (.While c body [] pos) (whileS n t F) := PS.imp (ps_while hp hc hb) fun D σ H ⟨G, ρ, o, R, hf, hD⟩ => by
  unfold whileS at hf
  refine ⟨fun m σ' H' => ∃ ρ', PostS X.K G ρ σ H ρ' σ' H' ∧ whileL t F m ρ' = some o, ⟨n ρ, ρ, PostS.refl R, hf⟩, fun m σ' H' ⟨ρ', P, hl⟩ => ?_⟩
  cases m with
  | zero => cases hl
  | succ m =>
    simp only [whileL] at hl
    cases et : t ρ' with
    | none => rw [et] at hl; cases hl
    | some q =>
      obtain ⟨b, ρ1⟩ := q
      refine ⟨G, ρ', b, ρ1, P.rel, et, fun H1 S R1 => ?_⟩
      have P1 := P.trans (S.post R1)
      cases b with
      | false =>
        simp only [et] at hl
        cases hl
        exact (if_neg Bool.false_ne_true).mpr (hD σ' H1 P1)
      | true =>
        simp only [et] at hl
        refine (if_pos rfl).mpr ?_
        cases eb : F ρ1 with
        | none => rw [eb] at hl; cases hl
        | some o1 =>
          refine ⟨fun σ2 H2 => ∃ ρ2, PostS X.K G ρ σ H ρ2 σ2 H2 ∧ whileL t F m ρ2 = some o, fun σ2 H2 z => ⟨m, Nat.lt_succ_self m, z⟩, G, ρ1, o1, R1, eb, ?_⟩
          cases o1 with
          | nx ρ4 =>
            simp only [eb] at hl
            exact fun σ4 H4 P4 => ⟨ρ4, P1.trans P4, hl⟩
          | ct ρ4 =>
            simp only [eb] at hl
            exact fun σ4 H4 P4 => ⟨ρ4, P1.trans P4, hl⟩
          | bk ρ4 =>
            simp only [eb] at hl
            cases hl
            exact fun σ4 H4 P4 => hD σ4 H4 (P1.trans P4)
          | rt r ρ4 =>
            simp only [eb] at hl
            cases hl
            exact fun σ4 v H4 P4 w4 => hD σ4 v H4 (P1.trans P4) (w4.before P1)
end
end Mi

/-! List comprehensions. -/
namespace Mi
open PySem PySem.Spec
open PyProof.Rows hiding St
open L2

def wipeE : List Nat → En → En
  | [], ρ => ρ
  | j :: js, ρ => (wipeE js ρ).set j .un
def restoreE (ρ1 : En) : List Nat → En → En
  | [], ρ => ρ
  | j :: js, ρ => match ρ1[j]? with
    | some s => (restoreE ρ1 js ρ).set j s
    | none => restoreE ρ1 js ρ
theorem wipeE_length (ρ : En) : ∀ js, (wipeE js ρ).length = ρ.length
  | [] => rfl
  | j :: js => by unfold wipeE; rw [List.length_set, wipeE_length ρ js]
theorem wipeE_out {ρ : En} {i : Nat} : ∀ {js : List Nat}, i ∉ js → (wipeE js ρ)[i]? = ρ[i]?
  | [], _ => rfl
  | j :: js, h => by
    rw [List.mem_cons, not_or] at h
    unfold wipeE
    rw [set_ne h.1, wipeE_out h.2]
theorem wipeE_in {ρ : En} {i : Nat} {s : Slot} : ∀ {js : List Nat}, i ∈ js → (wipeE js ρ)[i]? = some s → s = .un
  | [], h, _ => by simp at h
  | j :: js, h, e => by
    unfold wipeE at e
    rcases set_get e with ⟨_, z⟩ | ⟨hj, z⟩
    · exact z.symm
    · exact wipeE_in ((List.mem_cons.mp h).resolve_left hj) z
theorem restoreE_length (ρ1 ρ : En) : ∀ js, (restoreE ρ1 js ρ).length = ρ.length
  | [] => rfl
  | j :: js => by
    unfold restoreE
    split
    · rw [List.length_set, restoreE_length ρ1 ρ js]
    · exact restoreE_length ρ1 ρ js
theorem restoreE_out {ρ1 ρ : En} {i : Nat} : ∀ {js : List Nat}, i ∉ js → (restoreE ρ1 js ρ)[i]? = ρ[i]?
  | [], _ => rfl
  | j :: js, h => by
    rw [List.mem_cons, not_or] at h
    unfold restoreE
    split
    · rw [set_ne h.1, restoreE_out h.2]
    · exact restoreE_out h.2
theorem restoreE_in {ρ1 ρ : En} {i : Nat} (hl : ρ.length = ρ1.length) : ∀ {js : List Nat}, i ∈ js → (restoreE ρ1 js ρ)[i]? = ρ1[i]?
  | [], h => by simp at h
  | j :: js, h => by
    unfold restoreE
    by_cases hj : i = j
    · subst hj
      split
      · rename_i s e
        rw [e]
        refine List.getElem?_set_self ?_
        rw [restoreE_length, hl]
        exact (List.getElem?_eq_some_iff.mp e).1
      · rename_i e
        rw [e]
        refine List.getElem?_eq_none ?_
        rw [restoreE_length, hl]
        exact List.getElem?_eq_none_iff.mp e
    · have h' := (List.mem_cons.mp h).resolve_left hj
      split
      · rw [set_ne hj, restoreE_in hl h']
      · exact restoreE_in hl h'
/-- no slot of these is a container -/
def plainAt (ρ : En) (js : List Nat) : Bool := js.all fun j => match ρ[j]? with
  | some (.ow _ _ _) => false
  | _ => true
theorem plainAt_of {ρ : En} {js : List Nat} (h : plainAt ρ js = true) {j : Nat} (hj : j ∈ js) {p l : Bool} {d : D} : ρ[j]? ≠ some (.ow p l d) := fun e => by
  have := List.all_eq_true.mp h j hj
  rw [e] at this
  cases this
section
variable {K : PySem.W.Frag} {G G' : Fr} {ρ ρ' ρ1 ρ2 : En} {σ σ' σ1 σ2 : St} {H H' H1 H2 : Hp}
theorem wipe_out' {σ : St} {i : Nat} : ∀ {vs : List Nat}, i ∉ vs → (wipe σ vs)[i]? = σ[i]?
  | [], _ => rfl
  | v :: vs, h => by
    rw [List.mem_cons, not_or] at h
    unfold wipe
    rw [set_ne h.1, wipe_out' h.2]
theorem Rel.wipe {js : List Nat} (R : Rel K G ρ σ H) (h : plainAt ρ js = true) : Rel K G (wipeE js ρ) (L2.wipe σ js) H ∧ (∀ a, Owned (wipeE js ρ) (L2.wipe σ js) a ↔ Owned ρ σ a) ∧ (∀ a, Wr (wipeE js ρ) (L2.wipe σ js) a ↔ Wr ρ σ a) := by
  have ow : ∀ (j : Nat) (p l : Bool) (d : D), (wipeE js ρ)[j]? = some (.ow p l d) → j ∉ js ∧ ρ[j]? = some (.ow p l d) := fun j p l d e => by
    by_cases hj : j ∈ js
    · cases wipeE_in hj e
    · exact ⟨hj, by rw [wipeE_out hj] at e; exact e⟩
  have wo : ∀ (j : Nat) (p l : Bool) (d : D), ρ[j]? = some (.ow p l d) → j ∉ js := fun j p l d e hj => plainAt_of h hj e
  have own : ∀ a, Owned (wipeE js ρ) (L2.wipe σ js) a ↔ Owned ρ σ a := fun a => by
    constructor
    · rintro ⟨i, p, l, d, e, s⟩
      obtain ⟨hi, e'⟩ := ow i p l d e
      rw [wipe_out' hi] at s
      exact ⟨i, p, l, d, e', s⟩
    · rintro ⟨i, p, l, d, e, s⟩
      have hi := wo i p l d e
      exact ⟨i, p, l, d, by rw [wipeE_out hi]; exact e, by rw [wipe_out' hi]; exact s⟩
  have wr : ∀ a, Wr (wipeE js ρ) (L2.wipe σ js) a ↔ Wr ρ σ a := fun a => by
    constructor
    · rintro ⟨i, p, d, e, s⟩
      obtain ⟨hi, e'⟩ := ow i p false d e
      rw [wipe_out' hi] at s
      exact ⟨i, p, d, e', s⟩
    · rintro ⟨i, p, d, e, s⟩
      have hi := wo i p false d e
      exact ⟨i, p, d, by rw [wipeE_out hi]; exact e, by rw [wipe_out' hi]; exact s⟩
  have av : Av G (wipeE js ρ) (L2.wipe σ js) = Av G ρ σ := by
    funext a
    unfold Av
    rw [own a]
  refine ⟨⟨by rw [wipeE_length, wipe_length]; exact R.len, fun i d e => ?_, fun i p l d e => ?_, fun i j p l d p' l' d' a e1 e2 e3 e4 => ?_, fun i a p hi => ?_, R.dom, fun i l d a e1 e2 => ?_⟩, own, wr⟩
  · by_cases hi : i ∈ js
    · cases wipeE_in hi e
    · rw [wipeE_out hi] at e
      rw [wipe_out' hi, av]
      exact R.fr i d e
  · obtain ⟨hi, e'⟩ := ow i p l d e
    rw [wipe_out' hi, av]
    exact R.ow i p l d e'
  · obtain ⟨hi, e1'⟩ := ow i p l d e1
    obtain ⟨hj, e2'⟩ := ow j p' l' d' e2
    rw [wipe_out' hi] at e3
    rw [wipe_out' hj] at e4
    exact R.inj i j p l d p' l' d' a e1' e2' e3 e4
  · obtain ⟨e1, l, d, e2, e3⟩ := R.pin i a p hi
    have hi' := wo i p l d e2
    exact ⟨by rw [wipe_out' hi']; exact e1, l, d, by rw [wipeE_out hi']; exact e2, e3⟩
  · obtain ⟨hi, e1'⟩ := ow i false l d e1
    rw [wipe_out' hi] at e2
    exact R.dj i l d a e1' e2
end

/-- what a target may do -/
structure TOk (is : List Nat) (T : D → En → Option En) : Prop where
  len : ∀ d ρ ρ', T d ρ = some ρ' → ρ'.length = ρ.length
  out : ∀ d ρ ρ' j, T d ρ = some ρ' → j ∉ is → ρ'[j]? = ρ[j]?
  fr : ∀ d ρ ρ' j, T d ρ = some ρ' → j ∈ is → ∀ p l e, ρ'[j]? ≠ some (.ow p l e)
theorem asgn_val {i : Nat} {d : D} {ρ ρ' : En} (h : asgn i (.val d) ρ = some ρ') : ρ' = ρ.set i (.fr d) := by
  unfold asgn at h
  split at h
  · cases h
  · split at h
    · cases h; rfl
    · cases h
theorem asgAll_val : ∀ {is : List Nat} {ds : List D} {ρ ρ' : En}, asgAll is (ds.map .val) ρ = some ρ' → ρ'.length = ρ.length ∧ (∀ j, j ∉ is → ρ'[j]? = ρ[j]?) ∧ (∀ j, (j ∈ is ∨ ∀ p l e, ρ[j]? ≠ some (.ow p l e)) → ∀ p l e, ρ'[j]? ≠ some (.ow p l e))
  | [], [], ρ, ρ', h => by
    cases h
    exact ⟨rfl, fun _ _ => rfl, fun j h => h.resolve_left (by simp)⟩
  | [], _ :: _, _, _, h => by cases h
  | _ :: _, [], _, _, h => by cases h
  | i :: is, d :: ds, ρ, ρ', h => by
    simp only [List.map_cons, asgAll] at h
    split at h
    · rename_i ρ1 e
      obtain ⟨h1, h2, h3⟩ := asgAll_val h
      have e1 := asgn_val e
      subst e1
      refine ⟨by rw [h1, List.length_set], fun j hj => ?_, fun j hj => h3 j ?_⟩
      · rw [List.mem_cons, not_or] at hj
        rw [h2 j hj.2, set_ne hj.1]
      · by_cases z : j = i
        · subst z
          refine .inr fun p l e q => ?_
          rcases set_get q with ⟨_, z⟩ | ⟨hj', _⟩
          · cases z
          · exact hj' rfl
        · rcases hj with hj | hj
          · exact .inl ((List.mem_cons.mp hj).resolve_left z)
          · exact .inr fun p l e q => hj p l e (by rw [set_ne z] at q; exact q)
    · cases h
theorem TOk.name (i : Nat) : TOk [i] (nameT i) := by
  refine ⟨fun d ρ ρ' h => ?_, fun d ρ ρ' j h hj => ?_, fun d ρ ρ' j h hj p l e q => ?_⟩
  · rw [asgn_val h, List.length_set]
  · rw [asgn_val h, set_ne (by simpa using hj)]
  · rw [asgn_val h] at q
    rcases set_get q with ⟨_, z⟩ | ⟨hj', _⟩
    · cases z
    · exact hj' (by simpa using hj)
theorem tupT_all {is : List Nat} {d : D} {ρ ρ' : En} (h : tupT is d ρ = some ρ') : ∃ ds : List D, asgAll is (ds.map .val) ρ = some ρ' := by
  unfold tupT at h
  split at h
  · split at h
    · exact ⟨_, h⟩
    · cases h
  · cases h
theorem TOk.tup (is : List Nat) : TOk is (tupT is) := by
  refine ⟨fun d ρ ρ' h => ?_, fun d ρ ρ' j h hj => ?_, fun d ρ ρ' j h hj => ?_⟩
  · obtain ⟨ds, h⟩ := tupT_all h
    exact (asgAll_val h).1
  · obtain ⟨ds, h⟩ := tupT_all h
    exact (asgAll_val h).2.1 j hj
  · obtain ⟨ds, h⟩ := tupT_all h
    exact (asgAll_val h).2.2 j (.inl hj)

def yesT : STe := fun ρ => some (true, ρ)
abbrev Tts (X : Cx) (ifs : List Expr) (t : STe) : Prop := PTs X ifs (tT X.K t)
theorem Tts.nil {X : Cx} : Tts X [] yesT := ⟨fun pins s σ H Q I ⟨G, ρ, b, ρ', R, hf, hQ⟩ => by
  cases hf
  exact pts_nil.run pins s σ H Q I (hQ H (Step.refl _ _ _) R)⟩
theorem Tts.one {X : Cx} {c : Expr} {t : STe} (h : Ts X c t) : Tts X [c] t := pts_one h

def loopC (own : List Nat) (T : D → En → Option En) (t : STe) (fe : SE) : List D → List D → En → Option (List D × En)
  | [], acc, ρ => some (acc, ρ)
  | d :: ds, acc, ρ => match T d ρ with
    | none => none
    | some ρ1 => match t ρ1 with
      | none => none
      | some (false, ρ2) => loopC own T t fe ds acc (wipeE own ρ2)
      | some (true, ρ2) => match fe ρ2 with
        | none => none
        | some (r, ρ3) => match keepD r with
          | none => none
          | some d' => if acc.length < 16000000 then loopC own T t fe ds (acc ++ [d']) (wipeE own ρ3) else none
/-- [e for target in it if t] -/
def compE (own : List Nat) (it : SI) (T : D → En → Option En) (t : STe) (fe : SE) : SE := fun ρ => match it ρ with
  | none => none
  | some (rs, ds, ρ1) => if plainAt ρ1 own then (match loopC own T t fe ds [] (wipeE own (lockAll (toLock ρ1 rs) ρ1)) with
    | none => none
    | some (acc, ρ2) => some (.new (.lst acc), restoreE ρ1 (own ++ toLock ρ1 rs) ρ2)) else none
section
variable {K : PySem.W.Frag} {G G' : Fr} {ρ ρ' ρ1 ρ2 : En} {σ σ' σ1 σ2 : St} {H H' H1 H2 : Hp}
/-- back from a block -/
theorem comp_back {own : List Nat} {rs : List Opd} {O' : Addr → Prop} (R1 : Rel K G ρ1 σ H1) (pl : plainAt ρ1 own = true) (R2 : Rel K ⟨O', (G.pins (toLock ρ1 rs) ρ1 σ).pin⟩ ρ2 (L2.wipe σ own) H2) (hO : ∀ a, O' a → G.O a ∨ H1 a = none) (hO2 : ∀ a, G.O a → O' a)
    (sk : sameK (wipeE own (lockAll (toLock ρ1 rs) ρ1)) ρ2) (keep : ∀ b o, H1 b = some o → ¬ Wr ρ1 σ b → H2 b = some o) :
    Rel K ⟨O', G.pin⟩ (restoreE ρ1 (own ++ toLock ρ1 rs) ρ2) σ H2 ∧ sameK ρ1 (restoreE ρ1 (own ++ toLock ρ1 rs) ρ2) ∧ (∀ a, Owned (restoreE ρ1 (own ++ toLock ρ1 rs) ρ2) σ a → Owned ρ2 (L2.wipe σ own) a) := by
  have hm : ∀ i ∈ toLock ρ1 rs, ∃ p ds, ρ1[i]? = some (.ow p false (.lst ds)) := fun i hi => (toLock_mem hi).2
  obtain ⟨s1, s2, s3⟩ := lockAll_spec (toLock ρ1 rs) ρ1 hm (toLock_nodup rs)
  have hl : ρ2.length = ρ1.length := by rw [sk.1, wipeE_length, s3]
  -- a slot of the block's end, outside own
  have mid : ∀ j, j ∉ own → (wipeE own (lockAll (toLock ρ1 rs) ρ1))[j]? = (lockAll (toLock ρ1 rs) ρ1)[j]? := fun j hj => wipeE_out hj
  have notOwn : ∀ j, j ∈ toLock ρ1 rs → j ∉ own := fun j hj hm' => by
    obtain ⟨p, ds, e⟩ := hm j hj
    exact plainAt_of pl hm' e
  have lockd : ∀ j p ds, j ∈ toLock ρ1 rs → ρ1[j]? = some (.ow p false (.lst ds)) → ρ2[j]? = some (.ow p true (.lst ds)) := fun j p ds hj e => by
    have e1 := s1 j p ds hj e
    rw [← mid j (notOwn j hj)] at e1
    rcases sk.2 j with z | ⟨q, d, d', z, _⟩
    · rw [z]; exact e1
    · rw [e1] at z; cases z
  have ins : ∀ j, j ∈ own ++ toLock ρ1 rs → (restoreE ρ1 (own ++ toLock ρ1 rs) ρ2)[j]? = ρ1[j]? := fun j hj => restoreE_in hl hj
  have outs : ∀ j, j ∉ own ++ toLock ρ1 rs → (restoreE ρ1 (own ++ toLock ρ1 rs) ρ2)[j]? = ρ2[j]? := fun j hj => restoreE_out hj
  have kinds : sameK ρ1 (restoreE ρ1 (own ++ toLock ρ1 rs) ρ2) := by
    refine ⟨by rw [restoreE_length, hl], fun j => ?_⟩
    by_cases hj : j ∈ own ++ toLock ρ1 rs
    · exact .inl (ins j hj)
    · rw [outs j hj]
      rw [List.mem_append, not_or] at hj
      have e1 : (wipeE own (lockAll (toLock ρ1 rs) ρ1))[j]? = ρ1[j]? := by rw [mid j hj.1, s2 j hj.2]
      rcases sk.2 j with z | ⟨q, d, d', z1, z2⟩
      · exact .inl (by rw [z, e1])
      · exact .inr ⟨q, d, d', by rw [← e1]; exact z1, z2⟩
  -- an owned slot at the end
  have ow : ∀ (j : Nat) (p l : Bool) (d : D), (restoreE ρ1 (own ++ toLock ρ1 rs) ρ2)[j]? = some (.ow p l d) → j ∉ own ∧ ∃ l', ρ2[j]? = some (.ow p l' d) ∧ (l' = l ∨ ∃ ds, d = .lst ds) := fun j p l d e => by
    by_cases hj : j ∈ own ++ toLock ρ1 rs
    · rw [ins j hj] at e
      have hno : j ∉ own := fun z => plainAt_of pl z e
      have hl' : j ∈ toLock ρ1 rs := (List.mem_append.mp hj).resolve_left hno
      obtain ⟨q, ds, e'⟩ := hm j hl'
      rw [e] at e'
      cases e'
      exact ⟨hno, true, lockd j p ds hl' e, .inr ⟨ds, rfl⟩⟩
    · rw [outs j hj] at e
      rw [List.mem_append, not_or] at hj
      exact ⟨hj.1, l, e, .inl rfl⟩
  have own2 : ∀ a, Owned (restoreE ρ1 (own ++ toLock ρ1 rs) ρ2) σ a → Owned ρ2 (L2.wipe σ own) a := fun a ⟨j, p, l, d, e, s⟩ => by
    obtain ⟨hj, l', e', _⟩ := ow j p l d e
    exact ⟨j, p, l', d, e', by rw [wipe_out' hj]; exact s⟩
  have g : Goes H2 H2 (Av ⟨O', (G.pins (toLock ρ1 rs) ρ1 σ).pin⟩ ρ2 (L2.wipe σ own)) (Av ⟨O', G.pin⟩ (restoreE ρ1 (own ++ toLock ρ1 rs) ρ2) σ) := ⟨fun _ _ e _ => e, fun _ _ e _ => e, fun b z _ => z.elim .inl fun z => .inr (own2 b z)⟩
  have g1 : Goes H1 H2 (Av G ρ1 σ) (Av ⟨O', G.pin⟩ (restoreE ρ1 (own ++ toLock ρ1 rs) ρ2) σ) := R1.goes keep fun b z n => by
    rcases z with z | z
    · exact (hO b z).elim .inl fun q => absurd q n
    · exact .inr ((kinds.owned b).mp z)
  refine ⟨⟨by rw [restoreE_length, hl]; exact R1.len, fun j d e => ?_, fun j p l d e => ?_, fun i j p l d p' l' d' a e1 e2 e3 e4 => ?_, fun j a p hj => ?_, R2.dom, fun j l d a e1 e2 h => ?_⟩, kinds, own2⟩
  · by_cases hj : j ∈ own ++ toLock ρ1 rs
    · rw [ins j hj] at e
      obtain ⟨v, s, r⟩ := R1.fr j d e
      exact ⟨v, s, r.go g1⟩
    · rw [outs j hj] at e
      rw [List.mem_append, not_or] at hj
      obtain ⟨v, s, r⟩ := R2.fr j d e
      rw [wipe_out' hj.1] at s
      exact ⟨v, s, r.go g⟩
  · obtain ⟨hj, l', e', hl'⟩ := ow j p l d e
    obtain ⟨a, s, w⟩ := R2.ow j p l' d e'
    rw [wipe_out' hj] at s
    refine ⟨a, s, ?_⟩
    have w' := w.go g fun _ e => e
    rcases hl' with rfl | ⟨ds, rfl⟩
    · exact w'
    · cases w' with
      | lst h r => exact .lst h r
  · obtain ⟨f1, z1⟩ := kinds.wo e1
    obtain ⟨f2, z2⟩ := kinds.wo e2
    exact R1.inj i j p l f1 p' l' f2 a z1 z2 e3 e4
  · obtain ⟨e1, l, d, e2, e3⟩ := R1.pin j a p hj
    obtain ⟨d', e2'⟩ := kinds.ow e2
    exact ⟨e1, l, d', e2', e3⟩
  · obtain ⟨f1, z1⟩ := kinds.wo e1
    rcases hO a h with h | h
    · exact R1.dj j l f1 a z1 e2 h
    · obtain ⟨o, eo, _⟩ := R1.owned ⟨j, false, l, f1, z1, e2⟩
      rw [h] at eo; cases eo
end

theorem wipe_at {σ : St} {i : Nat} : ∀ {vs : List Nat}, (L2.wipe σ vs)[i]? = if i ∈ vs then (if i < σ.length then some none else none) else σ[i]?
  | [] => by simp [L2.wipe]
  | v :: vs => by
    unfold L2.wipe
    rw [List.getElem?_set, wipe_length, wipe_at]
    by_cases h : v = i
    · subst h; simp
    · have h' : i ≠ v := fun z => h z.symm
      simp [h, h']
theorem wipeE_at {ρ : En} {i : Nat} : ∀ {vs : List Nat}, (wipeE vs ρ)[i]? = if i ∈ vs then (if i < ρ.length then some .un else none) else ρ[i]?
  | [] => by simp [wipeE]
  | v :: vs => by
    unfold wipeE
    rw [List.getElem?_set, wipeE_length, wipeE_at]
    by_cases h : v = i
    · subst h; simp
    · have h' : i ≠ v := fun z => h z.symm
      simp [h, h']
theorem setAll_out : ∀ {is : List Nat} {vs : List V} {σ : St} {j : Nat}, j ∉ is → (setAll is vs σ)[j]? = σ[j]?
  | [], _, _, _, _ => rfl
  | _ :: _, [], _, _, _ => rfl
  | i :: is, v :: vs, σ, j, h => by
    rw [List.mem_cons, not_or] at h
    show (setAll is vs (σ.set i (some v)))[j]? = _
    rw [setAll_out h.2, set_ne h.1]
theorem setAll_len : ∀ {is : List Nat} {vs : List V} {σ : St}, (setAll is vs σ).length = σ.length
  | [], _, _ => rfl
  | _ :: _, [], _ => rfl
  | i :: is, v :: vs, σ => by
    show (setAll is vs (σ.set i (some v))).length = _
    rw [setAll_len, List.length_set]
theorem wipe_setAll {own is : List Nat} {vs : List V} {σ : St} (h : ∀ j ∈ is, j ∈ own) : L2.wipe (setAll is vs (L2.wipe σ own)) own = L2.wipe σ own := by
  refine List.ext_getElem? fun j => ?_
  rw [wipe_at, wipe_at, setAll_len, wipe_length]
  split
  · rfl
  · rename_i hj
    rw [setAll_out fun z => hj (h j z), wipe_at, if_neg hj]
theorem sameK.wipe {ρ ρ' : En} {own : List Nat} (h : sameK ρ ρ') : sameK (wipeE own ρ) (wipeE own ρ') := by
  refine ⟨by rw [wipeE_length, wipeE_length, h.1], fun j => ?_⟩
  rw [wipeE_at, wipeE_at, h.1]
  split
  · exact .inl rfl
  · exact h.2 j
theorem wipeE_idem {ρ : En} {own : List Nat} : wipeE own (wipeE own ρ) = wipeE own ρ := by
  refine List.ext_getElem? fun j => ?_
  rw [wipeE_at, wipeE_at, wipeE_length]
  split <;> rfl
theorem plainAt_by {ρ : En} {js : List Nat} (h : ∀ j ∈ js, ∀ p l d, ρ[j]? ≠ some (.ow p l d)) : plainAt ρ js = true := by
  unfold plainAt
  rw [List.all_eq_true]
  intro j hj
  split
  · rename_i e
    exact absurd e (h j hj _ _ _)
  · rfl
section
variable {K : PySem.W.Frag} {G G' : Fr} {ρ ρ' ρ1 ρ2 : En} {σ σ' σ1 σ2 : St} {H H' H1 H2 : Hp}
/-- what is avoided and no name's may be written -/
theorem Rel.avUpd {a : Addr} {xs ys : List V} (R : Rel K G ρ σ H) (hO : G.O a) (no : ¬ Owned ρ σ a) (h : H a = some (.lst xs)) : Rel K G ρ σ (L2.upd H a (.lst ys)) ∧ Goes H (L2.upd H a (.lst ys)) (Av G ρ σ) (Av G ρ σ) := by
  have g : Goes H (L2.upd H a (.lst ys)) (Av G ρ σ) (Av G ρ σ) := ⟨fun b o e t => by
    by_cases z : b = a
    · subst z
      rw [h] at e; cases e; cases t
    · rw [upd_ne z]; exact e, fun b o e n => by
    have z : b ≠ a := fun z => n (by subst z; exact .inl hO)
    rw [upd_ne z]; exact e, fun _ z _ => z⟩
  refine ⟨⟨R.len, fun i d e => ?_, fun i p l d e => ?_, R.inj, R.pin, fun b hb => ?_, R.dj⟩, g⟩
  · obtain ⟨v, s, r⟩ := R.fr i d e
    exact ⟨v, s, r.go g⟩
  · obtain ⟨b, s, w⟩ := R.ow i p l d e
    exact ⟨b, s, w.go g fun o eo => by
      have z : b ≠ a := fun z => no (by subst z; exact ⟨i, p, l, d, e, s⟩)
      rw [upd_ne z]; exact eo⟩
  · by_cases z : b = a
    · subst z
      rw [upd_same]; simp
    · rw [upd_ne z]
      exact R.dom b hb
end
/-- a block of it -/
def Blk (X : Cx) (scope : Scope) (Y : Cx) : Prop := ∃ (s : Shared) (H : Hp) (C : Addr) (cl : List (Str × Addr)) (fp : List Addr), Y = X.blk s H scope (compEnvC scope cl C X.env) fp
section
variable {X : Cx} {elt tg iter : Expr} {ifs : List Expr} {scope : Scope} {own : List (Str × Nat)} {pos : Pos} {it : SI} {is : List Nat} {T : D → En → Option En} {t : STe} {fe : SE}
theorem comp_elim {K : PySem.W.Frag} {os : List Nat} (ho : ∀ j ∈ os, j ∈ is) (hi : ∀ j ∈ is, j ∈ os) (hT : TOk is T) {σ : St} {H : Hp} {Q : VK} {G : Fr} {ρ : En} {r : Opd} {ρ' : En} (R : Rel K G ρ σ H) (hf : compE os it T t fe ρ = some (r, ρ')) (hQ : ∀ v H', PostE K G ρ σ H r ρ' v H' → Q v H') :
    tLc (tI K it) (tG K is T) (tT K t) (tE K fe) os σ H Q := by
  unfold compE at hf
  split at hf
  · cases hf
  rename_i rs ds ρ1 e0
  split at hf
  case isFalse => cases hf
  rename_i pl
  split at hf
  · cases hf
  rename_i accF ρF eL
  cases hf
  refine ⟨G, ρ, rs, ds, ρ1, R, e0, fun J H1 S R1 W D hD => ?_⟩
  obtain ⟨RL, oL1, oL2, _⟩ := Rel.locked (rs := rs) R1
  obtain ⟨Gd, Y, w, hGd, hY⟩ := W
  have hm : ∀ i ∈ toLock ρ1 rs, ∃ p ds, ρ1[i]? = some (.ow p false (.lst ds)) := fun i hi => (toLock_mem hi).2
  obtain ⟨s1, s2, s3⟩ := lockAll_spec (toLock ρ1 rs) ρ1 hm (toLock_nodup rs)
  have plL : plainAt (lockAll (toLock ρ1 rs) ρ1) os = true := plainAt_by fun j hj p l d e => by
    by_cases hmem : j ∈ toLock ρ1 rs
    · obtain ⟨q, es, e'⟩ := hm j hmem
      exact plainAt_of pl hj e'
    · rw [s2 j hmem] at e
      exact plainAt_of pl hj e
  obtain ⟨RB, oB, wB⟩ := RL.wipe plL
  generalize hρB : wipeE os (lockAll (toLock ρ1 rs) ρ1) = ρB at RB oB wB eL
  have idB : wipeE os ρB = ρB := by rw [← hρB, wipeE_idem]
  -- the block's frame
  let Gb : Fr := ⟨fun a => G.O a ∨ a = D, (G.pins (toLock ρ1 rs) ρ1 σ).pin⟩
  have noD : ∀ ρ', sameK ρB ρ' → ¬ Owned ρ' (L2.wipe σ os) D := fun ρ' sk z => by
    have z' := (oL1 D).mp ((oB D).mp ((sk.owned D).mp z))
    obtain ⟨o, eo, _⟩ := R1.owned z'
    rw [hD] at eo; cases eo
  have Rb0 : Rel K Gb ρB (L2.wipe σ os) (L2.upd H1 D (.lst [])) := RB.updA hD
  have avB : ∀ ρ', sameK ρB ρ' → ∀ b, Av Gb ρ' (L2.wipe σ os) b → H1 b ≠ none → Av G ρ1 σ b := fun ρ' sk b z n => by
    rcases z with (z | z) | z
    · exact .inl z
    · subst z; exact absurd hD n
    · exact .inr ((oL1 b).mp ((oB b).mp ((sk.owned b).mp z)))
  let Pv : Nat → Hp → Prop := fun i H => ∃ acc accV ρ', H D = some (.lst accV) ∧ RepAll K H (Av Gb ρ' (L2.wipe σ os)) accV acc ∧ Rel K Gb ρ' (L2.wipe σ os) H ∧ sameK ρB ρ' ∧
    (∀ b o, H1 b = some o → ¬ Wr (lockAll (toLock ρ1 rs) ρ1) σ b → H b = some o) ∧ loopC os T t fe (ds.drop i) acc ρ' = some (accF, ρF)
  have keepU : ∀ (H2 : Hp) (o' : HO), (∀ b o, H1 b = some o → ¬ Wr (lockAll (toLock ρ1 rs) ρ1) σ b → H2 b = some o) → (∀ b o, H1 b = some o → ¬ Wr (lockAll (toLock ρ1 rs) ρ1) σ b → L2.upd H2 D o' b = some o) := fun H2 o' k b o e n => by
    rw [upd_ne fun z => by rw [z, hD] at e; cases e]
    exact k b o e n
  refine lc_it w Pv ⟨[], [], ρB, upd_same, .nil, Rb0, sameK.refl _, keepU _ _ fun _ _ e _ => e, eL⟩ (fun i H' _ ⟨acc, accV, ρ', _, _, _, _, k, _⟩ => hGd H' k) (fun i x H2 H3 hi' ⟨acc, accV, ρ', hDl, wA, RR, sk, k, hl⟩ y => ?_) fun H' ⟨acc, accV, ρ', hDl, wA, RR, sk, k, hl⟩ => ?_
  · have ed : ds[i]? = some ds[i] := List.getElem?_eq_getElem hi'
    rw [List.drop_eq_getElem_cons hi'] at hl
    simp only [loopC] at hl
    cases et : T ds[i] ρ' with
    | none => rw [et] at hl; cases hl
    | some ρ3 =>
      simp only [et] at hl
      have gg : Goes H1 H2 (Av G ρ1 σ) (Av Gb ρ' (L2.wipe σ os)) := R1.goes (fun b o e n => k b o e fun z => n (oL2 b z)) (avB ρ' sk)
      obtain ⟨ext, rx⟩ := hY i H2 x H3 ds[i] _ ed y k gg
      refine ⟨Gb, ρ', ds[i], ρ3, RR.ext ext, rx, et, fun vs h1 h2 h3 => ⟨wipe_setAll hi, ?_⟩⟩
      generalize hσ2 : setAll is vs (L2.wipe σ os) = σ2 at h1 h2 h3
      have hw2 : L2.wipe σ2 os = L2.wipe σ os := by rw [← hσ2]; exact wipe_setAll hi
      have k3 : ∀ b o, H1 b = some o → ¬ Wr (lockAll (toLock ρ1 rs) ρ1) σ b → H3 b = some o := fun b o e n => ext b o (k b o e n)
      have wr3 : ∀ a, Wr ρ3 σ2 a → Wr (lockAll (toLock ρ1 rs) ρ1) σ a := fun a z => (wB a).mp ((sk.wr a).mp (h3 a z))
      have g3 : Goes H2 H3 (Av Gb ρ' (L2.wipe σ os)) (Av Gb ρ3 σ2) := ⟨fun b o e _ => ext b o e, fun b o e _ => ext b o e, fun b z _ => z.imp id (h2 b)⟩
      have nD3 : ¬ Owned ρ3 σ2 D := fun z => noD ρ' sk (h2 D z)
      -- one that ends a turn
      have turn : ∀ {ρ5 : En} {H5 : Hp}, sameK ρ3 ρ5 → Rel K Gb ρ5 σ2 H5 → sameK ρB (wipeE os ρ5) ∧ Rel K Gb (wipeE os ρ5) (L2.wipe σ os) H5 ∧ (∀ b, Av Gb (wipeE os ρ5) (L2.wipe σ os) b → Av Gb ρ5 σ2 b) := fun {ρ5 H5} sk5 R5 => by
        have e3 : wipeE os ρ3 = wipeE os ρ' := by
          refine List.ext_getElem? fun j => ?_
          rw [wipeE_at, wipeE_at, hT.len _ _ _ et]
          split
          · rfl
          · rename_i hj
            exact hT.out _ _ _ _ et fun z => hj (hi j z)
        have pl5 : plainAt ρ5 os = true := plainAt_by fun j hj p l d e => by
          obtain ⟨d', e'⟩ := sk5.wo e
          exact hT.fr _ _ _ _ et (ho j hj) _ _ _ e'
        obtain ⟨q1, q2, _⟩ := R5.wipe pl5
        rw [hw2] at q1 q2
        refine ⟨?_, q1, fun b z => z.imp id fun z => (q2 b).mp z⟩
        have a1 : sameK (wipeE os ρB) (wipeE os ρ') := sk.wipe
        rw [idB] at a1
        have a2 : sameK (wipeE os ρ3) (wipeE os ρ5) := sk5.wipe
        rw [e3] at a2
        exact a1.trans a2
      cases e4 : t ρ3 with
      | none => rw [e4] at hl; cases hl
      | some q4 =>
        obtain ⟨b, ρ4⟩ := q4
        simp only [e4] at hl
        refine ⟨Gb, ρ3, b, ρ4, h1, e4, fun H4 S4 R4 => ?_⟩
        have g4 : Goes H3 H4 (Av Gb ρ3 σ2) (Av Gb ρ4 σ2) := h1.goesS S4
        have k4 : ∀ b o, H1 b = some o → ¬ Wr (lockAll (toLock ρ1 rs) ρ1) σ b → H4 b = some o := fun b o e n => S4.keep b o (k3 b o e n) fun z => n (wr3 b z)
        have D4 : H4 D = some (.lst accV) := S4.keep D _ (ext D _ hDl) fun z => nD3 z.owned
        cases b with
        | false =>
          simp only at hl
          refine (if_neg Bool.false_ne_true).mpr ?_
          obtain ⟨q1, q2, q3⟩ := turn S4.sk R4
          exact ⟨acc, accV, _, D4, ((wA.go g3).go g4).go ⟨fun _ _ e _ => e, fun _ _ e _ => e, fun b z _ => q3 b z⟩, q2, q1, k4, hl⟩
        | true =>
          simp only at hl
          refine (if_pos rfl).mpr ?_
          cases e5 : fe ρ4 with
          | none => rw [e5] at hl; cases hl
          | some q5 =>
            obtain ⟨r, ρ5⟩ := q5
            simp only [e5] at hl
            cases e6 : keepD r with
            | none => rw [e6] at hl; cases hl
            | some d' =>
              simp only [e6] at hl
              split at hl
              · rename_i hz
                refine ⟨Gb, ρ4, r, ρ5, R4, e5, fun yv H5 P => ?_⟩
                have S5 := P.step
                have R5 : Rel K Gb ρ5 σ2 H5 := P.rel
                have sk5 : sameK ρ3 ρ5 := S4.sk.trans S5.sk
                have nD4 : ¬ Owned ρ4 σ2 D := fun z => nD3 ((S4.sk.owned D).mp z)
                have nD5 : ¬ Owned ρ5 σ2 D := fun z => nD3 ((sk5.owned D).mp z)
                have D5 : H5 D = some (.lst accV) := S5.keep D _ D4 fun z => nD4 z.owned
                refine ⟨accV, D5, by rw [wA.length]; exact Nat.lt_of_lt_of_le hz (szl (Nat.le_refl _)), ?_⟩
                have wA5 : RepAll K H5 (Av Gb ρ5 σ2) accV acc := ((wA.go g3).go g4).go (R4.goesS S5)
                have wy : Rep K H5 (Av Gb ρ5 σ2) yv d' := (P.ok R4).kept e6
                obtain ⟨R6, g6⟩ := R5.avUpd (ys := accV ++ [yv]) (.inr rfl) nD5 D5
                obtain ⟨q1, q2, q3⟩ := turn sk5 R6
                have k5 : ∀ b o, H1 b = some o → ¬ Wr (lockAll (toLock ρ1 rs) ρ1) σ b → H5 b = some o := fun b o e n => S5.keep b o (k4 b o e n) fun z => n (wr3 b ((S4.sk.wr b).mp z))
                exact ⟨acc ++ [d'], accV ++ [yv], _, upd_same, ((wA5.append (.cons wy .nil)).go g6).go ⟨fun _ _ e _ => e, fun _ _ e _ => e, fun b z _ => q3 b z⟩, q2, q1, keepU _ _ k5, hl⟩
              · cases hl
  · rw [List.drop_length] at hl
    simp only [loopC] at hl
    cases hl
    have kb : ∀ b o, H1 b = some o → ¬ Wr ρ1 σ b → H' b = some o := fun b o e n => k b o e fun z => n (oL2 b z)
    rw [← hρB] at sk
    obtain ⟨c1, c2, c3⟩ := comp_back (O' := fun a => G.O a ∨ a = D) R1 pl RR (fun a z => z.imp id fun z => by rw [z]; exact hD) (fun a z => .inl z) sk kb
    refine hQ _ _ ⟨S.trans ⟨c2, kb⟩, D, rfl, S.none R1 hD, c1, .lst hDl (wA.go ⟨fun _ _ e _ => e, fun _ _ e _ => e, fun b z _ => ?_⟩)⟩
    exact z.imp id fun z => c3 b z
/-- [e for target in it if ..] -/
theorem Ex.comp (hc : X.calm = true) (hN : X.N.Nodup) (ok : BlkOk X.N X.env.scope scope own) (ho : ∀ j ∈ own.map (·.2), j ∈ is) (hi' : ∀ j ∈ is, j ∈ own.map (·.2)) (hT : TOk is T) (hi : Ix X tg iter it)
    (hb : ∀ Y : Cx, Blk X scope Y → Tg Y tg is T ∧ Tts Y ifs t ∧ Ex Y elt fe) (hs : ∀ x, foldedSetIterable iter X.env x = pure x := by intro _; rfl) :
    Ex X (.ListComp elt [⟨tg, iter, ifs, 0⟩] scope pos) (compE (own.map (·.2)) it T t fe) :=
  PE.imp (pe_lc hc hN hi ok (fun s H C cl fp => (hb _ ⟨s, H, C, cl, fp, rfl⟩).1) (fun s H C cl fp => (hb _ ⟨s, H, C, cl, fp, rfl⟩).2.1) (fun s H C cl fp => (hb _ ⟨s, H, C, cl, fp, rfl⟩).2.2) hs) fun σ H Q ⟨G, ρ, r, ρ', R, hf, hQ⟩ =>
    comp_elim ho hi' hT R hf hQ
end
end Mi

/-! Calls of the program's functions, and what a function promises. -/
namespace Mi
open PySem PySem.Spec
open PyProof.Rows hiding St
open L2

/-- what a function does with data: is the result fresh, the result, the parameter that it writes as it is left -/
abbrev Fn := List D → Option (Bool × D × D)
def IoA (io : Option Nat) (vs : List V) (a : Addr) : Prop := ∃ i : Nat, io = some i ∧ vs[i]? = some (.ref a)
structure Given (K : PySem.W.Frag) (io : Option Nat) (O : Addr → Prop) (H : Hp) (vs : List V) (ds : List D) : Prop where
  len : vs.length = ds.length
  dom : ∀ a, O a → H a ≠ none
  fr : ∀ (i : Nat) (v : V) (d : D), io ≠ some i → vs[i]? = some v → ds[i]? = some d → Rep K H (fun a => O a ∨ IoA io vs a) v d
  ow : ∀ (i : Nat) (d : D), io = some i → ds[i]? = some d → ∃ a, vs[i]? = some (.ref a) ∧ Own K H (fun a => O a ∨ IoA io vs a) false a d
def GotA (io : Option Nat) (O : Addr → Prop) (vs : List V) (b : Bool) (v : V) (a : Addr) : Prop := (O a ∨ IoA io vs a) ∨ (b = true ∧ v = .ref a)
structure Got (K : PySem.W.Frag) (io : Option Nat) (O : Addr → Prop) (H : Hp) (vs : List V) (b : Bool) (d d' : D) (v : V) (H' : Hp) : Prop where
  keep : ∀ a o, H a = some o → ¬ IoA io vs a → H' a = some o
  out : ∀ a, IoA io vs a → Own K H' (GotA io O vs b v) false a d'
  val : b = false → Rep K H' (GotA io O vs b v) v d
  new : b = true → ∃ p, v = .ref p ∧ H p = none ∧ Own K H' (GotA io O vs b v) false p d
def spP (K : PySem.W.Frag) (n : Nat) (io : Option Nat) (F : Fn) : Sp := fun vs H Q _ => vs.length = n ∧ ∃ O ds b d d', Given K io O H vs ds ∧ F ds = some (b, d, d') ∧ ∀ v H', Got K io O H vs b d d' v H' → Q v H'

/-! ### a function's start -/
def parE (io : Option Nat) : Nat → List D → En
  | _, [] => []
  | i, d :: ds => (if io = some i then .ow true false d else .fr d) :: parE io (i + 1) ds
theorem parE_length (io : Option Nat) : ∀ (k : Nat) (ds : List D), (parE io k ds).length = ds.length
  | _, [] => rfl
  | k, d :: ds => by
    show (parE io (k + 1) ds).length + 1 = ds.length + 1
    rw [parE_length io (k + 1) ds]
theorem parE_at (io : Option Nat) : ∀ (k : Nat) (ds : List D) (i : Nat), (parE io k ds)[i]? = (ds[i]?).map fun d => if io = some (k + i) then .ow true false d else .fr d
  | _, [], _ => rfl
  | k, d :: ds, 0 => rfl
  | k, d :: ds, i + 1 => by
    show (parE io (k + 1) ds)[i]? = _
    rw [parE_at io (k + 1) ds i]
    show _ = Option.map _ ds[i]?
    rw [show k + 1 + i = k + (i + 1) by omega]
def startE (n : Nat) (io : Option Nat) (ds : List D) : En := parE io 0 ds ++ List.replicate (n - ds.length) .un
def ioD (io : Option Nat) (ρ : En) : Option D := match io with
  | none => some .non
  | some i => match ρ[i]? with
    | some (.ow true false d) => some d
    | _ => none
def endD (io : Option Nat) : Out → Option (Bool × D × D)
  | .rt r ρ => match ioD io ρ with
    | none => none
    | some d' => match r with
      | .val d => some (false, d, d')
      | .new d => some (true, d, d')
      | .slot i => match ρ[i]? with
        | some (.ow false false d) => some (true, d, d')
        | _ => none
  | .nx ρ => match ioD io ρ with
    | none => none
    | some d' => some (false, .non, d')
  | _ => none
/-- a body run at data -/
def fnD (n : Nat) (io : Option Nat) (B : SS) : Fn := fun ds => match B (startE n io ds) with
  | some o => endD io o
  | none => none
section
variable {K : PySem.W.Frag} {G G' : Fr} {ρ ρ' ρ1 ρ2 : En} {σ σ' σ1 σ2 : St} {H H' H1 H2 : Hp} {io : Option Nat} {O : Addr → Prop} {vs : List V} {ds : List D}
theorem startE_at {n i : Nat} {s : Slot} (h : (startE n io ds)[i]? = some s) : (∃ d, ds[i]? = some d ∧ s = if io = some i then .ow true false d else .fr d) ∨ s = .un := by
  unfold startE at h
  by_cases hi : i < ds.length
  · rw [List.getElem?_append_left (by rw [parE_length]; exact hi), parE_at, List.getElem?_eq_getElem hi] at h
    left
    refine ⟨ds[i], List.getElem?_eq_getElem hi, ?_⟩
    simpa using h.symm
  · rw [List.getElem?_append_right (by rw [parE_length]; omega), List.getElem?_replicate] at h
    split at h
    · cases h; exact .inr rfl
    · cases h
theorem start_at {N : List Str} {vs : List V} {i : Nat} {v : V} (h : vs[i]? = some v) : (L2.start N vs)[i]? = some (some v) := by
  obtain ⟨hi, _⟩ := List.getElem?_eq_some_iff.mp h
  unfold L2.start
  rw [List.getElem?_append_left (by simpa using hi), List.getElem?_map, h]
  rfl
def startG (io : Option Nat) (O : Addr → Prop) (vs : List V) : Fr := ⟨O, fun i => if io = some i then (match vs[i]? with | some (.ref a) => some (a, true) | _ => none) else none⟩
theorem start_own {N : List Str} {n : Nat} (g : Given K io O H vs ds) (a : Addr) : Owned (startE n io ds) (L2.start N vs) a ↔ IoA io vs a := by
  constructor
  · rintro ⟨i, p, l, d, e, s⟩
    rcases startE_at e with ⟨d', e1, e2⟩ | e1
    · split at e2
      · rename_i hi
        obtain ⟨b, hb, _⟩ := g.ow i d' hi e1
        rw [start_at hb] at s
        cases s
        exact ⟨i, hi, hb⟩
      · cases e2
    · cases e1
  · rintro ⟨i, hi, hv⟩
    obtain ⟨hl, _⟩ := List.getElem?_eq_some_iff.mp hv
    rw [g.len] at hl
    refine ⟨i, true, false, ds[i], ?_, start_at hv⟩
    unfold startE
    rw [List.getElem?_append_left (by rw [parE_length]; exact hl), parE_at, List.getElem?_eq_getElem hl]
    simp [hi]
theorem start_rel {N : List Str} (g : Given K io O H vs ds) : Rel K (startG io O vs) (startE N.length io ds) (L2.start N vs) H := by
  have av : Av (startG io O vs) (startE N.length io ds) (L2.start N vs) = fun a => O a ∨ IoA io vs a := by
    funext a
    unfold Av
    rw [start_own g a]
    rfl
  have par : ∀ (i : Nat) (d : D), ds[i]? = some d → ∃ v, vs[i]? = some v := fun i d e => by
    obtain ⟨hl, _⟩ := List.getElem?_eq_some_iff.mp e
    rw [← g.len] at hl
    exact ⟨vs[i], List.getElem?_eq_getElem hl⟩
  refine ⟨?_, fun i d e => ?_, fun i p l d e => ?_, fun i j p l d p' l' d' a e1 e2 e3 e4 => ?_, fun i a p hi => ?_, g.dom, fun i l d a e1 _ => ?_⟩
  · unfold startE L2.start
    rw [List.length_append, parE_length, List.length_replicate, List.length_append, List.length_map, List.length_replicate, g.len]
  · rcases startE_at e with ⟨d', e1, e2⟩ | e1
    · split at e2
      · cases e2
      · rename_i hi
        cases e2
        obtain ⟨v, hv⟩ := par i _ e1
        exact ⟨v, start_at hv, by rw [av]; exact g.fr i v _ hi hv e1⟩
    · cases e1
  · rcases startE_at e with ⟨d', e1, e2⟩ | e1
    · split at e2
      · rename_i hi
        cases e2
        obtain ⟨a, ha, w⟩ := g.ow i _ hi e1
        exact ⟨a, start_at ha, by rw [av]; exact w⟩
      · cases e2
    · cases e1
  · rcases startE_at e1 with ⟨d1, _, q1⟩ | q1
    · split at q1
      · rename_i hi
        rcases startE_at e2 with ⟨d2, _, q2⟩ | q2
        · split at q2
          · rename_i hj
            rw [hi] at hj
            cases hj; rfl
          · cases q2
        · cases q2
      · cases q1
    · cases q1
  · unfold startG at hi
    simp only at hi
    split at hi
    · rename_i h
      split at hi
      · rename_i b hv
        cases hi
        obtain ⟨hl, _⟩ := List.getElem?_eq_some_iff.mp hv
        rw [g.len] at hl
        refine ⟨start_at hv, false, ds[i], ?_, rfl⟩
        unfold startE
        rw [List.getElem?_append_left (by rw [parE_length]; exact hl), parE_at, List.getElem?_eq_getElem hl]
        simp [h]
      · cases hi
    · cases hi
  · rcases startE_at e1 with ⟨d1, _, q1⟩ | q1
    · split at q1 <;> cases q1
    · cases q1
/-- behind a body -/
theorem got_of {n : Nat} {N : List Str} {r : Opd} {v : V} {b : Bool} {d d' : D} (g : Given K io O H vs ds) (P : PostS K (startG io O vs) (startE n io ds) (L2.start N vs) H ρ' σ' H') (w : RetOk K (startG io O vs) H ρ' σ' r v H') (h : endD io (.rt r ρ') = some (b, d, d')) : Got K io O H vs b d d' v H' := by
  simp only [endD] at h
  have pinned : ∀ a, IoA io vs a → ∃ i : Nat, io = some i ∧ σ'[i]? = some (some (.ref a)) ∧ ∃ l d, ρ'[i]? = some (.ow true l d) := fun a ⟨i, hi, hv⟩ => by
    have q : (startG io O vs).pin i = some (a, true) := by
      unfold startG
      simp [hi, hv]
    obtain ⟨e1, l, d, e2, _⟩ := P.rel.pin i a true q
    exact ⟨i, hi, e1, l, d, e2⟩
  have avs : ∀ a, (O a ∨ IoA io vs a) → Av (startG io O vs) ρ' σ' a := fun a z => by
    rcases z with z | z
    · exact .inl z
    · obtain ⟨i, _, e1, l, d, e2⟩ := pinned a z
      exact .inr ⟨i, true, l, d, e2, e1⟩
  have keep : ∀ a o, H a = some o → ¬ IoA io vs a → H' a = some o := fun a o e n => P.keep a o e fun z => n ((start_own g a).mp z.owned)
  -- the written parameter
  have ioOwn : ∀ (A : Addr → Prop), (∀ a, A a → H' a ≠ none → Av (startG io O vs) ρ' σ' a) → ioD io ρ' = some d' → ∀ a, IoA io vs a → Own K H' A false a d' := fun A hA hd a z => by
    obtain ⟨i, hi, e1, l, d1, e2⟩ := pinned a z
    subst hi
    simp only [ioD, e2] at hd
    cases l with
    | true => cases hd
    | false =>
      cases hd
      obtain ⟨a', s, w⟩ := P.rel.ow i _ _ _ e2
      rw [e1] at s
      cases s
      exact w.go ⟨fun _ _ e _ => e, fun _ _ e _ => e, hA⟩ fun _ e => e
  cases hio : ioD io ρ' with
  | none => rw [hio] at h; cases h
  | some d1 =>
    simp only [hio] at h
    cases r with
    | val d2 =>
      cases h
      have hA : ∀ a, GotA io O vs false v a → H' a ≠ none → Av (startG io O vs) ρ' σ' a := fun a z _ => by
        rcases z with z | ⟨z, _⟩
        · exact avs a z
        · cases z
      exact ⟨keep, ioOwn _ hA hio, fun _ => Rep.go (⟨fun _ _ e _ => e, fun _ _ e _ => e, hA⟩ : Goes H' H' (Av (startG io O vs) ρ' σ') _) w, fun z => by cases z⟩
    | new d2 =>
      cases h
      obtain ⟨p, rfl, hp, no, RA, ow⟩ := w
      refine ⟨keep, fun a z => ?_, (fun z => by cases z), fun _ => ⟨p, rfl, hp, ow.go ⟨fun _ _ e _ => e, fun _ _ e _ => e, fun a z _ => ?_⟩ fun _ e => e⟩⟩
      · -- the io's items avoid the new one
        obtain ⟨i, hi, e1, l, d1, e2⟩ := pinned a z
        subst hi
        simp only [ioD, e2] at hio
        cases l with
        | true => cases hio
        | false =>
          cases hio
          obtain ⟨a', s, w⟩ := RA.ow i _ _ _ e2
          rw [e1] at s
          cases s
          refine w.go ⟨fun _ _ e _ => e, fun _ _ e _ => e, fun a z _ => ?_⟩ fun _ e => e
          rcases z with z | ⟨_, z⟩
          · exact (avs a z).imp .inl id
          · cases z
            exact .inl (.inr rfl)
      · rcases z with z | ⟨_, z⟩
        · exact (avs a z).imp .inl id
        · cases z
          exact .inl (.inr rfl)
    | slot i =>
      simp only at h
      split at h
      · rename_i d2 e2
        cases h
        obtain ⟨s, q, l, d3, e3⟩ := w
        rw [e2] at e3
        cases e3
        obtain ⟨p, s', ow⟩ := P.rel.ow i _ _ _ e2
        rw [s] at s'
        cases s'
        have hA : ∀ a, GotA io O vs true (.ref p) a → H' a ≠ none → Av (startG io O vs) ρ' σ' a := fun a z _ => by
          rcases z with z | ⟨_, z⟩
          · exact avs a z
          · cases z
            exact .inr ⟨i, false, false, _, e2, s⟩
        refine ⟨keep, ioOwn _ hA hio, (fun z => by cases z), fun _ => ⟨p, rfl, ?_, ow.go ⟨fun _ _ e _ => e, fun _ _ e _ => e, hA⟩ fun _ e => e⟩⟩
        rcases P.own p ⟨i, false, false, _, e2, s⟩ with z | z
        · obtain ⟨j, hj, e1, l, d, e4⟩ := pinned p ((start_own g p).mp z)
          have ij := P.rel.inj i j _ _ _ _ _ _ p e2 e4 s e1
          subst ij
          rw [e2] at e4
          cases e4
        · exact z
      · cases h
end
/-! ### the rule for a function of the text -/
theorem got_nx {K : PySem.W.Frag} {io : Option Nat} {O : Addr → Prop} {H H' : Hp} {vs : List V} {ds : List D} {ρ' : En} {σ' : St} {n : Nat} {N : List Str} {b : Bool} {d d' : D} (g : Given K io O H vs ds) (P : PostS K (startG io O vs) (startE n io ds) (L2.start N vs) H ρ' σ' H') (h : endD io (.nx ρ') = some (b, d, d')) : Got K io O H vs b d d' .non H' := by
  refine got_of (r := .val .non) g P .non ?_
  simp only [endD] at h ⊢
  exact h
theorem fn_ok {P : Program} {w : World} {K : PySem.W.Frag} {mg : Str → Option Value} {base : Heap} {x qual : Str} {st : Stmt} {f : Addr} {fd : FuncData} {N ps : List Str} {k : Nat} {io : Option Nat} {B : SS} (F : L2.Fun K x qual st f fd) (S : FnScope N ps (defScope st))
    (hb : ∀ (cdv : Value) (A : Around) (outer : List Env) (s : Shared) (H : Hp) (E : XK), Room k (A.deeper (envOfC qual (defScope st) s.heap.objs.size f cdv)) → Sxs (cxOf CX0 P w K mg base N qual (defScope st) f cdv A outer s H E).nox (defBody st) B) :
    FnOk P w K mg base CX0 (k + 1) f fd ps (spP K ps.length io (fnD N.length io B)) := by
  refine F.ok S (fun vs H Q E h => h.1) fun cdv A outer s H vs Q E hr ⟨_, O, ds, b, d, d', g, hF, hQ⟩ => ⟨_, hb cdv A outer s H E hr, ?_⟩
  unfold fnD at hF
  split at hF
  · rename_i o eo
    refine ⟨startG io O vs, startE N.length io ds, o, start_rel g, eo, ?_⟩
    cases o with
    | nx ρ' => exact fun σ' H' P => hQ _ _ (got_nx g P hF)
    | rt r ρ' => exact fun σ' v H' P w => hQ _ _ (got_of g P w hF)
    | bk ρ' => cases hF
    | ct ρ' => cases hF
  · cases hF

/-! ### a call -/
def D.im1 : D → Bool
  | .lst ds => D.imAll ds
  | .dic _ kvs => kvs.all fun kv => kv.2.im
  | d => d.im
def noLend (io : Option Nat) : Nat → List Opd → Bool
  | _, [] => true
  | i, .slot _ :: rs => (io == some i) && noLend io (i + 1) rs
  | i, _ :: rs => noLend io (i + 1) rs
/-- the slot that is written, and no other operand is it -/
def noAlias (j s : Nat) : Nat → List Opd → Bool
  | _, [] => true
  | i, .slot t :: rs => (i == j || t != s) && noAlias j s (i + 1) rs
  | i, _ :: rs => noAlias j s (i + 1) rs
def setIo (io : Option Nat) (rs : List Opd) (d' : D) (ρ : En) : Option En := match io with
  | none => some ρ
  | some j => match rs[j]? with
    | some (.slot i) => (match ρ[i]? with
      | some (.ow p false _) => if noAlias j i 0 rs then some (ρ.set i (.ow p false d')) else none
      | _ => none)
    | _ => none
def callE (io : Option Nat) (F : Fn) (Fa : SA) : SE := fun ρ => match Fa ρ with
  | none => none
  | some (rs, ρ1) => match resAll ρ1 rs with
    | none => none
    | some ds => match F ds with
      | none => none
      | some (b, d, d') => if noLend io 0 rs || ((if b then d.im1 else d.im) && d'.im1) then (match setIo io rs d' ρ1 with
        | some ρ2 => some (if b then .new d else .val d, ρ2)
        | none => none) else none
section
variable {K : PySem.W.Frag} {G G' : Fr} {ρ ρ' ρ1 ρ2 : En} {σ σ' σ1 σ2 : St} {H H' H1 H2 : Hp} {io : Option Nat} {O : Addr → Prop} {vs : List V} {ds : List D} {a : Addr} {d d' : D} {p : Bool}
theorem Rel.writeG {i : Nat} (R : Rel K G ρ σ H) (e : ρ[i]? = some (.ow p false d)) (es : σ[i]? = some (some (.ref a))) (k : ∀ b o, H b = some o → b ≠ a → H' b = some o) (w : Own K H' (Av G ρ σ) false a d') :
    Rel K G (ρ.set i (.ow p false d')) σ H' ∧ Step ρ σ H (ρ.set i (.ow p false d')) H' := by
  have oa : Owned ρ σ a := ⟨i, p, false, d, e, es⟩
  have sk : sameK ρ (ρ.set i (.ow p false d')) := ⟨List.length_set, fun j => by
    by_cases z : j = i
    · subst z
      exact .inr ⟨p, d, d', e, set_at e⟩
    · exact .inl (set_ne z)⟩
  have g : Goes H H' (Av G ρ σ) (Av G (ρ.set i (.ow p false d')) σ) := by
    rw [sk.av]
    refine ⟨fun b o eo t => k b o eo fun z => ?_, fun b o eo n => k b o eo fun z => n (z ▸ .inr oa), fun _ z _ => z⟩
    obtain ⟨u', e', t'⟩ := R.owned oa
    rw [← z, eo] at e'; cases e'
    rw [t] at t'; cases t'
  have ne : ∀ j q l d1 b, ρ[j]? = some (.ow q l d1) → σ[j]? = some (some (.ref b)) → j ≠ i → b ≠ a := fun j q l d1 b e1 e2 hj z => hj (R.inj j i q l d1 p false d a e1 e (by rw [← z]; exact e2) es)
  refine ⟨⟨by rw [List.length_set]; exact R.len, fun j d1 e1 => ?_, fun j q l d1 e1 => ?_, fun j k q l d1 q' l' d2 b e1 e2 e3 e4 => ?_, fun j b q hp => ?_, fun b h => ?_, fun j l d1 b e1 e2 => ?_⟩, sk, fun b u eb n => k b u eb fun z => n (by rw [z]; exact ⟨i, p, d, e, es⟩)⟩
  · rcases set_get e1 with ⟨_, z⟩ | ⟨hj, z⟩
    · cases z
    · obtain ⟨v, s, r⟩ := R.fr j d1 z
      exact ⟨v, s, r.go g⟩
  · rcases set_get e1 with ⟨hj, z⟩ | ⟨hj, z⟩
    · cases z
      subst hj
      exact ⟨a, es, by rw [sk.av]; exact w⟩
    · obtain ⟨b, s, r⟩ := R.ow j q l d1 z
      have hb := ne j q l d1 b z s hj
      exact ⟨b, s, r.go g fun u eu => k b u eu hb⟩
  · obtain ⟨f1, z1⟩ := sk.wo e1
    obtain ⟨f2, z2⟩ := sk.wo e2
    exact R.inj j k q l f1 q' l' f2 b z1 z2 e3 e4
  · obtain ⟨e1, l, d1, e2, e3⟩ := R.pin j b q hp
    obtain ⟨d2, e4⟩ := sk.ow e2
    exact ⟨e1, l, d2, e4, e3⟩
  · by_cases z : b = a
    · subst z
      exact w.ne
    · cases q : H b with
      | none => exact absurd q (R.dom b h)
      | some o => rw [k b o q z]; simp
  · obtain ⟨f1, z1⟩ := sk.wo e1
    exact R.dj j l f1 b z1 e2
theorem repK_any {H H' : Hp} {A A' : Addr → Prop} (g : ∀ b o, H b = some o → tupO o = true → H' b = some o) : ∀ {kvs : List (Key × V)} {ds : List (D × D)}, (ds.all fun kv => kv.2.im) = true → RepK K H A kvs ds → RepK K H' A' kvs ds
  | _, _, _, .nil => .nil
  | _, _, h, .cons s r => by
    simp only [List.all_cons, Bool.and_eq_true] at h
    exact .cons (s.any g h.1) (repK_any g h.2 r)
theorem repT_any {H H' : Hp} {A A' : Addr → Prop} (g : ∀ b o, H b = some o → tupO o = true → H' b = some o) : ∀ {kvs : List (List Key × V)} {ds : List (D × D)}, (ds.all fun kv => kv.2.im) = true → RepT K H A kvs ds → RepT K H' A' kvs ds
  | _, _, _, .nil => .nil
  | _, _, h, .cons s r => by
    simp only [List.all_cons, Bool.and_eq_true] at h
    exact .cons (s.any g h.1) (repT_any g h.2 r)
theorem Own.any {A A' : Addr → Prop} {l : Bool} (h : d.im1 = true) (w : Own K H A l a d) : Own K H A' l a d := by
  have g : ∀ b o, H b = some o → tupO o = true → H b = some o := fun _ _ e _ => e
  cases w with
  | lst e r => exact .lst e (r.any g h)
  | dk e r => exact .dk e (repK_any g h r)
  | dt e r => exact .dt e (repT_any g h r)
  | dkl e r => exact .dkl e (repK_any g h r)
  | dtl e r => exact .dtl e (repT_any g h r)
theorem OpsOk.at {rs : List Opd} (h : OpsOk K G ρ σ H rs vs) : ∀ {i : Nat} {v : V}, vs[i]? = some v → ∃ r, rs[i]? = some r ∧ OpOk K G ρ σ H r v := by
  induction h with
  | nil => intro i v e; simp at e
  | cons h w ih =>
    intro i v e
    cases i with
    | zero => simp at e; subst e; exact ⟨_, rfl, h⟩
    | succ i => exact ih (by simpa using e)
theorem OpsOk.length {rs : List Opd} (h : OpsOk K G ρ σ H rs vs) : rs.length = vs.length := by
  induction h with
  | nil => rfl
  | cons _ _ ih => simp [ih]
theorem resAll_at : ∀ {rs : List Opd} {ds : List D}, resAll ρ rs = some ds → rs.length = ds.length ∧ ∀ (i : Nat) (r : Opd) (d : D), rs[i]? = some r → ds[i]? = some d → res ρ r = some d
  | [], ds, h => by
    cases h
    exact ⟨rfl, fun i r d e => by simp at e⟩
  | r :: rs, ds, h => by
    simp only [resAll] at h
    split at h
    · rename_i d0 ds0 e1 e2
      cases h
      obtain ⟨h1, h2⟩ := resAll_at e2
      refine ⟨by simp [h1], fun i r' d' e e' => ?_⟩
      cases i with
      | zero => simp at e e'; subst e e'; exact e1
      | succ i => exact h2 i r' d' (by simpa using e) (by simpa using e')
    · cases h
theorem noLend_at : ∀ {rs : List Opd} {k : Nat}, noLend io k rs = true → ∀ (i s : Nat), rs[i]? = some (.slot s) → io = some (k + i)
  | [], k, _, i, s, e => by simp at e
  | r :: rs, k, h, 0, s, e => by
    simp at e
    subst e
    simp only [noLend, Bool.and_eq_true, beq_iff_eq] at h
    exact h.1
  | r :: rs, k, h, i + 1, s, e => by
    have h' : noLend io (k + 1) rs = true := by
      cases r <;> simp only [noLend, Bool.and_eq_true] at h <;> first | exact h | exact h.2
    rw [noLend_at h' i s (by simpa using e)]
    congr 1
    omega
theorem noAlias_at {j t : Nat} : ∀ {rs : List Opd} {k : Nat}, noAlias j t k rs = true → ∀ (i s : Nat), rs[i]? = some (.slot s) → k + i = j ∨ s ≠ t
  | [], k, _, i, s, e => by simp at e
  | r :: rs, k, h, 0, s, e => by
    simp at e
    subst e
    simp only [noAlias, Bool.and_eq_true, Bool.or_eq_true, beq_iff_eq, bne_iff_ne] at h
    exact h.1
  | r :: rs, k, h, i + 1, s, e => by
    have h' : noAlias j t (k + 1) rs = true := by
      cases r <;> simp only [noAlias, Bool.and_eq_true] at h <;> first | exact h | exact h.2
    rcases noAlias_at h' i s (by simpa using e) with z | z
    · exact .inl (by omega)
    · exact .inr z
theorem call_elim {F : Fn} {Fa : SA} {r : Opd} {n : Nat} {Q : VK} {E : XK} (R : Rel K G ρ σ H) (hf : callE io F Fa ρ = some (r, ρ')) (hn : ∀ rs ρ1, Fa ρ = some (rs, ρ1) → rs.length = n) (hQ : ∀ v H', PostE K G ρ σ H r ρ' v H' → Q v H') :
    tA K Fa σ H fun vs H1 => spP K n io F vs H1 Q E := by
  unfold callE at hf
  split at hf
  · cases hf
  rename_i rs ρ1 e1
  split at hf
  · cases hf
  rename_i ds e2
  split at hf
  · cases hf
  rename_i b d d' e3
  by_cases hl : (noLend io 0 rs || ((if b = true then d.im1 else d.im) && d'.im1)) = true
  case neg => rw [if_neg hl] at hf; cases hf
  rw [if_pos hl] at hf
  cases e4 : setIo io rs d' ρ1 with
  | none => rw [e4] at hf; cases hf
  | some ρ2 =>
  rw [e4] at hf
  cases hf
  refine ⟨G, ρ, rs, ρ1, R, e1, fun vs H1 S A => ?_⟩
  have R1 : Rel K G ρ1 σ H1 := A.rel
  have ok := A.ok R
  obtain ⟨rl, rat⟩ := resAll_at e2
  have vl : vs.length = ds.length := by rw [← ok.length, rl]
  refine ⟨by rw [← ok.length]; exact hn rs ρ1 e1, ?_⟩
  -- the written slot
  have slot : ∀ j, io = some j → ∃ s p d0 a, rs[j]? = some (.slot s) ∧ ρ1[s]? = some (.ow p false d0) ∧ σ[s]? = some (some (.ref a)) ∧ vs[j]? = some (.ref a) ∧ ds[j]? = some d0 ∧ noAlias j s 0 rs = true ∧ ρ' = ρ1.set s (.ow p false d') := fun j hj => by
    subst hj
    simp only [setIo] at e4
    split at e4
    · rename_i s es
      split at e4
      · rename_i p d0 er
        split at e4
        · rename_i na
          cases e4
          obtain ⟨a, sa, _⟩ := R1.ow s p false d0 er
          have hjl : j < vs.length := by rw [← ok.length]; exact (List.getElem?_eq_some_iff.mp es).1
          obtain ⟨r', er', o'⟩ := ok.at (List.getElem?_eq_getElem hjl)
          rw [es] at er'
          cases er'
          have ev := o'.1
          rw [sa] at ev
          have ev' : V.ref a = vs[j] := by simpa using ev
          have hjd : j < ds.length := by rw [← vl]; exact hjl
          refine ⟨s, p, d0, a, es, er, sa, by rw [List.getElem?_eq_getElem hjl, ← ev'], ?_, na, rfl⟩
          have q := rat j _ ds[j] es (List.getElem?_eq_getElem hjd)
          rw [res_slot er] at q
          rw [List.getElem?_eq_getElem hjd]
          exact q.symm
        · cases e4
      · cases e4
    · cases e4
  have ioAt : ∀ a, IoA io vs a → ∃ s p d0, ρ1[s]? = some (.ow p false d0) ∧ σ[s]? = some (some (.ref a)) ∧ ρ' = ρ1.set s (.ow p false d') := fun a ⟨j, hj, hv⟩ => by
    obtain ⟨s, p, d0, a', _, q2, q3, q4, _, _, q7⟩ := slot j hj
    rw [hv] at q4
    cases q4
    exact ⟨s, p, d0, q2, q3, q7⟩
  -- the end
  have fin : ∀ (O : Addr → Prop), (∀ v H', Got K io O H1 vs b d d' v H' → (∀ a, IoA io vs a → Own K H' (fun x => Av G ρ1 σ x ∨ (b = true ∧ v = .ref x)) false a d') ∧ (b = false → Rep K H' (Av G ρ1 σ) v d) ∧
      (b = true → ∃ p, v = .ref p ∧ H1 p = none ∧ Own K H' (fun x => Av G ρ1 σ x ∨ x = p) false p d)) → ∀ v H', Got K io O H1 vs b d d' v H' → Q v H' := fun O up v H' g => by
    obtain ⟨u1, u2, u3⟩ := up v H' g
    refine hQ v H' ?_
    -- what stands behind the write
    have wr : ∀ (G2 : Fr), G2 = G ∨ (∃ p, b = true ∧ v = .ref p ∧ G2 = G.add p) → (∀ p, b = true → v = .ref p → H1 p = none) → ∀ (hd : ∀ p, b = true → v = .ref p → H' p ≠ none), Rel K G2 ρ' σ H' ∧ Step ρ1 σ H1 ρ' H' := fun G2 hG hn hd => by
      cases io with
      | none =>
        cases e4
        have ext : ∀ b o, H1 b = some o → H' b = some o := fun a o e => g.keep a o e fun ⟨j, hj, _⟩ => by cases hj
        refine ⟨?_, sameK.refl _, fun b o e _ => ext b o e⟩
        rcases hG with rfl | ⟨p, hb, hv, rfl⟩
        · exact R1.ext ext
        · exact R1.add (hn p hb hv) ext (hd p hb hv)
      | some j =>
        obtain ⟨s, p, d0, a, q1, q2, q3, q4, q5, q6, q7⟩ := slot j rfl
        subst q7
        have ia : IoA (some j) vs a := ⟨j, rfl, q4⟩
        have kp : ∀ b o, H1 b = some o → b ≠ a → H' b = some o := fun b o e n => g.keep b o e fun ⟨j', hj, hv⟩ => by
          cases hj
          rw [q4] at hv
          cases hv
          exact n rfl
        rcases hG with rfl | ⟨p', hb, hv, rfl⟩
        · exact R1.writeG q2 q3 kp ((u1 a ia).go ⟨fun _ _ e _ => e, fun _ _ e _ => e, fun b z _ => .inl z⟩ fun _ e => e)
        · -- first the new one, in a heap that has it only
          obtain ⟨o', eo'⟩ : ∃ o, H' p' = some o := by
            cases z : H' p' with
            | none => exact absurd z (hd p' hb hv)
            | some o => exact ⟨o, rfl⟩
          have hp := hn p' hb hv
          have R2 : Rel K (G.add p') ρ1 σ (L2.upd H1 p' o') := R1.updA hp
          have ap : a ≠ p' := fun z => by
            obtain ⟨u, eu, _⟩ := R1.owned ⟨s, p, false, d0, q2, q3⟩
            rw [z, hp] at eu; cases eu
          obtain ⟨w1, w2⟩ := R2.writeG (H' := H') q2 q3 (fun b o e n => by
            by_cases z : b = p'
            · subst z
              rw [upd_same] at e; cases e; exact eo'
            · rw [upd_ne z] at e; exact kp b o e n) ((u1 a ia).go ⟨fun _ _ e _ => e, fun _ _ e _ => e, fun b z _ => by
              rcases z with (z | z) | z
              · exact .inl (.inl z)
              · exact .inr ⟨hb, by rw [z]; exact hv⟩
              · exact .inl (.inr z)⟩ fun _ e => e)
          refine ⟨w1, w2.sk, fun b o e n => w2.keep b o (by
            rw [upd_ne fun z => by rw [z, hp] at e; cases e]; exact e) n⟩
    cases b with
    | false =>
      obtain ⟨w1, w2⟩ := wr G (.inl rfl) (fun p z => by cases z) fun p z => by cases z
      refine ⟨S.trans w2, w1, ?_⟩
      rw [w2.sk.av]
      exact u2 rfl
    | true =>
      obtain ⟨p, rfl, hp, ow⟩ := u3 rfl
      have hd : H' p ≠ none := ow.ne
      obtain ⟨w1, w2⟩ := wr (G.add p) (.inr ⟨p, rfl, rfl, rfl⟩) (fun p' _ z => by cases z; exact hp) fun p' _ z => by cases z; exact hd
      refine ⟨S.trans w2, p, rfl, S.none R1 hp, w1, ow.go ⟨fun _ _ e _ => e, fun _ _ e _ => e, fun b z _ => ?_⟩ fun _ e => e⟩
      rcases z with (z | z) | z
      · exact .inl (.inl z)
      · exact .inr z
      · exact .inl (.inr ((w2.sk.owned b).mp z))
  have ioOwned : ∀ a, IoA io vs a → Owned ρ1 σ a := fun a z => by
    obtain ⟨s, p, d0, q2, q3, _⟩ := ioAt a z
    exact ⟨s, p, false, d0, q2, q3⟩
  by_cases nl : noLend io 0 rs = true
  · -- nothing is lent
    refine ⟨Av G ρ1 σ, ds, b, d, d', ⟨vl, fun a z => R1.avd z, fun i v d0 hi hv hd => ?_, fun i d0 hi hd => ?_⟩, e3, fin _ fun v H' g => ⟨fun a z => (g.out a z).go ⟨fun _ _ e _ => e, fun _ _ e _ => e, fun x z _ => ?_⟩ fun _ e => e, fun hb => (g.val hb).go ⟨fun _ _ e _ => e, fun _ _ e _ => e, fun x z _ => .inl (.inl z)⟩, fun hb => ?_⟩⟩
    · obtain ⟨r', er', o'⟩ := ok.at hv
      have rd := rat i r' d0 er' hd
      have base : Rep K H1 (Av G ρ1 σ) v d0 := by
        cases r' with
        | val d1 => cases rd; exact o'
        | new d1 => cases rd; exact o'
        | slot s => exact absurd (by simpa using noLend_at nl i s er') hi
      exact base.go ⟨fun _ _ e _ => e, fun _ _ e _ => e, fun x z _ => z.elim id fun z => .inr (ioOwned x z)⟩
    · obtain ⟨s, p, d1, a, q1, q2, q3, q4, q5, _⟩ := slot i hi
      rw [hd] at q5
      cases q5
      obtain ⟨a', s', w⟩ := R1.ow s p false _ q2
      rw [q3] at s'
      cases s'
      exact ⟨a, q4, w.go ⟨fun _ _ e _ => e, fun _ _ e _ => e, fun x z _ => z.elim id fun z => .inr (ioOwned x z)⟩ fun _ e => e⟩
    · rcases z with z | z
      · exact .inl (.inl z)
      · exact .inr z
    · obtain ⟨p, e, hp, w⟩ := g.new hb
      refine ⟨p, e, hp, w.go ⟨fun _ _ e _ => e, fun _ _ e _ => e, fun x z _ => ?_⟩ fun _ e => e⟩
      rcases z with z | z
      · exact .inl (.inl z)
      · exact .inr ⟨hb, by rw [z]; exact e⟩
  · -- something is lent: what comes back holds nothing that can change
    have im : (if b = true then d.im1 else d.im) = true ∧ d'.im1 = true := by
      have h := hl
      rw [Bool.eq_false_iff.mpr nl] at h
      simpa using h
    refine ⟨NoA, ds, b, d, d', ⟨vl, fun a z => z.elim, fun i v d0 hi hv hd => ?_, fun i d0 hi hd => ?_⟩, e3, fin _ fun v H' g => ⟨fun a z => (g.out a z).any im.2, fun hb => ?_, fun hb => ?_⟩⟩
    · obtain ⟨r', er', o'⟩ := ok.at hv
      have rd := rat i r' d0 er' hd
      have sub : ∀ x, (NoA x ∨ IoA io vs x) → Av G ρ1 σ x := fun x z => z.elim (fun z => z.elim) fun z => .inr (ioOwned x z)
      have g0 : Goes H1 H1 (Av G ρ1 σ) (fun x => NoA x ∨ IoA io vs x) := ⟨fun _ _ e _ => e, fun _ _ e _ => e, fun x z _ => sub x z⟩
      cases r' with
      | val d1 => cases rd; exact Rep.go g0 o'
      | new d1 => cases rd; exact Rep.go g0 o'
      | slot s =>
        obtain ⟨es, q, l, d1, er⟩ := o'
        rw [res_slot er] at rd
        cases rd
        obtain ⟨a, s', w⟩ := R1.ow s q l _ er
        rw [es] at s'
        cases s'
        refine w.rep (fun x z _ => sub x z) fun z => ?_
        rcases z with z | ⟨j, hj, hvj⟩
        · exact z
        · obtain ⟨s2, p2, d2, a2, t1, t2, t3, t4, t5, t6, _⟩ := slot j hj
          rw [hvj] at t4
          cases t4
          have ss := R1.inj s s2 q l _ p2 false d2 a er t2 es t3
          rcases noAlias_at t6 i s er' with z | z
          · exact hi (by rw [hj]; congr 1; omega)
          · exact z ss
    · obtain ⟨s, p, d1, a, q1, q2, q3, q4, q5, _⟩ := slot i hi
      rw [hd] at q5
      cases q5
      obtain ⟨a', s', w⟩ := R1.ow s p false _ q2
      rw [q3] at s'
      cases s'
      exact ⟨a, q4, w.go ⟨fun _ _ e _ => e, fun _ _ e _ => e, fun x z _ => z.elim (fun z => z.elim) fun z => .inr (ioOwned x z)⟩ fun _ e => e⟩
    · have h := im.1
      rw [hb] at h
      exact Rep.any (fun _ _ e _ => e) (by simpa using h) (g.val hb)
    · obtain ⟨p, e, hp, w⟩ := g.new hb
      have h := im.1
      rw [hb] at h
      exact ⟨p, e, hp, w.any (by simpa using h)⟩
end

class LenA (F : SA) (n : outParam Nat) : Prop where
  len : ∀ ρ rs ρ', F ρ = some (rs, ρ') → rs.length = n
instance : LenA nilA 0 := ⟨fun ρ rs ρ' h => by cases h; rfl⟩
instance {f : SE} {F : SA} {n : Nat} [h : LenA F n] : LenA (consA f F) (n + 1) := ⟨fun ρ rs ρ' e => by
  unfold consA at e
  split at e
  · cases e
  · split at e
    · cases e
    · rename_i q
      cases e
      simp [h.len _ _ _ q]⟩
def appA (F1 F2 : SA) : SA := fun ρ => match F1 ρ with
  | none => none
  | some (rs, ρ1) => match F2 ρ1 with
    | none => none
    | some (ss, ρ2) => some (rs ++ ss, ρ2)
instance {F1 F2 : SA} {n m : Nat} [h1 : LenA F1 n] [h2 : LenA F2 m] : LenA (appA F1 F2) (n + m) := ⟨fun ρ rs ρ' e => by
  unfold appA at e
  split at e
  · cases e
  · rename_i q1
    split at e
    · cases e
    · rename_i q2
      cases e
      simp [h1.len _ _ _ q1, h2.len _ _ _ q2]⟩
theorem newsOf_append : ∀ {rs ss : List Opd} {vs zs : List V}, rs.length = vs.length → newsOf (rs ++ ss) (vs ++ zs) = newsOf rs vs ++ newsOf ss zs
  | [], _, [], _, _ => by simp [newsOf]
  | [], _, _ :: _, _, h => by simp at h
  | _ :: _, _, [], _, h => by simp at h
  | r :: rs, ss, v :: vs, zs, h => by
    have ih := newsOf_append (rs := rs) (ss := ss) (vs := vs) (zs := zs) (by simpa using h)
    cases r with
    | val d => simpa [newsOf] using ih
    | slot i => simpa [newsOf] using ih
    | new d => cases v <;> simpa [newsOf] using ih
theorem OpsS.append {K : PySem.W.Frag} {G : Fr} {ρ : En} {σ : St} {H : Hp} {rs ss : List Opd} {vs zs : List V} (h : OpsS K G ρ σ H rs vs) (h2 : OpsS K G ρ σ H ss zs) : OpsS K G ρ σ H (rs ++ ss) (vs ++ zs) := by
  induction h with
  | nil => exact h2
  | cons a _ ih => exact .cons a ih
theorem appA_elim {K : PySem.W.Frag} {F1 F2 : SA} {σ : St} {H : Hp} {Q : List V → Hp → Prop} (h : tA K (appA F1 F2) σ H Q) : tA K F1 σ H fun vs H1 => tA K F2 σ H1 fun zs H2 => Q (vs ++ zs) H2 := by
  obtain ⟨G, ρ, rs0, ρ', R0, hf, hQ⟩ := h
  unfold appA at hf
  split at hf
  · cases hf
  rename_i rs ρ1 e1
  split at hf
  · cases hf
  rename_i ss ρ2 e2
  cases hf
  refine ⟨G, ρ, rs, ρ1, R0, e1, fun vs H1 S1 A1 => ?_⟩
  obtain ⟨Gt, hp, hO, R1, w1⟩ := A1.ex
  refine ⟨Gt, ρ1, ss, ρ', R1, e2, fun zs H2 S2 A2 => hQ _ _ (S1.trans S2) ?_⟩
  obtain ⟨Gu, hp2, hO2, R2, w2⟩ := A2.ex
  have e := newsOf_append (ss := ss) (zs := zs) w1.length
  have w1' : OpsS K Gu ρ' σ H2 rs vs := w1.go R1 S2 (fun a z => (hO2 a).mpr (.inl z)) fun a z n => ((hO2 a).mp z).elim id fun q => absurd (A2.fresh a q).1 n
  refine ⟨⟨Gu, hp2.trans hp, fun a => ?_, R2, w1'.append w2⟩, fun a z => ?_, ?_⟩
  · rw [hO2 a, hO a, e, List.mem_append]
    exact or_assoc
  · rw [e, List.mem_append] at z
    rcases z with z | z
    · exact ⟨(A1.fresh a z).1, fun y => (A1.fresh a z).2 ((S2.sk.owned a).mp y)⟩
    · exact ⟨S1.none A1.rel (A2.fresh a z).1, (A2.fresh a z).2⟩
  · rw [e, List.nodup_append]
    refine ⟨A1.nd, A2.nd, fun a z b y => ?_⟩
    rintro rfl
    exact R1.dom a ((hO a).mpr (.inr z)) (A2.fresh a y).1
/-! ### keywords -/
theorem PK.imp {X : Cx} {kws : List Keyword} {t t' : TA} (h : PK X kws t) (i : ∀ σ H Q, t' σ H Q → t σ H Q) : PK X kws t' := ⟨fun pos pins s σ H Q I q => h.run pos pins s σ H Q I (i σ H Q q)⟩
abbrev Kw (X : Cx) (kws : List Keyword) (F : SA) : Prop := PK X kws (tA X.K F)
theorem Kw.nil {X : Cx} : Kw X [] nilA := PK.imp pk_nil fun σ H Q ⟨G, ρ, rs, ρ', R0, hf, hQ⟩ => by
  cases hf
  exact hQ [] H (Step.refl _ _ _) ⟨⟨G, rfl, fun a => by simp [newsOf], R0, .nil⟩, fun a h => by simp [newsOf] at h, by simp [newsOf]⟩
theorem Kw.cons {X : Cx} {nm : Option Str} {e : Expr} {kpos : Pos} {kws : List Keyword} {f : SE} {F : SA} (ha : Ex X e f) (hr : Kw X kws F) : Kw X (⟨nm, e, kpos⟩ :: kws) (consA f F) := PK.imp (pk_cons ha hr) fun σ H Q h => consA_elim h
/-- trailing keywords, in the parameters' order -/
def kwJ {α : Type} (n m : Nat) (us ws : List α) : List α := if us.length = n ∧ ws.length = m then us ++ ws else []
theorem kb_of {K : PySem.W.Frag} {x qual : Str} {st : Stmt} {f : Addr} {fd : FuncData} {ps ks : List Str} (n m : Nat) (F : L2.Fun K x qual st f fd) (hp : ps ≠ [])
    (h : ∀ (kV doc pm : Value) (an : Option Addr) (cdv ct : Value) (us ws : List Value), us.length = n → ws.length = m → bindArgs (PySem.W.fnOf x qual (defArgs st) (defBody st) (defScope st) .none kV doc pm an cdv ct) ⟨us, ks.zip ws⟩ = pure (ps.zip (us ++ ws))) : KBinds K fd ps ks (kwJ n m) (kwJ n m) := by
  obtain ⟨oc, od, kV, doc, pm, an, cdv, ct, osl, rfl, lk, hcd⟩ := F.ex
  refine ⟨fun s us ws _ hl => ?_, fun {vs us zs ws} r1 r2 => ?_⟩
  · unfold kwJ at hl ⊢
    split at hl
    · rename_i hc
      rw [if_pos hc]
      exact .of_eq (h _ _ _ _ _ _ us ws hc.1 hc.2)
    · exact absurd (List.length_eq_zero_iff.mp hl.symm) hp
  · unfold kwJ
    rw [r1.length, r2.length]
    split
    · exact r1.append r2
    · exact .nil
section
variable {X : Cx} {k : Nat} {f : Addr} {fd : FuncData} {ps ks : List Str} {io : Option Nat} {F : Fn} {x : Str} {p pos : Pos} {e : Expr} {es : List Expr} {kws : List Keyword} {Fa Fk : SA} {n m : Nat}
theorem Ex.call (hF : FnOk X.prog X.w X.K X.mg X.base CX0 k f fd ps (spP X.K ps.length io F)) (hr : Room k X.A) (hm : X.mg x = some (.ref f)) (hk : PySem.W.keepIn X.K (.ref f) = true) (hb : Binds X.K fd ps []) (ha : Ar X (e :: es) Fa) [hl : LenA Fa n] (hn : n = ps.length := by rfl)
    (hg : Gl X x := by rfl) (hdb : (x == ("__debug__" : Str)) = false := by decide) (he : starEach (e :: es) X.env = (false, eval e X.env) :: starEach es X.env := by rfl) (hpl : (backTo pos (starEach es X.env)).any (·.1) = false := by rfl) :
    Ex X (.Call (.Name x p) (e :: es) [] pos) (callE io F Fa) := PE.imp (pe_call hF hr hg hm hk hb .nil pass0 ha hdb he hpl) fun σ H Q ⟨G, ρ, r, ρ', R, hf, hQ⟩ => by
  have q := call_elim (n := ps.length) (E := E0) R hf (fun rs ρ1 z => by rw [hl.len _ _ _ z, hn]) hQ
  obtain ⟨G1, ρ1, rs, ρ2, R1, e1, h1⟩ := q
  exact ⟨G1, ρ1, rs, ρ2, R1, e1, fun vs H' S A => by
    show spP X.K ps.length io F (vs ++ []) H' Q E0
    rw [List.append_nil]; exact h1 vs H' S A⟩
theorem Ex.callK (hF : FnOk X.prog X.w X.K X.mg X.base CX0 k f fd ps (spP X.K ps.length io F)) (hr : Room k X.A) (hm : X.mg x = some (.ref f)) (hk : PySem.W.keepIn X.K (.ref f) = true) (hb : KBinds X.K fd ps ks (kwJ n m) (kwJ n m)) (ha : Ar X (e :: es) Fa) (hw : Kw X kws Fk) [hl : LenA Fa n] [hl2 : LenA Fk m] (hn : n + m = ps.length := by rfl)
    (hg : Gl X x := by rfl) (hall : (backToKw pos (keywordEach kws X.env)).all (·.1.isSome) = true := by rfl) (hks : (backToKw pos (keywordEach kws X.env)).filterMap (·.1) = ks := by rfl)
    (hdb : (x == ("__debug__" : Str)) = false := by decide) (he : starEach (e :: es) X.env = (false, eval e X.env) :: starEach es X.env := by rfl)
    (hpl : ((backTo pos (starEach (e :: es) X.env)).any (·.1) || (backToKw pos (keywordEach kws X.env)).any (·.1.isNone)) = false := by rfl) :
    Ex X (.Call (.Name x p) (e :: es) kws pos) (callE io F (appA Fa Fk)) := PE.imp (pe_callK hF hr hg hm hk hb pass0 ha hw hall hks hdb he hpl) fun σ H Q ⟨G, ρ, r, ρ', R, hf, hQ⟩ => by
  have q := call_elim (n := ps.length) (E := E0) R hf (fun rs ρ1 z => by
    have z' := (inferInstance : LenA (appA Fa Fk) (n + m)).len _ _ _ z
    rw [z', hn]) hQ
  have q' : tA X.K (appA Fa Fk) σ H fun vs H1 => vs.length = n + m ∧ spP X.K ps.length io F vs H1 Q E0 := by
    obtain ⟨G1, ρ1, rs, ρ2, R1, e1, h1⟩ := q
    refine ⟨G1, ρ1, rs, ρ2, R1, e1, fun vs H' S A => ⟨?_, h1 vs H' S A⟩⟩
    have z' := (inferInstance : LenA (appA Fa Fk) (n + m)).len _ _ _ e1
    rw [← z']
    exact ((A.ok R1).length).symm
  obtain ⟨G1, ρ1, rs, ρ2, R1, e1, h1⟩ := appA_elim q'
  refine ⟨G1, ρ1, rs, ρ2, R1, e1, fun vs H' S A => ?_⟩
  have vl : vs.length = n := by rw [← (A.ok R1).length, hl.len _ _ _ e1]
  obtain ⟨G2, ρ3, ss, ρ4, R2, e2, h2⟩ := h1 vs H' S A
  refine ⟨G2, ρ3, ss, ρ4, R2, e2, fun zs H2 S2 A2 => ?_⟩
  have zl : zs.length = m := by rw [← (A2.ok R2).length, hl2.len _ _ _ e2]
  show spP X.K ps.length io F (kwJ n m vs zs) H2 Q E0
  unfold kwJ
  rw [if_pos ⟨vl, zl⟩]
  exact (h2 zs H2 S2 A2).2
end
end Mi

/-! Built-in functions. -/
namespace Mi
open PySem PySem.Spec
open PyProof.Rows hiding St
open L2

def bltE (k : List D → Option Opd) (F : SA) : SE := fun ρ => match F ρ with
  | none => none
  | some (rs, ρ1) => match resAll ρ1 rs with
    | none => none
    | some ds => match k ds with
      | none => none
      | some o => some (o, ρ1)
/-- a built-in by its reading -/
def BltOk (K : PySem.W.Frag) (r : List V → Hp → VK → Prop) (k : List D → Option Opd) : Prop := ∀ (G : Fr) (ρ : En) (σ : St) (H : Hp) (rs : List Opd) (vs : List V) (ds : List D) (o : Opd) (Q : VK),
  Rel K G ρ σ H → OpsOk K G ρ σ H rs vs → resAll ρ rs = some ds → k ds = some o → (∀ v H', PostE K G ρ σ H o ρ v H' → Q v H') → r vs H Q
theorem blt_elim {K : PySem.W.Frag} {r : List V → Hp → VK → Prop} {k : List D → Option Opd} {F : SA} (hk : BltOk K r k) {σ : St} {H : Hp} {Q : VK} (h : tE K (bltE k F) σ H Q) : tCB r (tA K F) σ H Q := by
  obtain ⟨G, ρ, o, ρ', R, hf, hQ⟩ := h
  unfold bltE at hf
  split at hf
  · cases hf
  rename_i rs ρ1 e1
  split at hf
  · cases hf
  rename_i ds e2
  split at hf
  · cases hf
  rename_i o' e3
  cases hf
  refine ⟨G, ρ, rs, ρ', R, e1, fun vs H1 S A => ?_⟩
  exact hk G ρ' σ H1 rs vs ds o Q A.rel (A.ok R) e2 e3 fun v H' P => hQ v H' (P.trans S A.rel)
section
variable {X : Cx} {e : Expr} {es : List Expr} {x : Str} {id : String} {p pos : Pos} {r : List V → Hp → VK → Prop} {k : List D → Option Opd} {F : SA}
theorem Ex.bltB (hc : CallR X (.builtin id) r) (hk : BltOk X.K r k) (hv : bootBuiltins x = some (.builtin id)) (hm : X.mg x = none) (ha : Ar X (e :: es) F) (hg : Gl X x := by rfl) (hn : x ≠ "__name__" := by decide) (hdb : (x == ("__debug__" : Str)) = false := by decide)
    (he : starEach (e :: es) X.env = (false, eval e X.env) :: starEach es X.env := by rfl) (hpl : (backTo pos (starEach es X.env)).any (·.1) = false := by rfl) : Ex X (.Call (.Name x p) (e :: es) [] pos) (bltE k F) :=
  PE.imp (pe_callB hc hg hm hv ha hn hdb he hpl) fun σ H Q h => blt_elim hk h
theorem Ex.bltT (hc : CallR X (.type id) r) (hk : BltOk X.K r k) (hv : bootBuiltins x = some (.type id)) (hm : X.mg x = none) (ha : Ar X (e :: es) F) (hg : Gl X x := by rfl) (hn : x ≠ "__name__" := by decide) (hdb : (x == ("__debug__" : Str)) = false := by decide)
    (he : starEach (e :: es) X.env = (false, eval e X.env) :: starEach es X.env := by rfl) (hpl : (backTo pos (starEach es X.env)).any (·.1) = false := by rfl) : Ex X (.Call (.Name x p) (e :: es) [] pos) (bltE k F) :=
  PE.imp (pe_callTy hc hg hm hv ha hn hdb he hpl) fun σ H Q h => blt_elim hk h
end
section
variable {K : PySem.W.Frag} {G : Fr} {ρ : En} {σ : St} {H : Hp}
theorem ops1 {rs : List Opd} {vs : List V} {d : D} (o : OpsOk K G ρ σ H rs vs) (e : resAll ρ rs = some [d]) : ∃ r v, rs = [r] ∧ vs = [v] ∧ OpOk K G ρ σ H r v ∧ res ρ r = some d := by
  obtain ⟨h1, h2⟩ := resAll_at e
  match rs, vs, o, h1 with
  | [r], [v], .cons w .nil, _ => exact ⟨r, v, rfl, rfl, w, h2 0 r d rfl rfl⟩
theorem ops2 {rs : List Opd} {vs : List V} {d d' : D} (o : OpsOk K G ρ σ H rs vs) (e : resAll ρ rs = some [d, d']) : ∃ r v r' v', rs = [r, r'] ∧ vs = [v, v'] ∧ OpOk K G ρ σ H r v ∧ res ρ r = some d ∧ OpOk K G ρ σ H r' v' ∧ res ρ r' = some d' := by
  obtain ⟨h1, h2⟩ := resAll_at e
  match rs, vs, o, h1 with
  | [r, r'], [v, v'], .cons w (.cons w' .nil), _ => exact ⟨r, v, r', v', rfl, rfl, w, h2 0 r d rfl rfl, w', h2 1 r' d' rfl rfl⟩
/-- a list, a tuple, a script -/
def D.seq : D → Option (List D)
  | .tup xs => some xs
  | .kt xs => some xs
  | .lst xs => some xs
  | .scr ns => some (ns.map .int)
  | _ => none
theorem OpOk.seq {r : Opd} {v : V} {d : D} {ds : List D} (R : Rel K G ρ σ H) (o : OpOk K G ρ σ H r v) (e : res ρ r = some d) (es : d.seq = some ds) : ∃ a xs, v = .ref a ∧ (SqL K H a xs ∨ SqT K H a xs) ∧ RepAll K H (Av G ρ σ) xs ds := by
  unfold D.seq at es
  split at es
  · cases es
    obtain ⟨a, xs, h1, h2, h3⟩ := o.asT R e rfl
    exact ⟨a, xs, h1, .inr h2, h3⟩
  · cases es
    obtain ⟨a, xs, h1, h2, h3⟩ := o.asT R e rfl
    exact ⟨a, xs, h1, .inr h2, h3⟩
  · cases es
    obtain ⟨a, xs, h1, h2, h3⟩ := o.lst R e
    exact ⟨a, xs, h1, .inl (SqL.of h2), h3⟩
  · cases es
    obtain ⟨a, h1, h2⟩ := o.scr R e
    exact ⟨a, _, h1, .inl h2, RepAll.ints _⟩
  · cases es
/-- a list, a script -/
def D.seqL : D → Option (List D)
  | .lst xs => some xs
  | .scr ns => some (ns.map .int)
  | _ => none
theorem OpOk.seqL {r : Opd} {v : V} {d : D} {ds : List D} (R : Rel K G ρ σ H) (o : OpOk K G ρ σ H r v) (e : res ρ r = some d) (es : d.seqL = some ds) : ∃ a xs, v = .ref a ∧ SqL K H a xs ∧ RepAll K H (Av G ρ σ) xs ds := by
  unfold D.seqL at es
  split at es
  · cases es
    obtain ⟨a, xs, h1, h2, h3⟩ := o.lst R e
    exact ⟨a, xs, h1, SqL.of h2, h3⟩
  · cases es
    obtain ⟨a, h1, h2⟩ := o.scr R e
    exact ⟨a, _, h1, h2, RepAll.ints _⟩
  · cases es
end
/-! ### len -/
def lenK : List D → Option Opd
  | [.str x] => if x.length ≤ 16000000 then some (.val (.int x.length)) else none
  | [d] => d.seq.map fun ds => .val (.int ds.length)
  | _ => none
/-! ### abs, max, min, int -/
def absK : List D → Option Opd
  | [.int i] => some (.val (.int (if i < 0 then -i else i)))
  | _ => none
def max2K : List D → Option Opd
  | [.int i, .int j] => some (.val (.int (if j > i then j else i)))
  | _ => none
def min2K : List D → Option Opd
  | [.int i, .int j] => some (.val (.int (if j < i then j else i)))
  | _ => none
def intK : List D → Option Opd
  | [.int i] => some (.val (.int i))
  | [.bl b] => some (.val (.int (if b then 1 else 0)))
  | _ => none
def tupK : List D → Option Opd
  | [.tup xs] => some (.val (.tup xs))
  | [.kt xs] => some (.val (.kt xs))
  | [d] => d.seqL.map fun ds => .val (.tup ds)
  | _ => none
def lstK : List D → Option Opd
  | [d] => d.seq.map fun ds => .new (.lst ds)
  | _ => none
def blsD : List D → Option (List Bool)
  | [] => some []
  | .bl b :: ds => (blsD ds).map (b :: ·)
  | _ :: _ => none
def intsD : List D → Option (List Int)
  | [] => some []
  | .int b :: ds => (intsD ds).map (b :: ·)
  | _ :: _ => none
def anyK : List D → Option Opd
  | [d] => match d.seqL with
    | some ds => (blsD ds).map fun bs => .val (.bl (bs.any id))
    | none => none
  | _ => none
def allK : List D → Option Opd
  | [d] => match d.seqL with
    | some ds => (blsD ds).map fun bs => .val (.bl (bs.all id))
    | none => none
  | _ => none
def sumK : List D → Option Opd
  | [d] => match d.seqL with
    | some ds => (intsD ds).map fun ns => .val (.int ns.sum)
    | none => none
  | _ => none
section
variable {K : PySem.W.Frag} {H : Hp} {A : Addr → Prop}
theorem intsD_eq : ∀ {ds : List D} {ns : List Int}, intsD ds = some ns → ds = ns.map .int
  | [], ns, h => by cases h; rfl
  | .int b :: ds, ns, h => by
    simp only [intsD, Option.map_eq_some_iff] at h
    obtain ⟨ms, h1, rfl⟩ := h
    rw [intsD_eq h1]; rfl
  | .non :: _, _, h => by cases h
  | .bl _ :: _, _, h => by cases h
  | .str _ :: _, _, h => by cases h
  | .tup _ :: _, _, h => by cases h
  | .lst _ :: _, _, h => by cases h
  | .dic _ _ :: _, _, h => by cases h
  | .scr _ :: _, _, h => by cases h
  | .kt _ :: _, _, h => by cases h
theorem blsD_eq : ∀ {ds : List D} {ns : List Bool}, blsD ds = some ns → ds = ns.map .bl
  | [], ns, h => by cases h; rfl
  | .bl b :: ds, ns, h => by
    simp only [blsD, Option.map_eq_some_iff] at h
    obtain ⟨ms, h1, rfl⟩ := h
    rw [blsD_eq h1]; rfl
  | .non :: _, _, h => by cases h
  | .int _ :: _, _, h => by cases h
  | .str _ :: _, _, h => by cases h
  | .tup _ :: _, _, h => by cases h
  | .lst _ :: _, _, h => by cases h
  | .dic _ _ :: _, _, h => by cases h
  | .scr _ :: _, _, h => by cases h
  | .kt _ :: _, _, h => by cases h
theorem intsD_map : ∀ ns : List Int, intsD (ns.map .int) = some ns
  | [] => rfl
  | n :: ns => by simp [intsD, intsD_map ns]
theorem blsD_map : ∀ ns : List Bool, blsD (ns.map .bl) = some ns
  | [] => rfl
  | n :: ns => by simp [blsD, blsD_map ns]
theorem RepAll.bls_of : ∀ {xs : List V} {bs : List Bool}, RepAll K H A xs (bs.map D.bl) → xs = bs.map V.bl
  | _, [], h => by cases h; rfl
  | _, n :: ns, h => by
    cases h with
    | cons h r =>
      cases h
      rw [RepAll.bls_of r]; rfl
end
section
variable {X : Cx} {e e2 : Expr} {p pos : Pos} {F : SA}
theorem Ex.len (hm : X.mg "len" = none) (ha : Ar X [e] F) (hg : Gl X "len" := by rfl) (he : starEach [e] X.env = (false, eval e X.env) :: starEach [] X.env := by rfl) : Ex X (.Call (.Name "len" p) [e] [] pos) (bltE lenK F) :=
  Ex.bltB call_len (fun G ρ σ H rs vs ds o Q R w e1 e2 hQ => by
    unfold lenK at e2
    split at e2
    · rename_i x
      obtain ⟨r, v, rfl, rfl, o, er⟩ := ops1 w e1
      split at e2
      · rename_i hz
        cases e2
        exact ⟨.str x, x.length, by rw [o.str R er], ⟨szl hz, rfl⟩, hQ _ _ (post_same R (.int _))⟩
      · cases e2
    · obtain ⟨r, v, rfl, rfl, o, er⟩ := ops1 w e1
      rename_i d _
      cases q : d.seq with
      | none => rw [q] at e2; cases e2
      | some es =>
        rw [q] at e2
        cases e2
        obtain ⟨a, xs, rfl, h, w⟩ := o.seq R er q
        exact ⟨_, _, rfl, h.elim (fun h => .inl ⟨xs, h, w.length.symm⟩) fun h => .inr ⟨xs, h, w.length.symm⟩, hQ _ _ (post_same R (.int _))⟩
    · cases e2) (by decide +kernel) hm ha hg (by decide) (by decide) he rfl
theorem Ex.abs (hm : X.mg "abs" = none) (ha : Ar X [e] F) (hg : Gl X "abs" := by rfl) (he : starEach [e] X.env = (false, eval e X.env) :: starEach [] X.env := by rfl) : Ex X (.Call (.Name "abs" p) [e] [] pos) (bltE absK F) :=
  Ex.bltB call_abs (fun G ρ σ H rs vs ds o Q R w e1 e2 hQ => by
    unfold absK at e2
    split at e2
    · cases e2
      obtain ⟨r, v, rfl, rfl, o, er⟩ := ops1 w e1
      exact ⟨_, by rw [o.int R er], hQ _ _ (post_same R (.int _))⟩
    · cases e2) boot_abs hm ha hg (by decide) (by decide) he rfl
theorem Ex.max2 (hc : X.calm = true) (hm : X.mg "max" = none) (ha : Ar X [e, e2] F) (hg : Gl X "max" := by rfl) (he : starEach [e, e2] X.env = (false, eval e X.env) :: starEach [e2] X.env := by rfl) (hpl : (backTo pos (starEach [e2] X.env)).any (·.1) = false := by rfl) : Ex X (.Call (.Name "max" p) [e, e2] [] pos) (bltE max2K F) :=
  Ex.bltB (call_max2 hc) (fun G ρ σ H rs vs ds o Q R w e1 e2 hQ => by
    unfold max2K at e2
    split at e2
    · cases e2
      obtain ⟨r, v, r', v', rfl, rfl, o, er, o', er'⟩ := ops2 w e1
      exact ⟨_, _, by rw [o.int R er, o'.int R er'], hQ _ _ (post_same R (.int _))⟩
    · cases e2) (by decide +kernel) hm ha hg (by decide) (by decide) he hpl
theorem Ex.min2 (hc : X.calm = true) (hm : X.mg "min" = none) (ha : Ar X [e, e2] F) (hg : Gl X "min" := by rfl) (he : starEach [e, e2] X.env = (false, eval e X.env) :: starEach [e2] X.env := by rfl) (hpl : (backTo pos (starEach [e2] X.env)).any (·.1) = false := by rfl) : Ex X (.Call (.Name "min" p) [e, e2] [] pos) (bltE min2K F) :=
  Ex.bltB (call_min2 hc) (fun G ρ σ H rs vs ds o Q R w e1 e2 hQ => by
    unfold min2K at e2
    split at e2
    · cases e2
      obtain ⟨r, v, r', v', rfl, rfl, o, er, o', er'⟩ := ops2 w e1
      exact ⟨_, _, by rw [o.int R er, o'.int R er'], hQ _ _ (post_same R (.int _))⟩
    · cases e2) (by decide +kernel) hm ha hg (by decide) (by decide) he hpl
theorem Ex.toInt (hm : X.mg "int" = none) (ha : Ar X [e] F) (hg : Gl X "int" := by rfl) (he : starEach [e] X.env = (false, eval e X.env) :: starEach [] X.env := by rfl) : Ex X (.Call (.Name "int" p) [e] [] pos) (bltE intK F) :=
  Ex.bltT call_int1 (fun G ρ σ H rs vs ds o Q R w e1 e2 hQ => by
    unfold intK at e2
    split at e2
    · cases e2
      obtain ⟨r, v, rfl, rfl, o, er⟩ := ops1 w e1
      exact .inl ⟨_, by rw [o.int R er], hQ _ _ (post_same R (.int _))⟩
    · cases e2
      obtain ⟨r, v, rfl, rfl, o, er⟩ := ops1 w e1
      exact .inr ⟨_, by rw [o.bl R er], hQ _ _ (post_same R (.int _))⟩
    · cases e2) boot_int hm ha hg (by decide) (by decide) he rfl
theorem Ex.toTup (hm : X.mg "tuple" = none) (ha : Ar X [e] F) (hg : Gl X "tuple" := by rfl) (he : starEach [e] X.env = (false, eval e X.env) :: starEach [] X.env := by rfl) : Ex X (.Call (.Name "tuple" p) [e] [] pos) (bltE tupK F) :=
  Ex.bltT call_tuple_of (fun G ρ σ H rs vs ds o Q R w e1 e2 hQ => by
    unfold tupK at e2
    split at e2
    · cases e2
      obtain ⟨r, v, rfl, rfl, o, er⟩ := ops1 w e1
      obtain ⟨a, xs, rfl, h, w⟩ := o.tup R er
      exact ⟨a, xs, rfl, .inr ⟨SqT.of h, hQ _ _ (post_same R (.tup h w))⟩⟩
    · cases e2
      obtain ⟨r, v, rfl, rfl, o, er⟩ := ops1 w e1
      obtain ⟨a, xs, rfl, h, w⟩ := o.kt R er
      exact ⟨a, xs, rfl, .inr ⟨.inr h, hQ _ _ (post_same R (.kt h w))⟩⟩
    · obtain ⟨r, v, rfl, rfl, o, er⟩ := ops1 w e1
      rename_i d _ _
      cases q : d.seqL with
      | none => rw [q] at e2; cases e2
      | some es =>
        rw [q] at e2
        cases e2
        obtain ⟨a, xs, rfl, h, w⟩ := o.seqL R er q
        exact ⟨a, xs, rfl, .inl ⟨h, fun l hl => hQ _ _ (post_tup R w hl)⟩⟩
    · cases e2) boot_tuple hm ha hg (by decide) (by decide) he rfl
theorem Ex.toLst (hm : X.mg "list" = none) (ha : Ar X [e] F) (hg : Gl X "list" := by rfl) (he : starEach [e] X.env = (false, eval e X.env) :: starEach [] X.env := by rfl) : Ex X (.Call (.Name "list" p) [e] [] pos) (bltE lstK F) :=
  Ex.bltT call_list_of (fun G ρ σ H rs vs ds o Q R w e1 e2 hQ => by
    unfold lstK at e2
    split at e2
    · obtain ⟨r, v, rfl, rfl, o, er⟩ := ops1 w e1
      rename_i d
      cases q : d.seq with
      | none => rw [q] at e2; cases e2
      | some es =>
        rw [q] at e2
        cases e2
        obtain ⟨a, xs, rfl, h, w⟩ := o.seq R er q
        exact ⟨a, xs, rfl, h, fun l hl => hQ _ _ (post_lst R w hl)⟩
    · cases e2) boot_list hm ha hg (by decide) (by decide) he rfl
theorem Ex.any (hc : X.calm = true) (hm : X.mg "any" = none) (ha : Ar X [e] F) (hg : Gl X "any" := by rfl) (he : starEach [e] X.env = (false, eval e X.env) :: starEach [] X.env := by rfl) : Ex X (.Call (.Name "any" p) [e] [] pos) (bltE anyK F) :=
  Ex.bltB (cr_any hc) (fun G ρ σ H rs vs ds o Q R w e1 e2 hQ => by
    unfold anyK at e2
    split at e2
    · obtain ⟨r, v, rfl, rfl, o, er⟩ := ops1 w e1
      split at e2
      · rename_i ds' q
        cases qb : blsD ds' with
        | none => rw [qb] at e2; cases e2
        | some bs =>
          rw [qb] at e2
          cases e2
          obtain ⟨a, xs, rfl, h, w⟩ := o.seqL R er q
          rw [blsD_eq qb] at w
          have ex := RepAll.bls_of w
          subst ex
          exact ⟨a, bs, rfl, h, hQ _ _ (post_same R (.bl _))⟩
      · cases e2
    · cases e2) (by decide +kernel) hm ha hg (by decide) (by decide) he rfl
theorem Ex.all (hc : X.calm = true) (hm : X.mg "all" = none) (ha : Ar X [e] F) (hg : Gl X "all" := by rfl) (he : starEach [e] X.env = (false, eval e X.env) :: starEach [] X.env := by rfl) : Ex X (.Call (.Name "all" p) [e] [] pos) (bltE allK F) :=
  Ex.bltB (cr_all hc) (fun G ρ σ H rs vs ds o Q R w e1 e2 hQ => by
    unfold allK at e2
    split at e2
    · obtain ⟨r, v, rfl, rfl, o, er⟩ := ops1 w e1
      split at e2
      · rename_i ds' q
        cases qb : blsD ds' with
        | none => rw [qb] at e2; cases e2
        | some bs =>
          rw [qb] at e2
          cases e2
          obtain ⟨a, xs, rfl, h, w⟩ := o.seqL R er q
          rw [blsD_eq qb] at w
          have ex := RepAll.bls_of w
          subst ex
          exact ⟨a, bs, rfl, h, hQ _ _ (post_same R (.bl _))⟩
      · cases e2
    · cases e2) (by decide +kernel) hm ha hg (by decide) (by decide) he rfl
theorem Ex.sum (hc : X.calm = true) (hm : X.mg "sum" = none) (ha : Ar X [e] F) (hg : Gl X "sum" := by rfl) (he : starEach [e] X.env = (false, eval e X.env) :: starEach [] X.env := by rfl) : Ex X (.Call (.Name "sum" p) [e] [] pos) (bltE sumK F) :=
  Ex.bltB (cr_sum hc) (fun G ρ σ H rs vs ds o Q R w e1 e2 hQ => by
    unfold sumK at e2
    split at e2
    · obtain ⟨r, v, rfl, rfl, o, er⟩ := ops1 w e1
      split at e2
      · rename_i ds' q
        cases qb : intsD ds' with
        | none => rw [qb] at e2; cases e2
        | some bs =>
          rw [qb] at e2
          cases e2
          obtain ⟨a, xs, rfl, h, w⟩ := o.seqL R er q
          rw [intsD_eq qb] at w
          have ex := RepAll.ints_of w
          subst ex
          exact ⟨a, bs, rfl, h, hQ _ _ (post_same R (.int _))⟩
      · cases e2
    · cases e2) (by decide +kernel) hm ha hg (by decide) (by decide) he rfl
end

/-! ### ranges made into lists, tuples -/
def rngE (tup : Bool) (F : SA) : SE := fun ρ => match F ρ with
  | some ([.val (.int j)], ρ') => if j ≤ 16000000 ∧ -(2 ^ 62) ≤ j then some (if tup then .val (.tup (rangeD 0 j)) else .new (.lst (rangeD 0 j)), ρ') else none
  | _ => none
def rng2E (tup : Bool) (F : SA) : SE := fun ρ => match F ρ with
  | some ([.val (.int i), .val (.int j)], ρ') => if (0 ≤ i ∧ i ≤ 16000000) ∧ 0 ≤ j ∧ j ≤ 16000000 then some (if tup then .val (.tup (rangeD i j)) else .new (.lst (rangeD i j)), ρ') else none
  | _ => none
section
variable {K : PySem.W.Frag} {H : Hp} {A : Addr → Prop}
theorem rep_rg (i j : Int) : RepAll K H A (rgV i j) (rangeD i j) := by
  have e1 : rgV i j = ((List.range (j - i).toNat).map fun k : Nat => i + (k : Int)).map V.int := by
    unfold rgV
    rw [List.map_map]; rfl
  have e2 : rangeD i j = ((List.range (j - i).toNat).map fun k : Nat => i + (k : Int)).map D.int := by
    unfold rangeD
    rw [List.map_map]; rfl
  rw [e1, e2]
  exact RepAll.ints _
end
section
variable {X : Cx} {a b : Expr} {f g : SE} {F : SA} {pr pos p rpos : Pos}
theorem Ex.lstRng (hc : X.calm = true) (hm : X.mg "list" = none) (hm2 : X.mg "range" = none) (ha : Ex X a f) (hg : Gl X "list" := by rfl) (hg2 : Gl X "range" := by rfl) (na : starEach [a] X.env = (false, eval a X.env) :: starEach [] X.env := by rfl)
    (na2 : starEach [.Call (.Name "range" pr) [a] [] rpos] X.env = (false, eval (.Call (.Name "range" pr) [a] [] rpos) X.env) :: starEach [] X.env := by rfl) :
    Ex X (.Call (.Name "list" p) [.Call (.Name "range" pr) [a] [] rpos] [] pos) (rngE false (consA f nilA)) := PE.imp (pe_listRg hc hg hm (prg_1 hg2 hm2 ha na) na2) fun σ H Q ⟨G, ρ, r, ρ', R, hf, hQ⟩ => by
  unfold rngE at hf
  split at hf
  · rename_i j ρ1 e1
    split at hf
    · rename_i hj
      cases hf
      have e2 : f ρ = some (.val (.int j), ρ') := by
        unfold consA at e1
        split at e1
        · cases e1
        · rename_i r2 ρ2 e3
          simp only [nilA] at e1
          cases e1
          exact e3
      refine ⟨G, ρ, _, ρ', R, e2, fun v H1 P => ?_⟩
      have ev : v = .int j := (P.ok R).int P.rel rfl
      subst ev
      refine ⟨j, rfl, ⟨by omega, by omega, by omega, by omega, by omega⟩, fun q hq => hQ _ _ ?_⟩
      exact PostE.trans P.step P.rel (post_lst P.rel (rep_rg 0 j) hq)
    · cases hf
  · cases hf
theorem Ex.tupRng (hc : X.calm = true) (hm : X.mg "tuple" = none) (hm2 : X.mg "range" = none) (ha : Ex X a f) (hg : Gl X "tuple" := by rfl) (hg2 : Gl X "range" := by rfl) (na : starEach [a] X.env = (false, eval a X.env) :: starEach [] X.env := by rfl)
    (na2 : starEach [.Call (.Name "range" pr) [a] [] rpos] X.env = (false, eval (.Call (.Name "range" pr) [a] [] rpos) X.env) :: starEach [] X.env := by rfl) :
    Ex X (.Call (.Name "tuple" p) [.Call (.Name "range" pr) [a] [] rpos] [] pos) (rngE true (consA f nilA)) := PE.imp (pe_tupRg hc hg hm (prg_1 hg2 hm2 ha na) na2) fun σ H Q ⟨G, ρ, r, ρ', R, hf, hQ⟩ => by
  unfold rngE at hf
  split at hf
  · rename_i j ρ1 e1
    split at hf
    · rename_i hj
      cases hf
      have e2 : f ρ = some (.val (.int j), ρ') := by
        unfold consA at e1
        split at e1
        · cases e1
        · rename_i r2 ρ2 e3
          simp only [nilA] at e1
          cases e1
          exact e3
      refine ⟨G, ρ, _, ρ', R, e2, fun v H1 P => ?_⟩
      have ev : v = .int j := (P.ok R).int P.rel rfl
      subst ev
      refine ⟨j, rfl, ⟨by omega, by omega, by omega, by omega, by omega⟩, fun q hq => hQ _ _ ?_⟩
      exact PostE.trans P.step P.rel (post_tup P.rel (rep_rg 0 j) hq)
    · cases hf
  · cases hf
theorem Ex.tupRng2 (hc : X.calm = true) (hm : X.mg "tuple" = none) (hm2 : X.mg "range" = none) (ha : Ex X a f) (hb : Ex X b g) (hg : Gl X "tuple" := by rfl) (hg2 : Gl X "range" := by rfl) (na : starEach [a, b] X.env = (false, eval a X.env) :: starEach [b] X.env := by rfl)
    (nb : starEach [b] X.env = (false, eval b X.env) :: starEach [] X.env := by rfl) (hp : (backTo rpos (starEach [b] X.env)).any (·.1) = false := by rfl)
    (na2 : starEach [.Call (.Name "range" pr) [a, b] [] rpos] X.env = (false, eval (.Call (.Name "range" pr) [a, b] [] rpos) X.env) :: starEach [] X.env := by rfl) :
    Ex X (.Call (.Name "tuple" p) [.Call (.Name "range" pr) [a, b] [] rpos] [] pos) (rng2E true (consA f (consA g nilA))) := PE.imp (pe_tupRg hc hg hm (prg_2 hg2 hm2 ha hb na nb hp) na2) fun σ H Q ⟨G, ρ, r, ρ', R, hf, hQ⟩ => by
  unfold rng2E at hf
  split at hf
  · rename_i i j ρ1 e1
    split at hf
    · rename_i hj
      cases hf
      have h := consA_elim (K := X.K) (Q := fun vs H' => ∃ v w, vs = [v, w] ∧ v = .int i ∧ w = .int j ∧ Rel X.K G ρ' σ H' ∧ Step ρ σ H ρ' H') ⟨G, ρ, _, ρ', R, e1, fun vs H' S A => by
        obtain ⟨v, w, rfl, o1, o2⟩ := opsOk2 (A.ok R)
        exact ⟨v, w, rfl, o1.int A.rel rfl, o2.int A.rel rfl, A.rel, S⟩⟩
      obtain ⟨G1, ρ1, r1, ρ2, R1, f1, k1⟩ := h
      refine ⟨G1, ρ1, r1, ρ2, R1, f1, fun v H1 P1 => ?_⟩
      obtain ⟨G2, ρ3, r2, ρ4, R2, f2, k2⟩ := consA_elim (k1 v H1 P1)
      refine ⟨G2, ρ3, r2, ρ4, R2, f2, fun w H2 P2 => ?_⟩
      obtain ⟨G3, ρ5, r3, ρ6, R3, f3, k3⟩ := k2 w H2 P2
      cases f3
      obtain ⟨v', w', e, e1', e2', RR, SS⟩ := k3 [] H2 (Step.refl _ _ _) ⟨⟨G3, rfl, fun a => by simp [newsOf], R3, .nil⟩, fun a h => by simp [newsOf] at h, by simp [newsOf]⟩
      cases e
      subst e1' e2'
      refine ⟨i, j, rfl, rfl, RgOk.of_le (by omega) (by omega) (by omega) (by omega), fun q hq => hQ _ _ ?_⟩
      exact PostE.trans SS RR (post_tup RR (rep_rg i j) hq)
    · cases hf
  · cases hf
end
/-! ### isinstance with a built-in type -/
def D.ty : D → String
  | .non => "NoneType"
  | .bl _ => "bool"
  | .int _ => "int"
  | .str _ => "str"
  | .tup _ => "tuple"
  | .kt _ => "tuple"
  | .lst _ => "list"
  | .dic _ _ => "dict"
  | .scr _ => "list"
/-- is this type that one -/
def isT (a T : String) : Bool := a == T || (a == "bool" && T == "int")
def isiE (T : String) (f : SE) : SE := fun ρ => match f ρ with
  | some (r, ρ1) => match res ρ1 r with
    | some d => if d.nd then some (.val (.bl (isT d.ty T)), ρ1) else none
    | none => none
  | none => none
theorem rep_ty {K : PySem.W.Frag} {H : Hp} {A : Addr → Prop} {v : V} {d : D} (h : Rep K H A v d) (hn : d.nd = true) : TyX K H v (.type d.ty) := by
  cases h with
  | non => exact .base .non
  | bl b => exact .base (.bl b)
  | int i => exact .base (.int i)
  | str x => exact .base (.str x)
  | tup h _ => exact .base (.tup h)
  | lst h _ _ => exact .base (.lst h)
  | dk _ _ _ => simp [D.nd] at hn
  | dt _ _ _ => simp [D.nd] at hn
  | kt h _ =>
    obtain ⟨o, its, n, e, c, _⟩ := h
    exact .kTuple e c
  | scr h => simp [D.nd] at hn
theorem kit_is {T : String} (hT : T = "bool" ∨ T = "tuple" ∨ T = "str" ∨ T = "int" ∨ T = "list") (d : D) (hn : d.nd = true) : kitB d.ty T = some (isT d.ty T) := by
  have h : ∀ a ∈ ["NoneType", "bool", "int", "str", "tuple", "list"], ∀ T ∈ ["bool", "tuple", "str", "int", "list"], kitB a T = some (isT a T) := by decide +kernel
  refine h _ ?_ _ (by simpa using hT)
  cases d <;> simp [D.ty, D.nd] at hn ⊢
section
variable {X : Cx} {e : Expr} {f : SE} {p pt pos : Pos} {T : String} {x : Str}
theorem Ex.isi (hm : X.mg "isinstance" = none) (hmT : X.mg x = none) (he : Ex X e f) (hT : T = "bool" ∨ T = "tuple" ∨ T = "str" ∨ T = "int" ∨ T = "list") (hb : bootBuiltins x = some (.type T)) (hxn : x ≠ "__name__") (hxd : (x == ("__debug__" : Str)) = false) (hg : Gl X "isinstance" := by rfl) (hgT : Gl X x := by rfl)
    (hs : starEach [e, .Name x pt] X.env = (false, eval e X.env) :: starEach [.Name x pt] X.env := by rfl) (hs2 : starEach [.Name x pt] X.env = (false, eval (.Name x pt) X.env) :: starEach [] X.env := by rfl) (hpl : (backTo pos (starEach [.Name x pt] X.env)).any (·.1) = false := by rfl) :
    Ex X (.Call (.Name "isinstance" p) [e, .Name x pt] [] pos) (isiE T f) := PE.imp (pe_callB call_isi hg hm boot_isinstance (pa_cons he (pa_cons (pe_bltn (v := .ty T) hgT hmT hb rfl hxn hxd) pa_nil hs2) hs) (by decide) (by decide) hs hpl) fun σ H Q ⟨G, ρ, r, ρ', R, hf, hQ⟩ => by
  unfold isiE at hf
  split at hf
  · rename_i r1 ρ1 e1
    split at hf
    · rename_i d e2
      split at hf
      · rename_i hn
        cases hf
        refine ⟨G, ρ, r1, ρ', R, e1, fun v H1 P => ?_⟩
        have rp := (P.ok R).rep P.rel e2
        exact ⟨v, .ty T, _, _, isT d.ty T, rfl, .ty T, rep_ty rp hn, kit_ty (kit_is hT d hn), hQ _ _ (PostE.trans P.step P.rel (post_same P.rel (.bl _)))⟩
      · cases hf
    · cases hf
  · cases hf
end
end Mi

/-! sorted(..). -/
namespace Mi
open PySem PySem.Spec
open PyProof.Rows hiding St
open L2

/-- the order of data -/
def leD : D → D → Bool := PySem.W.dataLe false D.py
def sortL (ds : List D) : List D := ds.mergeSort leD
def D.fullT : D → Bool
  | .tup (_ :: _) => true
  | .kt (_ :: _) => true
  | _ => false
def D.noT : D → Bool
  | .tup _ => false
  | .kt _ => false
  | .non => false
  | _ => true
/-- such data can be sorted -/
def sortB (ds : List D) : Bool := (ds.all fun a => ds.all fun b => PySem.W.alike a.py b.py) && (ds.all D.fullT || ds.all D.noT) && ds.all (fun d => d.nd && decide (d.py.depth ≤ 40)) && decide (ds.length ≤ 16000000)
theorem fullT_py {d : D} (h : d.fullT = true) : ∃ x r, d.py = .tuple (x :: r) := by
  cases d with
  | tup xs =>
    cases xs with
    | nil => cases h
    | cons x xs => exact ⟨_, _, by rw [D.py, D.pyAll]⟩
  | kt xs =>
    cases xs with
    | nil => cases h
    | cons x xs => exact ⟨_, _, by rw [D.py, D.pyAll]⟩
  | _ => cases h
theorem noT_py {d : D} (h : d.noT = true) : d.py ≠ .none ∧ ∀ xs, d.py ≠ .tuple xs := by
  cases d <;> first | (cases h; done) | (refine ⟨?_, fun xs => ?_⟩ <;> simp [D.py])
theorem sortB_of {ds : List D} (h : sortB ds = true) : PySem.W.AllAlike (ds.map D.py) ∧ PySem.W.Sortable (ds.map D.py) ∧ (∀ d ∈ ds, d.nd = true ∧ d.py.depth ≤ 40) ∧ ds.length ≤ 16000000 := by
  unfold sortB at h
  simp only [Bool.and_eq_true, Bool.or_eq_true, List.all_eq_true, decide_eq_true_eq] at h
  obtain ⟨⟨⟨h1, h2⟩, h3⟩, h4⟩ := h
  refine ⟨fun a ha b hb => ?_, ?_, h3, h4⟩
  · obtain ⟨x, hx, rfl⟩ := List.mem_map.mp ha
    obtain ⟨y, hy, rfl⟩ := List.mem_map.mp hb
    exact h1 x hx y hy
  · rcases h2 with h2 | h2
    · refine .inl fun a ha => ?_
      obtain ⟨x, hx, rfl⟩ := List.mem_map.mp ha
      exact fullT_py (h2 x hx)
    · refine .inr fun a ha => ?_
      obtain ⟨x, hx, rfl⟩ := List.mem_map.mp ha
      exact noT_py (h2 x hx)
/-- sorted(xs) of data -/
def rSortD (K : PySem.W.Frag) : List V → Hp → VK → Prop := fun vs H Q => ∃ (a : Addr) (xs : List V) (ds : List D) (A : Addr → Prop), vs = [.ref a] ∧ SqL K H a xs ∧ RepAll K H A xs ds ∧ sortB ds = true ∧
  ∀ (ys : List V) (p : Addr), RepAll K H A ys (sortL ds) → H p = none → Q (.ref p) (upd H p (.lst ys))
def IsD (K : PySem.W.Frag) (H : Hp) (A : Addr → Prop) (u : Value) (d : D) : Prop := ∃ v, RelV v u ∧ Rep K H A v d
theorem each_of {K : PySem.W.Frag} {H : Hp} {A : Addr → Prop} : ∀ {vs : List V} {us : List Value} {ds : List D}, Vals vs us → RepAll K H A vs ds → PySem.W.EachIs (IsD K H A) us ds
  | _, _, _, .nil, .nil => .nil
  | _, _, _, .cons r t, .cons h w => .cons ⟨_, r, h⟩ (each_of t w)
theorem of_each {K : PySem.W.Frag} {H : Hp} {A : Addr → Prop} : ∀ {us : List Value} {ds : List D}, PySem.W.EachIs (IsD K H A) us ds → ∃ vs, Vals vs us ∧ RepAll K H A vs ds
  | _, _, .nil => ⟨[], .nil, .nil⟩
  | _, _, .cons ⟨v, r, h⟩ t => by
    obtain ⟨vs, t', w⟩ := of_each t
    exact ⟨v :: vs, .cons r t', .cons h w⟩
section
variable {X : Cx}
theorem each_reads {pins : List (Addr × Obj)} {σ : St} {H : Hp} {s : Shared} {A : Addr → Prop} (I : Inv X pins σ H s) : ∀ {us : List Value} {ds : List D}, (∀ d ∈ ds, d.nd = true) → PySem.W.EachIs (IsD X.K H A) us ds → PySem.W.EachIs (fun v b => ∃ as, Reads s.heap v (D.py b) as) us ds
  | _, _, _, .nil => .nil
  | _, _, h, .cons ⟨v, r, w⟩ t => .cons (Dp.reads I _ _ _ (w.dp (h _ List.mem_cons_self)) r) (each_reads I (fun d hd => h d (List.mem_cons_of_mem _ hd)) t)
theorem cr_sortedD (hu : X.A.units + 64 < cLine) : CallR X (.builtin "sorted") (rSortD X.K) := by
  intro pins s σ H vs us Q I r h
  obtain ⟨a, xs, ds, A, rfl, hs, w, hB, q⟩ := h
  obtain ⟨its, rv, hl, hz⟩ := I.list hs
  rw [Vals.ref1 r]
  obtain ⟨h1, h2, h3, h4⟩ := sortB_of hB
  have e := each_of rv w
  refine PySem.W.sorted_data (enc := D.py) (R := IsD X.K H A) hl.isList e (each_reads I (fun d hd => (h3 d hd).1) e) h1 h2 (szl h4) (fun b hb => ?_) fun out hlen eo => ?_
  · have := (h3 b hb).2
    omega
  · obtain ⟨ys, ry, wy⟩ := of_each eo
    obtain ⟨ep, he'⟩ := PyProof.Rows.sortedAll_at s.heap its out.toArray
    have hlen' : ys.length ≤ sizeLine := by
      rw [ry.length, hlen]
      exact szl h4
    exact ⟨.ref _, upd H (s.heap.objs.size + 1) (.lst ys), I.laid (t' := s.toks) (fun _ _ => PyProof.Rows.sortedAll_old) (Nat.le_succ _) ⟨hlen', out, ep, ry, he'⟩, rfl, q _ _ wy (I.hok.fresh (Nat.le_succ _))⟩
variable {e : Expr} {p pos p2 pos2 : Pos} {F : SA} {f : SE}
def sortK : List D → Option Opd
  | [d] => match d.seqL with
    | some ds => if sortB ds then some (.new (.lst (sortL ds))) else none
    | none => none
  | _ => none
theorem Ex.sorted (hu : X.A.units + 64 < cLine) (hm : X.mg "sorted" = none) (ha : Ar X [e] F) (hg : Gl X "sorted" := by rfl) (he : starEach [e] X.env = (false, eval e X.env) :: starEach [] X.env := by rfl) : Ex X (.Call (.Name "sorted" p) [e] [] pos) (bltE sortK F) :=
  Ex.bltB (cr_sortedD hu) (fun G ρ σ H rs vs ds o Q R w e1 e2 hQ => by
    unfold sortK at e2
    split at e2
    · obtain ⟨r, v, rfl, rfl, o, er⟩ := ops1 w e1
      split at e2
      · rename_i ds' q
        split at e2
        · rename_i hb
          cases e2
          obtain ⟨a, xs, rfl, h, w⟩ := o.seqL R er q
          exact ⟨a, xs, ds', _, rfl, h, w, hb, fun ys p wy hp => hQ _ _ (post_lst R wy hp)⟩
        · cases e2
      · cases e2
    · cases e2) boot_sorted hm ha hg (by decide) (by decide) he rfl
/-! ### sorted(set(t)), t a tuple of ints -/
def rSetTI (K : PySem.W.Frag) (w : World) : List V → Hp → VK → Prop := fun xs H Q => ∃ (a : Addr) (ns : List Int), xs = [.ref a] ∧ SqT K H a (ns.map V.int) ∧ ns.length < 60 ∧
  ∀ p c, H p = none → c ≤ ns.length → Q (.ref p) (upd H p (SetO w p (fun j => decide (j ∈ ns)) c))
theorem cr_setTI (hc : X.calm = true) : CallR X (.type "set") (rSetTI X.K X.w) := by
  intro pins s σ H xs us Q I r h
  obtain ⟨a, ns, rfl, ht, hn, q⟩ := h
  rw [Vals.ref1 r]
  obtain ⟨its, rv, pt, hz⟩ := I.tuple ht
  refine call_set_tupI (P := X.prog) (w := X.w) ns (I.ok.hd hc) pt (by simpa using rv.ints) (Nat.lt_of_le_of_lt (show ns.length + 1 ≤ 60 by omega) (by decide)) fun h' tk c new hcl k => ?_
  exact ⟨.ref s.heap.objs.size, upd H s.heap.objs.size (SetO X.w s.heap.objs.size (fun j => decide (j ∈ ns)) c), I.laid (t' := tk) k (Nat.le_refl _) (setO_new new), rfl, q _ c (I.hok.fresh (Nat.le_refl _)) hcl⟩
/-- the members once each, rising -/
def insU (x : Int) : List Int → List Int
  | [] => [x]
  | y :: ys => if x < y then x :: y :: ys else if x = y then y :: ys else y :: insU x ys
def uniqI (ns : List Int) : List Int := ns.foldr insU []
theorem mem_insU {x k : Int} : ∀ {l : List Int}, k ∈ insU x l ↔ k = x ∨ k ∈ l
  | [] => by simp [insU]
  | y :: ys => by
    unfold insU
    split
    · simp
    · split
      · rename_i h
        subst h
        simp
      · rw [List.mem_cons, mem_insU, List.mem_cons]
        constructor
        · rintro (h | h | h)
          · exact .inr (.inl h)
          · exact .inl h
          · exact .inr (.inr h)
        · rintro (h | h | h)
          · exact .inr (.inl h)
          · exact .inl h
          · exact .inr (.inr h)
theorem insU_lt {x : Int} : ∀ {l : List Int}, l.Pairwise (· < ·) → (insU x l).Pairwise (· < ·)
  | [], _ => by simp [insU]
  | y :: ys, h => by
    unfold insU
    rw [List.pairwise_cons] at h
    split
    · rename_i hx
      refine List.pairwise_cons.mpr ⟨fun z hz => ?_, List.pairwise_cons.mpr h⟩
      rcases List.mem_cons.mp hz with rfl | hz
      · exact hx
      · exact Int.lt_trans hx (h.1 z hz)
    · split
      · exact List.pairwise_cons.mpr h
      · refine List.pairwise_cons.mpr ⟨fun z hz => ?_, insU_lt h.2⟩
        rcases mem_insU.mp hz with rfl | hz
        · omega
        · exact h.1 z hz
theorem mem_uniqI {k : Int} : ∀ {ns : List Int}, k ∈ uniqI ns ↔ k ∈ ns
  | [] => by simp [uniqI]
  | n :: ns => by
    show k ∈ insU n (uniqI ns) ↔ _
    rw [mem_insU, mem_uniqI, List.mem_cons]
theorem uniqI_lt : ∀ {ns : List Int}, (uniqI ns).Pairwise (· < ·)
  | [] => by simp [uniqI]
  | n :: ns => insU_lt uniqI_lt
theorem rising_eq : ∀ {l m : List Int}, l.Pairwise (· < ·) → m.Pairwise (· < ·) → (∀ k : Int, k ∈ l ↔ k ∈ m) → l = m
  | [], [], _, _, _ => rfl
  | [], b :: _, _, _, h => by have := (h b).mpr List.mem_cons_self; cases this
  | a :: _, [], _, _, h => by have := (h a).mp List.mem_cons_self; cases this
  | a :: l, b :: m, h1, h2, h => by
    rw [List.pairwise_cons] at h1 h2
    have ab : a = b := by
      rcases List.mem_cons.mp ((h a).mp List.mem_cons_self) with z | z
      · exact z
      · rcases List.mem_cons.mp ((h b).mpr List.mem_cons_self) with y | y
        · exact y.symm
        · have := h1.1 b y
          have := h2.1 a z
          omega
    subst ab
    congr 1
    refine rising_eq h1.2 h2.2 fun k => ?_
    constructor
    · intro hk
      rcases List.mem_cons.mp ((h k).mp (List.mem_cons_of_mem _ hk)) with z | z
      · subst z
        exact absurd (h1.1 _ hk) (by omega)
      · exact z
    · intro hk
      rcases List.mem_cons.mp ((h k).mpr (List.mem_cons_of_mem _ hk)) with z | z
      · subst z
        exact absurd (h2.1 _ hk) (by omega)
      · exact z
def sortSetE (f : SE) : SE := fun ρ => match f ρ with
  | some (r, ρ1) => match res ρ1 r with
    | some (.tup ds) => (match intsD ds with
      | some ns => if ns.length < 60 then some (.new (.lst ((uniqI ns).map .int)), ρ1) else none
      | none => none)
    | _ => none
  | none => none
theorem Ex.sortedSet (hc : X.calm = true) (hm : X.mg "sorted" = none) (hm2 : X.mg "set" = none) (he : Ex X e f) (hg : Gl X "sorted" := by rfl) (hg2 : Gl X "set" := by rfl) (hs : starEach [e] X.env = (false, eval e X.env) :: starEach [] X.env := by rfl)
    (hs2 : starEach [.Call (.Name "set" p2) [e] [] pos2] X.env = (false, eval (.Call (.Name "set" p2) [e] [] pos2) X.env) :: starEach [] X.env := by rfl) :
    Ex X (.Call (.Name "sorted" p) [.Call (.Name "set" p2) [e] [] pos2] [] pos) (sortSetE f) :=
  PE.imp (pe_callB (cr_sortedSet hc) hg hm boot_sorted (pa_cons (pe_callTy (cr_setTI hc) hg2 hm2 boot_set (pa_cons he pa_nil hs) (by decide) (by decide) hs rfl) pa_nil hs2) (by decide) (by decide) hs2 rfl) fun σ H Q ⟨G, ρ, r, ρ', R, hf, hQ⟩ => by
    unfold sortSetE at hf
    split at hf
    · rename_i r1 ρ1 e1
      split at hf
      · rename_i ds e2
        split at hf
        · rename_i ns e3
          split at hf
          · rename_i hn
            cases hf
            refine ⟨G, ρ, r1, ρ', R, e1, fun v H1 P => ?_⟩
            obtain ⟨a, xs, rfl, h, w⟩ := (P.ok R).tup P.rel e2
            rw [intsD_eq e3] at w
            have ex := RepAll.ints_of w
            subst ex
            refine ⟨a, ns, rfl, SqT.of h, hn, fun p c hp hcl => ⟨p, _, c, rfl, upd_same, by omega, fun ms q h1 h2 h3 hq => ?_⟩⟩
            have em : ms = uniqI ns := rising_eq h1 uniqI_lt fun k => by
              rw [h2 k, mem_uniqI]
              simp
            subst em
            have R2 : Rel X.K G ρ' σ (L2.upd H1 p (SetO X.w p (fun j => decide (j ∈ ns)) c)) := P.rel.upd hp
            have S2 : Step ρ σ H ρ' (L2.upd H1 p (SetO X.w p (fun j => decide (j ∈ ns)) c)) := P.step.trans (step_upd hp)
            exact hQ _ _ (PostE.trans S2 R2 (post_lst R2 (RepAll.ints _) hq))
          · cases hf
        · cases hf
      · cases hf
    · cases hf
end
end Mi

/-! list(zip(a, b)) of two tuples. -/
namespace MiZ
open PySem PySem.W
open PySem.Sem (wp)
section
variable {prog : Program} {w : World} {A : Around} {E : Value → Shared → Prop} {s : Shared}

theorem heldT_item {z TI TO T i1 i2 l1 l2 : Addr} {f : Bool} {oT : Obj} {k1 k2 : Nat} {xs ys : Array Value} {x y : Value} {Q : Value → Shared → Prop} (ap : ZipApart z TI TO i1 i2 l1 l2)
    (gz : IsZipHeld s.heap z TI TO T f) (gT : s.heap.get? T = some oT) (gTI : IsPair s.heap TI (.ref i1) (.ref i2))
    (g1 : s.heap.IsTupleIter i1 l1 k1) (g2 : s.heap.IsTupleIter i2 l2 k2) (gl1 : s.heap.IsTuple l1 xs) (gl2 : s.heap.IsTuple l2 ys) (ex : xs[k1]? = some x) (ey : ys[k2]? = some y)
    (fin : ∀ h', IsZipHeld h' z TI TO T true → h'.IsTupleIter i1 l1 (k1 + 1) → h'.IsTupleIter i2 l2 (k2 + 1) → IsPair h' s.heap.objs.size x y → h'.objs.size = s.heap.objs.size + 1 →
      (∀ c o, c ≠ z → c ≠ i1 → c ≠ i2 → s.heap.get? c = some o → h'.get? c = some o) → Q (.ref s.heap.objs.size) { s with heap := h' }) :
    wpAny (model prog w) A (Builtin.«zip.__next__» ⟨[.ref z], []⟩) (fun fin s' => ∃ v, fin = .done (.ret v) ∧ Q v s') E s := by
  show wpAny _ _ (field (.ref z) 2 >>= _) _ _ _
  refine wpAny_bind (wpAny_field gz rfl (x := .bool false) rfl ?_)
  show wpAny _ _ (field (.ref z) 3 >>= _) _ _ _
  refine wpAny_bind (wpAny_field gz rfl (x := .ref TI) rfl ?_)
  refine wpAny_bind (wpAny_seqItems gTI rfl ?_)
  show wpAny _ _ (Builtin.SmallTypes.ownedTupleIsFree (.ref z) >>= _) _ _ _
  refine wpAny_bind (wpAny_tupleHeld_zip gz gT fun ha gza sa => ?_)
  simp only [Bool.false_eq_true, if_false]
  refine wpAny_bind ?_
  rw [← Array.forIn_toList]
  simp only [List.forIn_cons, List.forIn_nil]
  refine wpAny_bind (wpAny_bind (wpAny_holding ?_))
  show wpAny _ _ (Builtin.SmallTypes.nextOf (.ref i1) >>= _) _ _ _
  refine wpAny_bind (RZ.nextOf_tuple_item (s := { s with heap := ha }) (g1.extBut sa.extBut ap.i1z) (gl1.extBut sa.extBut ap.l1z) ex fun hb g1b sb => wpAny_pure ?_)
  refine wpAny_pure ?_
  refine wpAny_bind (wpAny_bind (wpAny_holding ?_))
  show wpAny _ _ (Builtin.SmallTypes.nextOf (.ref i2) >>= _) _ _ _
  refine wpAny_bind (RZ.nextOf_tuple_item (s := { s with heap := hb }) ((g2.extBut sa.extBut ap.i2z).extBut sb.extBut ap.i12.symm) ((gl2.extBut sa.extBut ap.l2z).extBut sb.extBut ap.l2i1) ey fun hc g2c sc => wpAny_pure ?_)
  refine wpAny_pure (wpAny_pure ?_)
  show wpAny _ _ (newTuple [x, y] >>= _) _ _ _
  refine wpAny_bind (wpAny_newTuple ?_)
  have sz : hc.objs.size = s.heap.objs.size := by rw [sc.1, sb.1, sa.1]
  have gzc : IsZipHeld hc z TI TO T true := sc.extBut _ _ ap.i2z.symm (sb.extBut _ _ ap.i1z.symm gza)
  have kp : ∀ c o, c ≠ z → c ≠ i1 → c ≠ i2 → s.heap.get? c = some o → hc.get? c = some o := fun c o n1 n2 n3 e => sc.extBut _ _ n3 (sb.extBut _ _ n2 (sa.extBut _ _ n1 e))
  have g1c : hc.IsTupleIter i1 l1 (k1 + 1) := g1b.extBut sc.extBut ap.i12
  refine wpAny_pure ⟨_, rfl, ?_⟩
  show Q (.ref hc.objs.size) _
  have gp : IsPair (hc.push { cls := .type "tuple", data := .seq #[x, y] }) hc.objs.size x y := Heap.get?_push_size _ rfl
  have gs : (hc.push { cls := .type "tuple", data := .seq #[x, y] }).objs.size = hc.objs.size + 1 := Heap.size_push ..
  rw [sz] at gp gs ⊢
  exact fin _ (Heap.get?_push_of_some _ gzc) (g1c.at fun o e => Heap.get?_push_of_some _ e) (g2c.at fun o e => Heap.get?_push_of_some _ e) gp gs fun c o n1 n2 n3 e => Heap.get?_push_of_some _ (kp c o n1 n2 n3 e)

theorem heldT_end {z TI TO T i1 i2 l1 l2 : Addr} {f : Bool} {oT : Obj} {k1 k2 : Nat} {xs ys : Array Value} {Q : Fin → Shared → Prop} (hh : A.handled = none) (ap : ZipApart z TI TO i1 i2 l1 l2)
    (gz : IsZipHeld s.heap z TI TO T f) (gT : s.heap.get? T = some oT) (gTI : IsPair s.heap TI (.ref i1) (.ref i2))
    (g1 : s.heap.IsTupleIter i1 l1 k1) (g2 : s.heap.IsTupleIter i2 l2 k2) (gl1 : s.heap.IsTuple l1 xs) (gl2 : s.heap.IsTuple l2 ys) (over : xs[k1]? = none ∨ ys[k2]? = none)
    (fin : ∀ h' e, (∀ c o, c ≠ z → c ≠ i1 → c ≠ i2 → s.heap.get? c = some o → h'.get? c = some o) → (∃ o, h'.get? e = some o ∧ o.cls = .type "StopIteration") → E (.ref e) { s with heap := h' }) :
    wpAny (model prog w) A (Builtin.«zip.__next__» ⟨[.ref z], []⟩) Q E s := by
  show wpAny _ _ (field (.ref z) 2 >>= _) _ _ _
  refine wpAny_bind (wpAny_field gz rfl (x := .bool false) rfl ?_)
  show wpAny _ _ (field (.ref z) 3 >>= _) _ _ _
  refine wpAny_bind (wpAny_field gz rfl (x := .ref TI) rfl ?_)
  refine wpAny_bind (wpAny_seqItems gTI rfl ?_)
  show wpAny _ _ (Builtin.SmallTypes.ownedTupleIsFree (.ref z) >>= _) _ _ _
  refine wpAny_bind (wpAny_tupleHeld_zip gz gT fun ha gza sa => ?_)
  simp only [Bool.false_eq_true, if_false]
  refine wpAny_bind ?_
  rw [← Array.forIn_toList]
  simp only [List.forIn_cons, List.forIn_nil]
  refine wpAny_bind (wpAny_bind (wpAny_holding ?_))
  show wpAny _ _ (Builtin.SmallTypes.nextOf (.ref i1) >>= _) _ _ _
  cases ex : xs[k1]? with
  | none =>
    refine wpAny_bind (RZ.nextOf_tuple_end (s := { s with heap := ha }) hh (g1.extBut sa.extBut ap.i1z) (gl1.extBut sa.extBut ap.l1z) ex fun hb e sb he => ?_)
    exact fin hb e (fun c o n1 n2 _ q => sb _ _ n2 (sa.extBut _ _ n1 q)) he
  | some x =>
    have ey : ys[k2]? = none := by
      rcases over with q | q
      · rw [ex] at q; cases q
      · exact q
    refine wpAny_bind (RZ.nextOf_tuple_item (s := { s with heap := ha }) (g1.extBut sa.extBut ap.i1z) (gl1.extBut sa.extBut ap.l1z) ex fun hb g1b sb => wpAny_pure ?_)
    refine wpAny_pure ?_
    refine wpAny_bind (wpAny_bind (wpAny_holding ?_))
    show wpAny _ _ (Builtin.SmallTypes.nextOf (.ref i2) >>= _) _ _ _
    refine wpAny_bind (RZ.nextOf_tuple_end (s := { s with heap := hb }) hh ((g2.extBut sa.extBut ap.i2z).extBut sb.extBut ap.i12.symm) ((gl2.extBut sa.extBut ap.l2z).extBut sb.extBut ap.l2i1) ey fun hc e sc he => ?_)
    exact fin hc e (fun c o n1 n2 n3 q => sc _ _ n3 (sb.extBut _ _ n2 (sa.extBut _ _ n1 q))) he

/-- how a zip stands while its items are gathered -/
structure ZS (h : Heap) (z TI TO i1 i2 l1 l2 : Addr) (k : Nat) : Prop where
  zip : (IsZip h z TI TO .none ∧ ∃ x y, IsPair h TO x y) ∨ ∃ T f oT, IsZipHeld h z TI TO T f ∧ h.get? T = some oT ∧ (∃ its n, oT.data = .seq its n) ∧ oT.cls = .type "tuple"
  ti : IsPair h TI (.ref i1) (.ref i2)
  a : h.IsTupleIter i1 l1 k
  b : h.IsTupleIter i2 l2 k
theorem zs_item {z TI TO i1 i2 l1 l2 : Addr} {k : Nat} {xs ys : Array Value} {x y : Value} {Q : Option Value → Shared → Prop} (ap : ZipApart z TI TO i1 i2 l1 l2) (st : ZS s.heap z TI TO i1 i2 l1 l2 k)
    (gl1 : s.heap.IsTuple l1 xs) (gl2 : s.heap.IsTuple l2 ys) (ex : xs[k]? = some x) (ey : ys[k]? = some y)
    (fin : ∀ h', ZS h' z TI TO i1 i2 l1 l2 (k + 1) → IsPair h' s.heap.objs.size x y → h'.objs.size = s.heap.objs.size + 1 →
      (∀ c o, c ≠ z → c ≠ TO → c ≠ i1 → c ≠ i2 → s.heap.get? c = some o → h'.get? c = some o) → Q (some (.ref s.heap.objs.size)) { s with heap := h' }) :
    wpAny (model prog w) A (pyNext (.ref z)) Q E s := by
  rcases st.zip with ⟨gz, u, v, gTO⟩ | ⟨T, f, oT, gz, gT, gd, gc⟩
  · refine RZ.pyNext_zipT_item ap gz st.ti gTO st.a st.b gl1 gl2 ex ey fun h' q1 q2 q3 q4 q5 q6 q7 => ?_
    exact fin h' ⟨.inr ⟨s.heap.objs.size, false, _, q1, q5, ⟨_, _, rfl⟩, rfl⟩, q7 TI _ ap.TIz ap.TITO ap.TIi1 ap.TIi2 st.ti, q3, q4⟩ q5 q6 q7
  · have ty : s.TypeIs (.ref z) "zip" := ⟨_, gz, rfl⟩
    unfold pyNext
    refine wpAny_bind (wpAny_attempt (wpAny_callSpecial?_slot (name := Str.ofString "__next__") ty F.slot_zip_next
      (wpAny_call_entry F.slot_zip_next ty F.entry_zip_next (heldT_item ap gz gT st.ti st.a st.b gl1 gl2 ex ey fun h' q1 q3 q4 q5 q6 q7 => ?_) (F.args_zip_next_1 _))))
    refine wpAny_pure (fin h' ⟨.inr ⟨T, true, oT, q1, q7 T _ ?_ ?_ ?_ gT, gd, gc⟩, q7 TI _ ap.TIz ap.TIi1 ap.TIi2 st.ti, q3, q4⟩ q5 q6 fun c o n1 _ n3 n4 e => q7 c o n1 n3 n4 e)
    · rintro rfl
      rw [gz] at gT
      cases gT
      exact absurd (show Value.type "zip" = Value.type "tuple" from gc) (by decide)
    · rintro rfl
      obtain ⟨o1, e1, c1, _⟩ := st.a
      rw [e1] at gT
      cases gT
      rw [gc] at c1
      exact absurd c1 (by decide)
    · rintro rfl
      obtain ⟨o1, e1, c1, _⟩ := st.b
      rw [e1] at gT
      cases gT
      rw [gc] at c1
      exact absurd c1 (by decide)
theorem zs_end {z TI TO i1 i2 l1 l2 : Addr} {k : Nat} {xs ys : Array Value} {Q : Option Value → Shared → Prop} (hh : A.handled = none) (ap : ZipApart z TI TO i1 i2 l1 l2) (st : ZS s.heap z TI TO i1 i2 l1 l2 k)
    (gl1 : s.heap.IsTuple l1 xs) (gl2 : s.heap.IsTuple l2 ys) (over : xs[k]? = none ∨ ys[k]? = none)
    (fin : ∀ h', (∀ c o, c ≠ z → c ≠ TO → c ≠ i1 → c ≠ i2 → s.heap.get? c = some o → h'.get? c = some o) → Q none { s with heap := h' }) :
    wpAny (model prog w) A (pyNext (.ref z)) Q E s := by
  rcases st.zip with ⟨gz, u, v, gTO⟩ | ⟨T, f, oT, gz, gT, gd, gc⟩
  · exact RZ.pyNext_zipT_end hh ap gz st.ti gTO st.a st.b gl1 gl2 over fin
  · have ty : s.TypeIs (.ref z) "zip" := ⟨_, gz, rfl⟩
    unfold pyNext
    refine wpAny_bind (wpAny_attempt (wpAny_callSpecial?_slot (name := Str.ofString "__next__") ty F.slot_zip_next
      (wpAny_call_entry F.slot_zip_next ty F.entry_zip_next (heldT_end hh ap gz gT st.ti st.a st.b gl1 gl2 over fun h' e kp he => ?_) (F.args_zip_next_1 _))))
    obtain ⟨o, ho, hc⟩ := he
    refine wpAny_bind (wpAny_isInstance (T := "StopIteration") (b := true) ⟨o, ho, hc⟩ isSubtype_stop ?_)
    exact wpAny_pure (fin _ fun c o n1 _ n3 n4 e => kp c o n1 n3 n4 e)
end
/-- the pairs that lie at the addresses -/
structure PairsAt (xs ys : Array Value) (lo : Addr) (h : Heap) (as : List Addr) : Prop where
  rise : as.Pairwise (· < ·)
  above : ∀ a ∈ as, lo < a
  pairs : ∀ (j : Nat) (a : Addr), as[j]? = some a → ∃ x y, xs[j]? = some x ∧ ys[j]? = some y ∧ h.get? a = some { cls := .type "tuple", data := .seq #[x, y] }
theorem PairsAt.there {xs ys : Array Value} {lo : Addr} {h : Heap} {as : List Addr} (g : PairsAt xs ys lo h as) {a : Addr} (ha : a ∈ as) : a < h.objs.size := by
  obtain ⟨j, hj⟩ := List.mem_iff_getElem?.mp ha
  obtain ⟨_, _, _, _, e⟩ := g.pairs j a hj
  exact Heap.lt_size e
theorem len_zip : typeLookup (.type "zip") "__len__" = pure none := am_miss_of_fast (by decide +kernel)
theorem hint_zip : typeLookup (.type "zip") "__length_hint__" = pure none := am_miss_of_fast (by decide +kernel)
section
variable {prog : Program} {w : World} {A : Around} {s : Shared} {R : Result → Shared → Prop} {xs ys : Array Value}
theorem z_loop {S z TI TO i1 i2 l1 l2 : Addr} (hh : A.handled = none) (ap : ZipApart z TI TO i1 i2 l1 l2) (b1 : z < S) (b2 : TI < S) (b3 : TO < S) (b4 : i1 < S) (b5 : i2 < S) (b6 : l1 ≠ S) (b7 : l2 ≠ S) (hn : min xs.size ys.size ≤ sizeLine) (res : Value) {h₁ : Heap}
    (fin : ∀ h' tk acc c as, (∀ b o, b ≠ S → b ≠ z → b ≠ TO → b ≠ i1 → b ≠ i2 → h₁.get? b = some o → h'.get? b = some o) → h'.get? S = some { cls := .type "list", dict := none, data := .seq acc c, slots := #[] } → as.length = min xs.size ys.size → PairsAt xs ys S h' as →
      acc.toList = as.map Value.ref → R (.ok (.ret res)) { s with heap := h', toks := tk }) :
    ∀ (k i : Nat) (h : Heap) (tk c : Nat) (acc : Array Value) (as : List Addr), min xs.size ys.size - i = k → i ≤ min xs.size ys.size → ZS h z TI TO i1 i2 l1 l2 i → h.IsTuple l1 xs → h.IsTuple l2 ys → (∀ b o, b ≠ S → b ≠ z → b ≠ TO → b ≠ i1 → b ≠ i2 → h₁.get? b = some o → h.get? b = some o) →
      h.get? S = some { cls := .type "list", dict := none, data := .seq acc c, slots := #[] } → acc.toList = as.map Value.ref → as.length = i → PairsAt xs ys S h as →
      codeAny (model prog w) A (.builtin "list.extend.loop" ⟨[.ref S, .ref z, res], []⟩) R { s with heap := h, toks := tk } := by
  have nz : S ≠ z := Nat.ne_of_gt b1
  have nTO : S ≠ TO := Nat.ne_of_gt b3
  have n1 : S ≠ i1 := Nat.ne_of_gt b4
  have n2 : S ≠ i2 := Nat.ne_of_gt b5
  intro k
  induction k with
  | zero =>
    intro i h tk c acc as ek hi st gl1 gl2 kp gS ea el gp
    refine codeAny_builtin PySem.F.entry_extend_loop ?_
    rw [Around.under_plainId PySem.F.plain_extend_loop _]
    show wpAny _ A.in1 (pyNext (.ref z) >>= _) _ _ _
    have over : xs[i]? = none ∨ ys[i]? = none := by
      by_cases q : xs.size ≤ i
      · exact .inl (Array.getElem?_eq_none q)
      · exact .inr (Array.getElem?_eq_none (by omega))
    refine wpAny_bind (zs_end (s := { s with heap := h, toks := tk }) (A := A.in1) hh ap st gl1 gl2 over fun h' k' => ?_)
    refine wpAny_pure (fin h' tk acc c as (fun b o q1 q2 q3 q4 q5 e => k' b o q2 q3 q4 q5 (kp b o q1 q2 q3 q4 q5 e)) (k' S _ nz nTO n1 n2 gS) (by omega) ⟨gp.rise, gp.above, fun j a hj => ?_⟩ ea)
    obtain ⟨x, y, e1, e2, e3⟩ := gp.pairs j a hj
    have ha := gp.above a (List.mem_of_getElem? hj)
    exact ⟨x, y, e1, e2, k' a _ (Nat.ne_of_gt (Nat.lt_trans b1 ha)) (Nat.ne_of_gt (Nat.lt_trans b3 ha)) (Nat.ne_of_gt (Nat.lt_trans b4 ha)) (Nat.ne_of_gt (Nat.lt_trans b5 ha)) e3⟩
  | succ k ih =>
    intro i h tk c acc as ek hi st gl1 gl2 kp gS ea el gp
    have hlt : i < min xs.size ys.size := by omega
    have hsz : acc.size = i := by rw [← Array.length_toList, ea, List.length_map, el]
    have ex : xs[i]? = some (xs[i]'(by omega)) := Array.getElem?_eq_getElem (by omega)
    have ey : ys[i]? = some (ys[i]'(by omega)) := Array.getElem?_eq_getElem (by omega)
    refine codeAny_builtin PySem.F.entry_extend_loop ?_
    rw [Around.under_plainId PySem.F.plain_extend_loop _]
    show wpAny _ A.in1 (pyNext (.ref z) >>= _) _ _ _
    refine wpAny_bind (zs_item (s := { s with heap := h, toks := tk }) ap st gl1 gl2 ex ey fun h' st' ht hz k' => ?_)
    dsimp only at ht hz k' ⊢
    have gS' := k' S _ nz nTO n1 n2 gS
    have up : ∀ b o, b ≠ S → h'.get? b = some o → (h'.update S (Obj.mapSeq (·.push (Value.ref h.objs.size)))).get? b = some o := fun b o hb e => (Heap.get?_update_other _ _ (Ne.symm hb)).trans e
    have Sl : S < h.objs.size := Heap.lt_size gS
    have tupUp : ∀ {l : Addr} {zs : Array Value}, l ≠ S → l ≠ z → l ≠ TO → l ≠ i1 → l ≠ i2 → h.IsTuple l zs → (h'.update S (Obj.mapSeq (·.push (Value.ref h.objs.size)))).IsTuple l zs := fun m1 m2 m3 m4 m5 ⟨o, e, r⟩ => ⟨o, up _ _ m1 (k' _ _ m2 m3 m4 m5 e), r⟩
    show wpAny _ A.in1 (updateSeq S (·.push (Value.ref h.objs.size)) >>= _) _ _ _
    refine wpAny_bind ?_
    refine wpAny_updateSeq gS' rfl (wpAny_pure ⟨plainId_quiet PySem.F.plain_extend_loop _, ih (i + 1) _ tk _ (acc.push (Value.ref h.objs.size)) (as ++ [h.objs.size]) (by omega) hlt ?_ (tupUp b6 ap.l1z ap.l1TO ap.l1i1 ap.l1i2 gl1) (tupUp b7 ap.l2z ap.l2TO ap.l2i1 ap.l2i2 gl2)
      (fun b o q1 q2 q3 q4 q5 e => up b o q1 (k' b o q2 q3 q4 q5 (kp b o q1 q2 q3 q4 q5 e))) (Heap.get?_update_self _ gS' rfl) (by rw [Array.toList_push, ea, List.map_append]; rfl) (by rw [List.length_append, el]; rfl) ⟨?_, ?_, ?_⟩⟩) (by rw [hsz]; omega) (by show (acc.push (Value.ref h.objs.size)).size ≤ sizeLine + 1; rw [Array.size_push, hsz]; omega)
    · refine ⟨?_, up _ _ (Nat.ne_of_lt b2) st'.ti, st'.a.at fun o e => up _ _ (Nat.ne_of_lt b4) e, st'.b.at fun o e => up _ _ (Nat.ne_of_lt b5) e⟩
      rcases st'.zip with ⟨gz, u, v, gTO⟩ | ⟨T, f, oT, gz, gT, gd, gc⟩
      · exact .inl ⟨up _ _ (Nat.ne_of_lt b1) gz, u, v, up _ _ (Nat.ne_of_lt b3) gTO⟩
      · refine .inr ⟨T, f, oT, up _ _ (Nat.ne_of_lt b1) gz, up _ _ ?_ gT, gd, gc⟩
        rintro rfl
        rw [gS'] at gT
        cases gT
        exact absurd (show Value.type "list" = Value.type "tuple" from gc) (by decide)
    · refine List.pairwise_append.mpr ⟨gp.rise, List.pairwise_singleton _ _, fun a ha b hb => ?_⟩
      rw [List.mem_singleton.mp hb]
      exact gp.there ha
    · intro a ha
      rcases List.mem_append.mp ha with ha | ha
      · exact gp.above a ha
      · rw [List.mem_singleton.mp ha]; exact Sl
    · intro j b hj
      rcases Nat.lt_trichotomy j as.length with q | q | q
      · rw [List.getElem?_append_left q] at hj
        obtain ⟨x, y, e1, e2, e3⟩ := gp.pairs j b hj
        have hb := gp.above b (List.mem_of_getElem? hj)
        exact ⟨x, y, e1, e2, up b _ (Nat.ne_of_gt hb) (k' b _ (Nat.ne_of_gt (Nat.lt_trans b1 hb)) (Nat.ne_of_gt (Nat.lt_trans b3 hb)) (Nat.ne_of_gt (Nat.lt_trans b4 hb)) (Nat.ne_of_gt (Nat.lt_trans b5 hb)) e3)⟩
      · subst q
        have hb : h.objs.size = b := by simpa using hj
        subst hb
        subst el
        exact ⟨_, _, ex, ey, up _ _ (Nat.ne_of_gt Sl) ht⟩
      · have none' : (as ++ [h.objs.size])[j]? = none := List.getElem?_eq_none (by rw [List.length_append, List.length_singleton]; omega)
        rw [none'] at hj; cases hj
end
section
variable {prog : Program} {w : World} {A : Around} {E : Value → Shared → Prop} {s : Shared} {xs ys : Array Value}
theorem zip_room {z : Addr} (hT : s.TypeIs (.ref z) "zip") {Q : Bool → Shared → Prop} (h : Q true s) : wpAny (model prog w) A (Builtin.List.listLengthHint (.ref z)) Q E s := by
  unfold Builtin.List.listLengthHint
  refine wpAny_bind (wpAny_specialOf hT len_zip ?_)
  refine wpAny_ite_split (fun q => absurd q (by decide +kernel)) (fun _ => ?_)
  refine wpAny_ite_split (fun q => absurd q (by decide)) (fun _ => ?_)
  refine wpAny_bind (wpAny_specialOf hT hint_zip ?_)
  exact wpAny_pure h
theorem z_extend {R : Result → Shared → Prop} {S z TI TO i1 i2 l1 l2 : Addr} (hh : A.handled = none) (ap : ZipApart z TI TO i1 i2 l1 l2) (b1 : z < S) (b2 : TI < S) (b3 : TO < S) (b4 : i1 < S) (b5 : i2 < S) (b6 : l1 ≠ S) (b7 : l2 ≠ S) (hn : min xs.size ys.size ≤ sizeLine) (res : Value) (c₀ : Nat)
    (gz : IsZip s.heap z TI TO .none) (gTI : IsPair s.heap TI (.ref i1) (.ref i2)) (gTO : ∃ x y, IsPair s.heap TO x y) (g1 : s.heap.IsTupleIter i1 l1 0) (g2 : s.heap.IsTupleIter i2 l2 0) (gl1 : s.heap.IsTuple l1 xs) (gl2 : s.heap.IsTuple l2 ys)
    (gS : s.heap.get? S = some { cls := .type "list", data := .seq #[] c₀ })
    (fin : ∀ h' tk acc c as, (∀ b o, b ≠ S → b ≠ z → b ≠ TO → b ≠ i1 → b ≠ i2 → s.heap.get? b = some o → h'.get? b = some o) → h'.get? S = some { cls := .type "list", dict := none, data := .seq acc c, slots := #[] } → as.length = min xs.size ys.size → PairsAt xs ys S h' as →
      acc.toList = as.map Value.ref → R (.ok (.ret res)) { s with heap := h', toks := tk }) :
    wpAny (model prog w) A.in1 (Builtin.List.listExtendWith (.ref S) (.ref z) res)
      (fun fin s' => match fin with | .done f => R (.ok f) s' | .again c' => c'.quiet = true ∧ codeAny (model prog w) A c' R s') (fun e s' => R (.error e) s') s := by
  have ty : s.TypeIs (.ref z) "zip" := ⟨_, gz, rfl⟩
  have key : ∀ (h : Heap) (c₁ tk : Nat), (∀ b o, b ≠ S → s.heap.get? b = some o → h.get? b = some o) → h.get? S = some { cls := .type "list", data := .seq #[] c₁ } →
      codeAny (model prog w) A (.builtin "list.extend.loop" ⟨[.ref S, .ref z, res], []⟩) R { s with heap := h, toks := tk } := by
    intro h c₁ tk kp gS₁
    have tup : ∀ {l : Addr} {zs : Array Value}, l ≠ S → s.heap.IsTuple l zs → h.IsTuple l zs := fun m ⟨o, e, r⟩ => ⟨o, kp _ _ m e, r⟩
    refine z_loop (s := s) (h₁ := s.heap) hh ap b1 b2 b3 b4 b5 b6 b7 hn res fin _ 0 h tk c₁ #[] [] (Nat.sub_zero _) (Nat.zero_le _) ⟨.inl ⟨kp _ _ (Nat.ne_of_lt b1) gz, ?_⟩, kp _ _ (Nat.ne_of_lt b2) gTI, g1.at fun o e => kp _ _ (Nat.ne_of_lt b4) e, g2.at fun o e => kp _ _ (Nat.ne_of_lt b5) e⟩ (tup b6 gl1) (tup b7 gl2)
      (fun b o q _ _ _ _ e => kp b o q e) gS₁ rfl rfl ⟨List.Pairwise.nil, (fun _ q => nomatch q), (fun j a q => by simp at q)⟩
    obtain ⟨x, y, e⟩ := gTO
    exact ⟨x, y, kp _ _ (Nat.ne_of_lt b3) e⟩
  unfold Builtin.List.listExtendWith
  refine wpAny_bind (wpAny_typeOf (T := "zip") ty ?_)
  have e1 : Builtin.List.listSameRef (.ref S) (.ref z) = false := by simp [Builtin.List.listSameRef, Nat.ne_of_gt b1]
  have e2 : (Value.type "zip" == Value.type "list") = false := by decide
  have e3 : (Value.type "zip" == Value.type "tuple") = false := by decide
  simp only [e1, e2, e3, Bool.or_false, Bool.false_eq_true, if_false]
  refine wpAny_bind (wpAny_pyIter_zip gz ?_)
  refine wpAny_bind (wpAny_holding (zip_room ty ?_))
  refine wpAny_ite_split (fun _ => ?_) (fun q => absurd (by simp) q)
  refine wpAny_bind (wpAny_rule ?_)
  refine wpAny_bind ?_
  show wpAny _ _ (updateSeq S (·.push .none) >>= fun _ => updateSeq S (·.pop)) _ _ _
  refine wpAny_bind (wpAny_updateSeq gS rfl ?_)
  have gS₂ := Heap.get?_update_self (Obj.mapSeq (·.push Value.none)) gS rfl
  refine wpAny_updateSeq (hz := by seq_fits) gS₂ rfl ?_
  have gS₃ := Heap.get?_update_self (Obj.mapSeq (·.pop)) gS₂ rfl
  refine wpAny_pure ⟨plainId_quiet PySem.F.plain_extend_loop _, key _ _ _ (fun b o q e => ?_) gS₃⟩
  exact (Heap.get?_update_other _ _ (Ne.symm q)).trans ((Heap.get?_update_other _ _ (Ne.symm q)).trans e)
theorem z_init {R : Result → Shared → Prop} {S z TI TO i1 i2 l1 l2 : Addr} (hh : A.handled = none) (ap : ZipApart z TI TO i1 i2 l1 l2) (b1 : z < S) (b2 : TI < S) (b3 : TO < S) (b4 : i1 < S) (b5 : i2 < S) (b6 : l1 ≠ S) (b7 : l2 ≠ S) (hn : min xs.size ys.size ≤ sizeLine)
    (gz : IsZip s.heap z TI TO .none) (gTI : IsPair s.heap TI (.ref i1) (.ref i2)) (gTO : ∃ x y, IsPair s.heap TO x y) (g1 : s.heap.IsTupleIter i1 l1 0) (g2 : s.heap.IsTupleIter i2 l2 0) (gl1 : s.heap.IsTuple l1 xs) (gl2 : s.heap.IsTuple l2 ys)
    (gS : s.heap.get? S = some { cls := .type "list", data := .seq #[] })
    (fin : ∀ h' tk acc c as, (∀ b o, b ≠ S → b ≠ z → b ≠ TO → b ≠ i1 → b ≠ i2 → s.heap.get? b = some o → h'.get? b = some o) → h'.get? S = some { cls := .type "list", dict := none, data := .seq acc c, slots := #[] } → as.length = min xs.size ys.size → PairsAt xs ys S h' as →
      acc.toList = as.map Value.ref → R (.ok (.ret .none)) { s with heap := h', toks := tk }) :
    wpAny (model prog w) A.in1 (Builtin.«list.__init__» ⟨[.ref S, .ref z], []⟩)
      (fun fin s' => match fin with | .done f => R (.ok f) s' | .again c' => c'.quiet = true ∧ codeAny (model prog w) A c' R s') (fun e s' => R (.error e) s') s := by
  show wpAny _ _ (do let old ← Builtin.List.listItems (.ref S); Builtin.List.listUpdate (.ref S) (fun _ => #[]); letGo old.toList.reverse; Builtin.List.listExtendWith (.ref S) (.ref z) .none) _ _ s
  refine wpAny_bind ?_
  unfold Builtin.List.listItems
  refine wpAny_bind (wpAny_seqItems gS rfl (wpAny_pure ?_))
  show wpAny _ _ (updateSeq S (fun _ => #[]) >>= fun _ => letGo (#[] : Array Value).toList.reverse >>= fun _ => Builtin.List.listExtendWith (.ref S) (.ref z) .none) _ _ s
  refine wpAny_bind (wpAny_updateSeq gS rfl ?_)
  have gS₂ := Heap.get?_update_self (Obj.mapSeq (fun _ => (#[] : Array Value))) gS rfl
  have oth : ∀ b o, b ≠ S → s.heap.get? b = some o → (s.heap.update S (Obj.mapSeq (fun _ => (#[] : Array Value)))).get? b = some o := fun b o q e => (Heap.get?_update_other _ _ (Ne.symm q)).trans e
  refine wpAny_bind (wpAny_letGo ?_)
  have tup : ∀ {l : Addr} {zs : Array Value}, l ≠ S → s.heap.IsTuple l zs → (s.heap.update S (Obj.mapSeq (fun _ => (#[] : Array Value)))).IsTuple l zs := fun m ⟨o, e, r⟩ => ⟨o, oth _ _ m e, r⟩
  refine z_extend (s := { s with heap := s.heap.update S (Obj.mapSeq (fun _ => (#[] : Array Value))) }) hh ap b1 b2 b3 b4 b5 b6 b7 hn .none _ (oth _ _ (Nat.ne_of_lt b1) gz) (oth _ _ (Nat.ne_of_lt b2) gTI) ?_ (g1.at fun o e => oth _ _ (Nat.ne_of_lt b4) e) (g2.at fun o e => oth _ _ (Nat.ne_of_lt b5) e) (tup b6 gl1) (tup b7 gl2) gS₂
    fun h' tk acc c as kp gS' el gp ea => fin h' tk acc c as (fun b o q1 q2 q3 q4 q5 e => kp b o q1 q2 q3 q4 q5 (oth b o q1 e)) gS' el gp ea
  obtain ⟨x, y, e⟩ := gTO
  exact ⟨x, y, oth _ _ (Nat.ne_of_lt b3) e⟩
theorem z_call {Q : Value → Shared → Prop} {z TI TO i1 i2 l1 l2 : Addr} (hh : A.handled = none) (ap : ZipApart z TI TO i1 i2 l1 l2) (hn : min xs.size ys.size ≤ sizeLine)
    (gz : IsZip s.heap z TI TO .none) (gTI : IsPair s.heap TI (.ref i1) (.ref i2)) (gTO : ∃ x y, IsPair s.heap TO x y) (g1 : s.heap.IsTupleIter i1 l1 0) (g2 : s.heap.IsTupleIter i2 l2 0) (gl1 : s.heap.IsTuple l1 xs) (gl2 : s.heap.IsTuple l2 ys)
    (fin : ∀ h' tk acc c as, (∀ b o, b ≠ z → b ≠ TO → b ≠ i1 → b ≠ i2 → s.heap.get? b = some o → h'.get? b = some o) → h'.get? s.heap.objs.size = some { cls := .type "list", dict := none, data := .seq acc c, slots := #[] } → as.length = min xs.size ys.size → PairsAt xs ys s.heap.objs.size h' as →
      acc.toList = as.map Value.ref → Q (.ref s.heap.objs.size) { s with heap := h', toks := tk }) :
    wpAny (model prog w) A (call (.type "list") [.ref z]) Q E s := by
  refine callType_codes (Q₁ := fun obj s₁ => obj = .ref s.heap.objs.size ∧ s₁ = { s with heap := s.heap.push { cls := .type "list", data := .seq #[] } }) PySem.F.called_list (PySem.F.typeCall_list_1 _) PySem.F.entry_list_init
    (code_list_new _ ⟨rfl, rfl⟩) fun obj s₁ q₁ => ?_
  obtain ⟨rfl, rfl⟩ := q₁
  have gS : (s.heap.push { cls := .type "list", data := .seq #[] }).get? s.heap.objs.size = some { cls := .type "list", data := .seq #[] } := Heap.get?_push_size _ rfl
  have up : ∀ {b : Addr} {o : Obj}, s.heap.get? b = some o → (s.heap.push { cls := .type "list", data := .seq #[] }).get? b = some o := fun e => Heap.get?_push_of_some _ e
  have tup : ∀ {l : Addr} {zs : Array Value}, s.heap.IsTuple l zs → (s.heap.push { cls := .type "list", data := .seq #[] }).IsTuple l zs := fun ⟨o, e, r⟩ => ⟨o, up e, r⟩
  have lt1 : l1 < s.heap.objs.size := let ⟨o, e, _⟩ := gl1; Heap.lt_size e
  have lt2 : l2 < s.heap.objs.size := let ⟨o, e, _⟩ := gl2; Heap.lt_size e
  have lt3 : i1 < s.heap.objs.size := let ⟨o, e, _⟩ := g1; Heap.lt_size e
  have lt4 : i2 < s.heap.objs.size := let ⟨o, e, _⟩ := g2; Heap.lt_size e
  have lt5 : TO < s.heap.objs.size := let ⟨_, _, e⟩ := gTO; Heap.lt_size e
  refine ⟨⟨_, gS, rfl⟩, PySem.F.args_list_init_2 _ _, z_init (A := A.in1) hh ap (Heap.lt_size gz) (Heap.lt_size gTI) lt5 lt3 lt4 (Nat.ne_of_lt lt1) (Nat.ne_of_lt lt2) hn (up gz) (up gTI) (let ⟨x, y, e⟩ := gTO; ⟨x, y, up e⟩) (g1.at fun o e => up e) (g2.at fun o e => up e) (tup gl1) (tup gl2) gS fun h' tk acc c as kp gS' el gp ea => ?_⟩
  exact ⟨rfl, fin h' tk acc c as (fun b o q2 q3 q4 q5 e => kp b o (Nat.ne_of_lt (Heap.lt_size e)) q2 q3 q4 q5 (up e)) gS' el gp ea⟩
end
end MiZ

namespace Mi
open PySem PySem.Spec
open PyProof.Rows hiding St
open L2
/-- pairs tracked at their addresses -/
def putP : Hp → List Addr → List (V × V) → Hp
  | H, a :: as, p :: ps => putP (L2.upd H a (.tup [p.1, p.2])) as ps
  | H, _, _ => H
theorem putP_off {b : Addr} : ∀ (as : List Addr) (ps : List (V × V)) (H : Hp), b ∉ as → putP H as ps b = H b
  | [], _, _, _ => rfl
  | _ :: _, [], _, _ => rfl
  | a :: as, p :: ps, H, h => by
    rw [List.mem_cons, not_or] at h
    show putP (L2.upd H a (.tup [p.1, p.2])) as ps b = H b
    rw [putP_off as ps _ h.2, upd_ne h.1]
theorem putP_at : ∀ (as : List Addr) (ps : List (V × V)) (H : Hp), as.length = ps.length → as.Nodup → ∀ (j : Nat) (a : Addr), as[j]? = some a → ∃ p, ps[j]? = some p ∧ putP H as ps a = some (.tup [p.1, p.2])
  | [], _, _, _, _, j, a, e => by simp at e
  | _ :: _, [], _, h, _, _, _, _ => by cases h
  | a :: as, p :: ps, H, h, nd, j, b, e => by
    have nd' := List.nodup_cons.mp nd
    cases j with
    | zero =>
      have e' : a = b := by simpa using e
      subst e'
      refine ⟨p, rfl, ?_⟩
      show putP (L2.upd H a (.tup [p.1, p.2])) as ps a = _
      rw [putP_off as ps _ nd'.1, upd_same]
    | succ j =>
      obtain ⟨q, e1, e2⟩ := putP_at as ps (L2.upd H a (.tup [p.1, p.2])) (Nat.succ.inj h) nd'.2 j b (by simpa using e)
      exact ⟨q, by simpa using e1, e2⟩
section
variable {X : Cx}
theorem pairs_laid {pins : List (Addr × Obj)} {σ : St} {H : Hp} {s : Shared} {h' : Heap} {tk : Nat} {xs ys : List V} {us ws : List Value} {acc : Array Value} {c : Nat} {as : List Addr} {S : Addr} (I : Inv X pins σ H s) (hz : xs.length ≤ sizeLine) (hl : xs.length = ys.length) (r1 : Vals xs us) (r2 : Vals ys ws)
    (kp : ∀ b o, s.heap.get? b = some o → h'.get? b = some o) (lo : s.heap.objs.size ≤ S) (gS : h'.get? S = some { cls := .type "list", dict := none, data := .seq acc c, slots := #[] }) (la : as.length = xs.length) (gp : MiZ.PairsAt us.toArray ws.toArray S h' as) (ea : acc.toList = as.map Value.ref) :
    ∃ H' : Hp, (∀ b o, H b = some o → H' b = some o) ∧ H S = none ∧ H' S = some (.lst (as.map V.ref)) ∧ (∀ (j : Nat) (a : Addr), as[j]? = some a → ∃ x y, xs[j]? = some x ∧ ys[j]? = some y ∧ H' a = some (.tup [x, y])) ∧ Inv X pins σ H' { s with heap := h', toks := tk } := by
  have nd : as.Nodup := List.Pairwise.imp (fun {a b} (h : a < b) => Nat.ne_of_lt h) gp.rise
  have Sn : S ∉ as := fun z => Nat.lt_irrefl _ (gp.above _ z)
  have fr : ∀ t ∈ as, H t = none := fun t ht => I.hok.fresh (Nat.le_trans lo (Nat.le_of_lt (gp.above t ht)))
  have frS : H S = none := I.hok.fresh lo
  have lz : as.length = (xs.zip ys).length := by rw [la, List.length_zip, ← hl, Nat.min_self]
  have at0 := putP_at as (xs.zip ys) (L2.upd H S (.lst (as.map V.ref))) lz nd
  have atP : ∀ (j : Nat) (a : Addr), as[j]? = some a → ∃ x y, xs[j]? = some x ∧ ys[j]? = some y ∧ putP (L2.upd H S (.lst (as.map V.ref))) as (xs.zip ys) a = some (.tup [x, y]) := fun j a e => by
    obtain ⟨⟨x, y⟩, e1, e2⟩ := at0 j a e
    rw [List.getElem?_zip_eq_some] at e1
    exact ⟨x, y, e1.1, e1.2, e2⟩
  have off : ∀ b, b ∉ as → b ≠ S → putP (L2.upd H S (.lst (as.map V.ref))) as (xs.zip ys) b = H b := fun b n1 n2 => by rw [putP_off as _ _ n1, upd_ne n2]
  have low : ∀ b o, s.heap.get? b = some o → b ∉ as ∧ b ≠ S := fun b o e => by
    have hb : b < S := Nat.lt_of_lt_of_le (Heap.lt_size e) lo
    exact ⟨fun z => Nat.lt_irrefl _ (Nat.lt_trans hb (gp.above b z)), Nat.ne_of_lt hb⟩
  have grow : ∀ b u, H b = some u → putP (L2.upd H S (.lst (as.map V.ref))) as (xs.zip ys) b = some u := fun b u e => by
    rw [off b (fun z => by rw [fr b z] at e; cases e) (fun z => by rw [z, frS] at e; cases e)]
    exact e
  have eS : putP (L2.upd H S (.lst (as.map V.ref))) as (xs.zip ys) S = some (.lst (as.map V.ref)) := by rw [putP_off as _ _ Sn, upd_same]
  refine ⟨_, grow, frS, eS, atP, ?_⟩
  refine I.call' (ch := []) rfl ⟨fun b o q _ _ _ => kp b o q, fun b o q _ _ _ => ⟨o.slots, kp b o q⟩, fun b o q n _ => ?_, fun b o q _ => ⟨o, kp b o q⟩, fun b xs q => grow b _ q, fun b o u q => grow b _ q, fun b ps q => ⟨#[], by rw [grow b _ q]; simp⟩⟩ (fun b u q => ?_) I.bare fun b z => by simp at z
  · obtain ⟨z1, z2⟩ := low b o q
    rw [off b z1 z2]
    exact n
  · by_cases hb : b ∈ as
    · obtain ⟨j, hj⟩ := List.mem_iff_getElem?.mp hb
      obtain ⟨x, y, e1, e2, e3⟩ := atP j b hj
      rw [e3] at q
      cases q
      obtain ⟨u1, u2, f1, f2, f3⟩ := gp.pairs j b hj
      obtain ⟨v1, k1, m1⟩ := r1.get e1
      obtain ⟨v2, k2, m2⟩ := r2.get e2
      have q1 : v1 = u1 := by
        have : us[j]? = some u1 := by simpa using f1
        rw [k1] at this; cases this; rfl
      have q2 : v2 = u2 := by
        have : ws[j]? = some u2 := by simpa using f2
        rw [k2] at this; cases this; rfl
      subst q1 q2
      exact ⟨by show 2 ≤ sizeLine; decide, [v1, v2], .cons m1 (.cons m2 .nil), ⟨_, f3, rfl, _, rfl⟩⟩
    · by_cases hb2 : b = S
      · rw [hb2] at q ⊢
        rw [eS] at q
        cases q
        refine ⟨by rw [List.length_map, la]; exact hz, acc.toList, c, by rw [ea]; exact LiI.vals_refs as, ?_⟩
        rw [Array.toArray_toList]
        exact gS
      · rw [off b hb hb2] at q
        exact (I.hok b u q).stay (fun d v _ y => kp d v y) (fun d y => grow d _ y) fun d xs y => grow d _ y
/-- list(zip(s, t)) of two tuples of one length -/
def tLstZip (K : PySem.W.Frag) (ta : TA) : TE := fun σ H Q => ta σ H fun vs H1 => ∃ a b xs ys, vs = [.ref a, .ref b] ∧ SqT K H1 a xs ∧ SqT K H1 b ys ∧ xs.length = ys.length ∧
  ∀ (H' : Hp) (p : Addr) (ts : List Addr), (∀ b o, H1 b = some o → H' b = some o) → H1 p = none → H' p = some (.lst (ts.map V.ref)) → ts.length = xs.length → (∀ (j : Nat) (t : Addr), ts[j]? = some t → ∃ x y, xs[j]? = some x ∧ ys[j]? = some y ∧ H' t = some (.tup [x, y])) → Q (.ref p) H'
variable {e e2 : Expr} {ta : TA} {p p2 pos pos2 : Pos}
theorem pe_listZip (hc : X.calm = true) (hg : Gl X "list") (hm : X.mg "list" = none) (hg2 : Gl X "zip") (hm2 : X.mg "zip" = none) (ha : PA X [e, e2] ta)
    (hs : starEach [e, e2] X.env = (false, eval e X.env) :: starEach [e2] X.env := by rfl) (hpl : (backTo pos2 (starEach [e2] X.env)).any (·.1) = false := by rfl)
    (hs2 : starEach [.Call (.Name "zip" p2) [e, e2] [] pos2] X.env = (false, eval (.Call (.Name "zip" p2) [e, e2] [] pos2) X.env) :: starEach [] X.env := by rfl) :
    PE X (.Call (.Name "list" p) [.Call (.Name "zip" p2) [e, e2] [] pos2] [] pos) (tLstZip X.K ta) := by
  refine ⟨fun pins s σ H Q I h => ?_⟩
  refine Call_ (ld_blt I hg hm boot_list (PyProof.Rows.callWith_type1 (args_cons ?_ hs2) hs2))
  refine Call_ (ld_blt I hg2 hm2 PyProof.Rows.boot_zip (PyProof.Rows.callWith_type1 (thn (ha.run pos2 pins s σ H _ I h) fun us s1 ⟨vs, H1, I1, r1, q1⟩ => ?_) hs hpl))
  obtain ⟨a, b, xs, ys, ex, hx, hy, hl, q⟩ := q1
  subst ex
  cases r1 with
  | cons r rr =>
    cases rr with
    | cons r' rr =>
      cases rr
      cases r
      cases r'
      obtain ⟨its, rv, p1, hz⟩ := I1.tuple hx
      obtain ⟨its2, rv2, p2, _⟩ := I1.tuple hy
      have t1 : s1.heap.IsTuple a its.toArray := p1
      have t2 : s1.heap.IsTuple b its2.toArray := p2
      refine RZ.call_zipT t1 t2 fun h' gz gTI gTO g1 g2 gsz kp => args_nil ?_
      have lt1 : a < s1.heap.objs.size := let ⟨o, e, _⟩ := t1; Heap.lt_size e
      have lt2 : b < s1.heap.objs.size := let ⟨o, e, _⟩ := t2; Heap.lt_size e
      have ts1 : h'.IsTuple a its.toArray := let ⟨o, e, r⟩ := t1; ⟨o, kp _ _ e, r⟩
      have ts2 : h'.IsTuple b its2.toArray := let ⟨o, e, r⟩ := t2; ⟨o, kp _ _ e, r⟩
      refine MiZ.z_call (s := { s1 with heap := h' }) (I1.ok.hd hc) (PySem.W.ktu_apart s1.heap.objs.size a b lt1 lt2) ?_ gz gTI ⟨_, _, gTO⟩ g1 g2 ts1 ts2 fun h'' tk acc c as kp2 gS la gp ea => ?_
      · rw [List.size_toArray, List.size_toArray, ← rv.length, ← rv2.length, ← hl, Nat.min_self]
        exact hz
      · have up : ∀ bb o, s1.heap.get? bb = some o → h''.get? bb = some o := fun bb o e => by
          have hb := Heap.lt_size e
          refine kp2 bb o ?_ ?_ ?_ ?_ (kp bb o e)
          · exact Nat.ne_of_lt (Nat.lt_of_lt_of_le hb (Nat.le_add_right _ _))
          · exact Nat.ne_of_lt (Nat.lt_of_lt_of_le hb (Nat.le_add_right _ _))
          · exact Nat.ne_of_lt hb
          · exact Nat.ne_of_lt (Nat.lt_of_lt_of_le hb (Nat.le_add_right _ _))
        obtain ⟨H', k1, k2, k3, k4, J⟩ := pairs_laid (tk := tk) (S := h'.objs.size) (h' := h'') I1 hz hl rv rv2 up (by rw [gsz]; exact Nat.le_add_right _ _) gS (by rw [la, List.size_toArray, List.size_toArray, ← rv.length, ← rv2.length, ← hl, Nat.min_self]) gp ea
        exact ⟨.ref _, H', J, rfl, q H' _ as k1 k2 k3 (by rw [la, List.size_toArray, List.size_toArray, ← rv.length, ← rv2.length, ← hl, Nat.min_self]) k4⟩
/-- list(zip(s, t)) -/
def zipE (F : SA) : SE := fun ρ => match F ρ with
  | some (rs, ρ1) => match resAll ρ1 rs with
    | some [d, d'] => (match d.asT, d'.asT with
      | some xs, some ys => if xs.length = ys.length then some (.new (.lst ((xs.zip ys).map fun p => .tup [p.1, p.2])), ρ1) else none
      | _, _ => none)
    | _ => none
  | none => none
variable {F : SA}
theorem Ex.listZip (hc : X.calm = true) (hm : X.mg "list" = none) (hm2 : X.mg "zip" = none) (ha : Ar X [e, e2] F) (hg : Gl X "list" := by rfl) (hg2 : Gl X "zip" := by rfl)
    (hs : starEach [e, e2] X.env = (false, eval e X.env) :: starEach [e2] X.env := by rfl) (hpl : (backTo pos2 (starEach [e2] X.env)).any (·.1) = false := by rfl)
    (hs2 : starEach [.Call (.Name "zip" p2) [e, e2] [] pos2] X.env = (false, eval (.Call (.Name "zip" p2) [e, e2] [] pos2) X.env) :: starEach [] X.env := by rfl) :
    Ex X (.Call (.Name "list" p) [.Call (.Name "zip" p2) [e, e2] [] pos2] [] pos) (zipE F) := PE.imp (pe_listZip hc hg hm hg2 hm2 ha hs hpl hs2) fun σ H Q ⟨G, ρ, r, ρ', R, hf, hQ⟩ => by
  unfold zipE at hf
  split at hf
  · rename_i rs ρ1 e1
    split at hf
    · rename_i d d' e2
      split at hf
      · rename_i xs ys t1 t2
        split at hf
        · rename_i hl
          cases hf
          refine ⟨G, ρ, rs, ρ', R, e1, fun vs H1 S A => ?_⟩
          obtain ⟨r1, v1, r2, v2, rfl, rfl, o1, q1, o2, q2⟩ := ops2 (A.ok R) e2
          have R1 : Rel X.K G ρ' σ H1 := A.rel
          obtain ⟨a, us, rfl, s1, w1⟩ := o1.asT R1 q1 t1
          obtain ⟨b, ws, rfl, s2, w2⟩ := o2.asT R1 q2 t2
          refine ⟨a, b, us, ws, rfl, s1, s2, by rw [w1.length, w2.length, hl], fun H' p ts ext fr eS lt gt => hQ _ _ ?_⟩
          have g : Goes H1 H' (Av G ρ' σ) (Av (G.add p) ρ' σ) := ⟨fun b o e _ => ext b o e, fun b o e _ => ext b o e, fun b z n => by
            rcases z with (z | z) | z
            · exact .inl z
            · subst z; exact absurd fr n
            · exact .inr z⟩
          refine ⟨S.trans ⟨sameK.refl _, fun b o e _ => ext b o e⟩, p, rfl, S.none R1 fr, R1.add fr ext (by rw [eS]; simp), .lst eS ?_⟩
          refine RepAll.of_get (by rw [List.length_map, List.length_map, List.length_zip, lt, w1.length, hl, Nat.min_self]) fun i x dd ex ed => ?_
          rw [List.getElem?_map] at ex ed
          cases et : ts[i]? with
          | none => rw [et] at ex; cases ex
          | some t =>
            rw [et] at ex
            cases ex
            obtain ⟨x, y, g1, g2, g3⟩ := gt i t et
            cases ez : (xs.zip ys)[i]? with
            | none => rw [ez] at ed; cases ed
            | some pq =>
              rw [ez] at ed
              cases ed
              obtain ⟨pp, qq⟩ := pq
              rw [List.getElem?_zip_eq_some] at ez
              obtain ⟨dx, f1, f2⟩ := w1.getV g1
              obtain ⟨dy, f3, f4⟩ := w2.getV g2
              have h1 : dx = pp := by rw [ez.1] at f1; cases f1; rfl
              have h2 : dy = qq := by rw [ez.2] at f3; cases f3; rfl
              subst h1 h2
              exact .tup g3 (.cons (f2.go g) (.cons (f4.go g) .nil))
        · cases hf
      · cases hf
    · cases hf
  · cases hf
end
end Mi

/-! A list's item stored. -/
namespace Mi
open PySem PySem.Spec
open PyProof.Rows hiding St
open L2

/-- xs[i] = e, xs in the slot s -/
def itemS (s : Nat) (fi f : SE) : SS := fun ρ => match f ρ with
  | none => none
  | some (r, ρ1) => match keepD r with
    | none => none
    | some d => match ρ1[s]? with
      | some (.ow _ _ (.lst _)) => (match fi ρ1 with
        | none => none
        | some (ri, ρ2) => match res ρ2 ri, ρ2[s]? with
          | some (.int k), some (.ow p false (.lst ds)) => (match ixN ds.length k with
            | some j => some (.nx (ρ2.set s (.ow p false (.lst (ds.set j d)))))
            | none => none)
          | _, _ => none)
      | _ => none
theorem Rel.addLst {K : PySem.W.Frag} {G : Fr} {ρ : En} {σ : St} {H : Hp} {i : Nat} {p : Bool} {ds es : List D} {a : Addr} {xs ys : List V} (R : Rel K G ρ σ H) (e : ρ[i]? = some (.ow p false (.lst ds))) (s : σ[i]? = some (some (.ref a))) (h : H a = some (.lst xs)) (r : RepAll K H (Av G ρ σ) ys es) :
    PostS K G ρ σ H (ρ.set i (.ow p false (.lst es))) σ (L2.upd H a (.lst ys)) := by
  obtain ⟨R2, S2⟩ := R.lstTo e s h r
  exact S2.post R2
section
variable {X : Cx} {o i e : Expr} {f fi : SE} {pos tpos : Pos}
theorem Sx.item {s : Nat} (ho : PE X o (tVar s)) (hi : Ex X i fi) (he : Ex X e f) (hs : swapsWithSole [.Subscript o i tpos] e pos.line X.env = pure false := by rfl) (hw : swappedStores [.Subscript o i tpos] e X.env = pure none := by rfl)
    (h1 : (assignEach [.Subscript o i tpos] X.env).map (·.2) = [assign (.Subscript o i tpos) X.env] := by rfl)
    (ha : ∀ v, assign (.Subscript o i tpos) X.env v = (do
      let ov ← holding [v] (eval o X.env)
      let iv ← holding [v, ov] (eval i X.env)
      standAt tpos
      holding [v, ov, iv] (setItem ov iv v)
      release [v, ov, iv] []) := by intro _; rfl) : Sx X (.Assign [.Subscript o i tpos] e pos) (itemS s fi f) := PS.imp (ps_asg he (pg_sub ho hi set_list ha) hs hw h1) fun D σ H ⟨G, ρ, ot, R, hf, hD⟩ => by
  unfold itemS at hf
  split at hf
  · cases hf
  rename_i r ρ1 e1
  split at hf
  · cases hf
  rename_i d e2
  split at hf
  · rename_i p0 l0 ds0 e3
    split at hf
    · cases hf
    rename_i ri ρ2 e4
    split at hf
    · rename_i k p ds e5 e6
      split at hf
      · rename_i j ej
        cases hf
        refine ⟨G, ρ, r, ρ1, R, e1, fun v H1 P => ?_⟩
        have R1 : Rel X.K (G.plus r v) ρ1 σ H1 := P.relP
        obtain ⟨a0, xs0, s0, _⟩ := R1.lstSlot e3
        refine ⟨.ref a0, s0, G.plus r v, ρ1, ri, ρ2, R1, e4, fun w H2 P2 => ?_⟩
        have R2 : Rel X.K (G.plus r v) ρ2 σ H2 := P2.rel
        obtain ⟨a, xs, s', h, wA⟩ := R2.unplus.ownL e6
        rw [s0] at s'
        cases s'
        have ew : w = .int k := (P2.ok R1).int R2 e5
        subst ew
        have wv : Rep X.K H2 (Av G ρ2 σ) v d := (P.later R P2.step).kept e2
        refine ⟨a0, xs, k, j, rfl, rfl, h, by rw [wA.length]; exact ej, ?_⟩
        have S12 : Step ρ σ H ρ2 H2 := P.step.trans P2.step
        exact hD σ _ ((S12.post R2.unplus).trans (R2.unplus.addLst e6 s0 h (wA.set wv j)))
      · cases hf
    · cases hf
  · cases hf
theorem set_elim {i : Nat} {G : Fr} {ρ ρ1 : En} {σ : St} {H : Hp} {r : Opd} {o : Out} {D : Ends} (R : Rel X.K G ρ σ H) (h : (asgn i r ρ1).map Out.nx = some o) (hD : OutD X.K G ρ σ H o D) {v : V} {H' : Hp} (P : PostE X.K G ρ σ H r ρ1 v H') : D.nx (σ.set i (some v)) H' := by
  cases q : asgn i r ρ1 with
  | none => rw [q] at h; cases h
  | some ρ' =>
    rw [q] at h
    cases h
    have hO := P.hO R
    obtain ⟨h1, h2, h3⟩ := P.relP.asgn (fun p a b => (hO p a b).1) (P.opS R) q
    have S := P.step.post P.rel
    refine hD _ H' ⟨h1, S.keep, fun a z => ?_, fun a z => ?_, S.dom⟩
    · rcases h2 a z with z | ⟨z1, z2⟩
      · exact S.own a z
      · exact .inr (hO a z1 z2).2
    · rcases h3 a z with z | ⟨z1, z2⟩
      · exact S.wr a z
      · exact .inr (hO a z1 z2).2
variable {elt tg iter : Expr} {ifs : List Expr} {scope : Scope} {own : List (Str × Nat)} {it : SI} {is : List Nat} {T : D → En → Option En} {t : STe} {fe : SE}
theorem Sx.setComp {i : Nat} {y : Str} {py cpos : Pos} (hc : X.calm = true) (hN : X.N.Nodup) (hy : X.N[i]? = some y) (ok : BlkOk X.N X.env.scope scope own) (ho : ∀ j ∈ own.map (·.2), j ∈ is) (hi' : ∀ j ∈ is, j ∈ own.map (·.2)) (hT : TOk is T) (hi : Ix X tg iter it)
    (hb : ∀ Y : Cx, Blk X scope Y → Tg Y tg is T ∧ Tts Y ifs t ∧ Ex Y elt fe) (hyl : X.env.scope.names.lookup y = some .local := by rfl) (hk : X.env.scope.kind = .function := by rfl) (hl : (py.line == cpos.line) = true := by rfl) (ha : (scope.names.any fun (n, k) => n == y && (k == .local || k == .cell)) = false := by decide +kernel)
    (hs : ∀ x, foldedSetIterable iter X.env x = pure x := by intro _; rfl) :
    Sx X (.Assign [.Name y py] (.ListComp elt [⟨tg, iter, ifs, 0⟩] scope cpos) pos) (setS i (compE (own.map (·.2)) it T t fe)) :=
  PS.imp (ps_setLc hc hN hy hyl (sw_true hk hyl hl ha) hi ok (fun s H C cl fp => (hb _ ⟨s, H, C, cl, fp, rfl⟩).1) (fun s H C cl fp => (hb _ ⟨s, H, C, cl, fp, rfl⟩).2.1) (fun s H C cl fp => (hb _ ⟨s, H, C, cl, fp, rfl⟩).2.2) hs) fun D σ H ⟨G, ρ, o, R, h, hD⟩ => by
    unfold setS at h
    split at h
    · rename_i r ρ1 e1
      exact comp_elim ho hi' hT R e1 fun v H' P => set_elim R h hD P
    · cases h
end
/-! ### the module -/
/-- a def of the text where it stands -/
def Here (K : PySem.W.Frag) (mg : Str → Option Value) (x : Str) (qual : Str) (st : Stmt) : Prop := ∃ f fd, L2.Fun K x qual st f fd ∧ mg x = some (.ref f)
/-- .. and what it does -/
structure DefOk (P : Program) (w : World) (K : PySem.W.Frag) (mg : Str → Option Value) (base : Heap) (k : Nat) (x : Str) (qual : Str) (st : Stmt) (ps : List Str) (io : Option Nat) (F : Fn) : Prop where
  ex : ∃ f fd, L2.Fun K x qual st f fd ∧ mg x = some (.ref f) ∧ FnOk P w K mg base CX0 k f fd ps (spP K ps.length io F)
section
variable {P : Program} {w : World} {K : PySem.W.Frag} {mg : Str → Option Value} {base : Heap} {x qual : Str} {st : Stmt} {N ps : List Str} {k : Nat} {io : Option Nat} {B : SS} {F : Fn}
theorem def_ok (h : Here K mg x qual st) (S : FnScope N ps (defScope st))
    (hb : ∀ (f : Addr) (cdv : Value) (A : Around) (outer : List Env) (s : Shared) (H : Hp) (E : XK), Room k (A.deeper (envOfC qual (defScope st) s.heap.objs.size f cdv)) → Sxs (cxOf CX0 P w K mg base N qual (defScope st) f cdv A outer s H E).nox (defBody st) B) :
    DefOk P w K mg base (k + 1) x qual st ps io (fnD N.length io B) := by
  obtain ⟨f, fd, F, m⟩ := h
  exact ⟨f, fd, F, m, fn_ok F S (hb f)⟩
variable {X : Cx} {j n m : Nat} {p pos : Pos} {e : Expr} {es : List Expr} {kws : List Keyword} {Fa Fk : SA} {ks : List Str}
theorem Ex.callD (d : DefOk X.prog X.w X.K X.mg X.base k x qual st ps io F) (hr : Room j X.A) (hkj : k ≤ j) (ha : Ar X (e :: es) Fa)
    (hb : ∀ (kV doc pm : Value) (an : Option Addr) (cdv ct : Value) (us : List Value), us.length = ps.length → bindArgs (PySem.W.fnOf x qual (defArgs st) (defBody st) (defScope st) .none kV doc pm an cdv ct) ⟨us, []⟩ = pure (ps.zip us)) [hl : LenA Fa n] (hn : n = ps.length := by rfl)
    (hg : Gl X x := by rfl) (hdb : (x == ("__debug__" : Str)) = false := by decide) (he : starEach (e :: es) X.env = (false, eval e X.env) :: starEach es X.env := by rfl) (hpl : (backTo pos (starEach es X.env)).any (·.1) = false := by rfl) :
    Ex X (.Call (.Name x p) (e :: es) [] pos) (callE io F Fa) := by
  obtain ⟨f, fd, F', hm, ok⟩ := d.ex
  exact Ex.call ok (hr.mono hkj) hm F'.kp (F'.binds hb) ha hn hg hdb he hpl
theorem Ex.callKD (d : DefOk X.prog X.w X.K X.mg X.base k x qual st ps io F) (hr : Room j X.A) (hkj : k ≤ j) (ha : Ar X (e :: es) Fa) (hw : Kw X kws Fk) (hp : ps ≠ [])
    (hb : ∀ (kV doc pm : Value) (an : Option Addr) (cdv ct : Value) (us ws : List Value), us.length = n → ws.length = m → bindArgs (PySem.W.fnOf x qual (defArgs st) (defBody st) (defScope st) .none kV doc pm an cdv ct) ⟨us, ks.zip ws⟩ = pure (ps.zip (us ++ ws))) [hl : LenA Fa n] [hl2 : LenA Fk m] (hn : n + m = ps.length := by rfl)
    (hg : Gl X x := by rfl) (hall : (backToKw pos (keywordEach kws X.env)).all (·.1.isSome) = true := by rfl) (hks : (backToKw pos (keywordEach kws X.env)).filterMap (·.1) = ks := by rfl)
    (hdb : (x == ("__debug__" : Str)) = false := by decide) (he : starEach (e :: es) X.env = (false, eval e X.env) :: starEach es X.env := by rfl)
    (hpl : ((backTo pos (starEach (e :: es) X.env)).any (·.1) || (backToKw pos (keywordEach kws X.env)).any (·.1.isNone)) = false := by rfl) :
    Ex X (.Call (.Name x p) (e :: es) kws pos) (callE io F (appA Fa Fk)) := by
  obtain ⟨f, fd, F', hm, ok⟩ := d.ex
  exact Ex.callK ok (hr.mono hkj) hm F'.kp (kb_of n m F' hp hb) ha hw hn hg hall hks hdb he hpl
end
end Mi

/-! min, max, sum of lists and tuples of ints; chains; calls with keywords only; augmented names. -/
namespace Mi
open PySem PySem.Spec
open PyProof.Rows hiding St
open L2

def minF (x : Int) (xs : List Int) : Int := xs.foldl (fun m y => if y < m then y else m) x
def maxF (x : Int) (xs : List Int) : Int := xs.foldl (fun m y => if m < y then y else m) x
theorem minD_ints (xs : List Int) : ∀ x : Int, PySem.W.minD (.int x) (xs.map PyData.int) = .int (minF x xs) := by
  induction xs with
  | nil => intro x; rfl
  | cons y ys ih =>
    intro x
    have h := ih (if y < x then y else x)
    unfold PySem.W.minD minF at h ⊢
    rw [List.map_cons, List.foldl_cons, List.foldl_cons, ← h]
    congr 1
    rw [PySem.W.dataLt_int]
    by_cases hy : y < x <;> simp [hy]
theorem maxD_ints (xs : List Int) : ∀ x : Int, PySem.W.maxD (.int x) (xs.map PyData.int) = .int (maxF x xs) := by
  induction xs with
  | nil => intro x; rfl
  | cons y ys ih =>
    intro x
    have h := ih (if x < y then y else x)
    unfold PySem.W.maxD maxF at h ⊢
    rw [List.map_cons, List.foldl_cons, List.foldl_cons, ← h]
    congr 1
    rw [PySem.W.dataLt_int]
    by_cases hy : x < y <;> simp [hy]
theorem ints_reads {h : Heap} : ∀ {us : List Value} {ns : List Int}, Vals (ns.map V.int) us → ReadsAll h us (ns.map PyData.int) []
  | _, [], .nil => .nil
  | _, n :: ns, .cons r t => by
    obtain ⟨tk, rfl⟩ := r
    exact .cons (as := []) (bs := []) (.int n tk) (ints_reads t)
theorem ints_alike (ns : List Int) : PySem.W.AlikeAll (ns.map PyData.int) := by
  refine ⟨fun x hx y hy => ?_, fun x hx => ?_⟩
  · obtain ⟨i, _, rfl⟩ := List.mem_map.mp hx
    obtain ⟨j, _, rfl⟩ := List.mem_map.mp hy
    simp [PySem.W.alike]
  · obtain ⟨i, _, rfl⟩ := List.mem_map.mp hx
    simp
def rMinL (K : PySem.W.Frag) : List V → Hp → VK → Prop := fun vs H Q => ∃ (a : Addr) (n : Int) (ns : List Int), vs = [.ref a] ∧ (SqL K H a ((n :: ns).map V.int) ∨ SqT K H a ((n :: ns).map V.int)) ∧ Q (.int (minF n ns)) H
def rMaxL (K : PySem.W.Frag) : List V → Hp → VK → Prop := fun vs H Q => ∃ (a : Addr) (n : Int) (ns : List Int), vs = [.ref a] ∧ (SqL K H a ((n :: ns).map V.int) ∨ SqT K H a ((n :: ns).map V.int)) ∧ Q (.int (maxF n ns)) H
def rSumL (K : PySem.W.Frag) : List V → Hp → VK → Prop := fun vs H Q => ∃ (a : Addr) (ns : List Int), vs = [.ref a] ∧ (SqL K H a (ns.map V.int) ∨ SqT K H a (ns.map V.int)) ∧ Q (.int ns.sum) H
section
variable {X : Cx}
theorem cr_minL (hc : X.calm = true) (hu : X.A.units + 64 < cLine) : CallR X (.builtin "min") (rMinL X.K) := by
  intro pins s σ H vs us Q I r h
  obtain ⟨a, n, ns, rfl, hs, q⟩ := h
  rw [Vals.ref1 r]
  have hd : X.A.units + 1 + PyData.depthAll ((n :: ns).map PyData.int) < cLine := by
    rw [PySem.W.depth_ints]
    omega
  rcases hs with hs | hs
  · obtain ⟨its, rv, hl, _⟩ := I.list hs
    refine PySem.W.min_list_data (I.ok.hd hc) hl.isList (by rw [List.toList_toArray]; exact ints_reads rv) (ints_alike (n :: ns)) hd fun i v h' tk bs hv hr hk => ?_
    rw [minD_ints] at hr
    cases hr
    exact ⟨.int _, H, I.kept hk, ⟨_, rfl⟩, q⟩
  · obtain ⟨its, rv, hl, _⟩ := I.tuple hs
    refine PySem.W.min_tuple_data (I.ok.hd hc) (show s.heap.IsTuple a its.toArray from hl) (by rw [List.toList_toArray]; exact ints_reads rv) (ints_alike (n :: ns)) hd fun i v h' tk bs hv hr hk => ?_
    rw [minD_ints] at hr
    cases hr
    exact ⟨.int _, H, I.kept hk, ⟨_, rfl⟩, q⟩
theorem cr_maxL (hc : X.calm = true) (hu : X.A.units + 64 < cLine) : CallR X (.builtin "max") (rMaxL X.K) := by
  intro pins s σ H vs us Q I r h
  obtain ⟨a, n, ns, rfl, hs, q⟩ := h
  rw [Vals.ref1 r]
  have hd : X.A.units + 1 + PyData.depthAll ((n :: ns).map PyData.int) < cLine := by
    rw [PySem.W.depth_ints]
    omega
  rcases hs with hs | hs
  · obtain ⟨its, rv, hl, _⟩ := I.list hs
    refine PySem.W.max_list_data (I.ok.hd hc) hl.isList (by rw [List.toList_toArray]; exact ints_reads rv) (ints_alike (n :: ns)) hd fun i v h' tk bs hv hr hk => ?_
    rw [maxD_ints] at hr
    cases hr
    exact ⟨.int _, H, I.kept hk, ⟨_, rfl⟩, q⟩
  · obtain ⟨its, rv, hl, _⟩ := I.tuple hs
    refine PySem.W.max_tuple_data (I.ok.hd hc) (show s.heap.IsTuple a its.toArray from hl) (by rw [List.toList_toArray]; exact ints_reads rv) (ints_alike (n :: ns)) hd fun i v h' tk bs hv hr hk => ?_
    rw [maxD_ints] at hr
    cases hr
    exact ⟨.int _, H, I.kept hk, ⟨_, rfl⟩, q⟩
theorem cr_sumL (hc : X.calm = true) : CallR X (.builtin "sum") (rSumL X.K) := by
  intro pins s σ H vs us Q I r h
  obtain ⟨a, ns, rfl, hs, q⟩ := h
  rcases hs with hs | hs
  · exact cr_sum hc pins s σ H _ us Q I r ⟨a, ns, rfl, hs, q⟩
  · rw [Vals.ref1 r]
    obtain ⟨its, rv, hl, _⟩ := I.tuple hs
    have hi := rv.ints
    have hl : s.heap.IsTuple a its.toArray := hl
    obtain ⟨xs, hx⟩ := hi.allInts.items
    have hn : numsOf its.toArray.toList = ns := by rw [show its.toArray.toList = its from rfl, hi.numsOf]
    rw [hx] at hl hn
    rw [nums_intItems] at hn
    refine PySem.W.ktm_sumG (I.ok.hd hc) hl fun h' tk t' hk => ?_
    refine ⟨.int _, H, I.kept hk, ⟨_, rfl⟩, ?_⟩
    rw [preSum_eq, List.take_of_length_le (by simp), hn]
    exact q
def minK : List D → Option Opd
  | [d] => match d.seq with
    | some ds => (match intsD ds with
      | some (n :: ns) => some (.val (.int (minF n ns)))
      | _ => none)
    | none => none
  | _ => none
def maxK : List D → Option Opd
  | [d] => match d.seq with
    | some ds => (match intsD ds with
      | some (n :: ns) => some (.val (.int (maxF n ns)))
      | _ => none)
    | none => none
  | _ => none
def sumLK : List D → Option Opd
  | [d] => match d.seq with
    | some ds => (match intsD ds with
      | some ns => some (.val (.int ns.sum))
      | none => none)
    | none => none
  | _ => none
variable {e : Expr} {p pos : Pos} {F : SA}
theorem seq_ints {K : PySem.W.Frag} {G : Fr} {ρ : En} {σ : St} {H : Hp} {r : Opd} {v : V} {d : D} {ds : List D} {ns : List Int} (R : Rel K G ρ σ H) (o : OpOk K G ρ σ H r v) (e : res ρ r = some d) (es : d.seq = some ds) (hi : intsD ds = some ns) : ∃ a, v = .ref a ∧ (SqL K H a (ns.map V.int) ∨ SqT K H a (ns.map V.int)) := by
  obtain ⟨a, xs, h1, h2, h3⟩ := o.seq R e es
  rw [intsD_eq hi] at h3
  have := RepAll.ints_of h3
  subst this
  exact ⟨a, h1, h2⟩
theorem Ex.minL (hc : X.calm = true) (hu : X.A.units + 64 < cLine) (hm : X.mg "min" = none) (ha : Ar X [e] F) (hg : Gl X "min" := by rfl) (he : starEach [e] X.env = (false, eval e X.env) :: starEach [] X.env := by rfl) : Ex X (.Call (.Name "min" p) [e] [] pos) (bltE minK F) :=
  Ex.bltB (cr_minL hc hu) (fun G ρ σ H rs vs ds o Q R w e1 e2 hQ => by
    unfold minK at e2
    split at e2
    · obtain ⟨r, v, rfl, rfl, o, er⟩ := ops1 w e1
      split at e2
      · rename_i ds' q
        split at e2
        · rename_i n ns hi
          cases e2
          obtain ⟨a, rfl, h⟩ := seq_ints R o er q hi
          exact ⟨a, n, ns, rfl, h, hQ _ _ (post_same R (.int _))⟩
        · cases e2
      · cases e2
    · cases e2) (by decide +kernel) hm ha hg (by decide) (by decide) he rfl
theorem Ex.maxL (hc : X.calm = true) (hu : X.A.units + 64 < cLine) (hm : X.mg "max" = none) (ha : Ar X [e] F) (hg : Gl X "max" := by rfl) (he : starEach [e] X.env = (false, eval e X.env) :: starEach [] X.env := by rfl) : Ex X (.Call (.Name "max" p) [e] [] pos) (bltE maxK F) :=
  Ex.bltB (cr_maxL hc hu) (fun G ρ σ H rs vs ds o Q R w e1 e2 hQ => by
    unfold maxK at e2
    split at e2
    · obtain ⟨r, v, rfl, rfl, o, er⟩ := ops1 w e1
      split at e2
      · rename_i ds' q
        split at e2
        · rename_i n ns hi
          cases e2
          obtain ⟨a, rfl, h⟩ := seq_ints R o er q hi
          exact ⟨a, n, ns, rfl, h, hQ _ _ (post_same R (.int _))⟩
        · cases e2
      · cases e2
    · cases e2) (by decide +kernel) hm ha hg (by decide) (by decide) he rfl
theorem Ex.sumL (hc : X.calm = true) (hm : X.mg "sum" = none) (ha : Ar X [e] F) (hg : Gl X "sum" := by rfl) (he : starEach [e] X.env = (false, eval e X.env) :: starEach [] X.env := by rfl) : Ex X (.Call (.Name "sum" p) [e] [] pos) (bltE sumLK F) :=
  Ex.bltB (cr_sumL hc) (fun G ρ σ H rs vs ds o Q R w e1 e2 hQ => by
    unfold sumLK at e2
    split at e2
    · obtain ⟨r, v, rfl, rfl, o, er⟩ := ops1 w e1
      split at e2
      · rename_i ds' q
        split at e2
        · rename_i ns hi
          cases e2
          obtain ⟨a, rfl, h⟩ := seq_ints R o er q hi
          exact ⟨a, ns, rfl, h, hQ _ _ (post_same R (.int _))⟩
        · cases e2
      · cases e2
    · cases e2) (by decide +kernel) hm ha hg (by decide) (by decide) he rfl
end
/-! ### chains -/
/-- a op b op' c -/
def chainE (k k' : D → D → Option Bool) (f g h : SE) : SE := fun ρ => match f ρ with
  | none => none
  | some (r1, ρ1) => match g ρ1 with
    | none => none
    | some (r2, ρ2) => match res ρ2 r1, res ρ2 r2 with
      | some a, some b => (match k a b with
        | some false => some (.val (.bl false), ρ2)
        | some true => (match h ρ2 with
          | some (r3, ρ3) => match res ρ3 r2, res ρ3 r3 with
            | some b', some c => (k' b' c).map fun t => (.val (.bl t), ρ3)
            | _, _ => none
          | none => none)
        | none => none)
      | _, _ => none
section
variable {X : Cx} {a b c : Expr} {f g h : SE} {pos : Pos} {op op' : CmpOp} {k k' : D → D → Option Bool}
theorem chain_elim {K : PySem.W.Frag} {r r' : R2} {Q : VK} {σ : St} {H : Hp}
    (hk : ∀ G ρ σ H r1 r2 a b x y c (Q : VK), Rel K G ρ σ H → OpOk K G ρ σ H r1 x → OpOk K G ρ σ H r2 y → res ρ r1 = some a → res ρ r2 = some b → k a b = some c → Q (.bl c) H → r x y H Q)
    (hk' : ∀ G ρ σ H r1 r2 a b x y c (Q : VK), Rel K G ρ σ H → OpOk K G ρ σ H r1 x → OpOk K G ρ σ H r2 y → res ρ r1 = some a → res ρ r2 = some b → k' a b = some c → Q (.bl c) H → r' x y H Q)
    (hh : tE K (chainE k k' f g h) σ H Q) : tChain r r' (tE K f) (tE K g) (tE K h) σ H Q := by
  obtain ⟨G, ρ, ro, ρ', R0, hf, hQ⟩ := hh
  unfold chainE at hf
  split at hf
  · cases hf
  rename_i r1 ρ1 e1
  split at hf
  · cases hf
  rename_i r2 ρ2 e2
  split at hf
  · rename_i da db ea eb
    refine ⟨G, ρ, r1, ρ1, R0, e1, fun x H1 P1 => ⟨G.plus r1 x, ρ1, r2, ρ2, P1.relP, e2, fun y H2 P2 => ?_⟩⟩
    have R2 : Rel K G ρ2 σ H2 := P2.rel.unplus
    have o1 : OpOk K G ρ2 σ H2 r1 x := P1.later R0 P2.step
    have o2 : OpOk K G ρ2 σ H2 r2 y := (P2.ok P1.relP).unplus
    have S2 := P1.step.trans P2.step
    split at hf
    · rename_i ek
      cases hf
      refine hk G ρ' σ H2 r1 r2 da db x y false _ R2 o1 o2 ea eb ek ⟨false, rfl, ?_⟩
      rw [if_neg Bool.false_ne_true]
      exact hQ _ _ ⟨S2, R2, .bl false⟩
    · rename_i ek
      split at hf
      · rename_i r3 ρ3 e3
        split at hf
        · rename_i db' dc eb' ec
          cases q : k' db' dc with
          | none => rw [q] at hf; cases hf
          | some t =>
            rw [q] at hf
            cases hf
            refine hk G ρ2 σ H2 r1 r2 da db x y true _ R2 o1 o2 ea eb ek ⟨true, rfl, ?_⟩
            rw [if_pos rfl]
            have R2p : Rel K ((G.plus r1 x).plus r2 y) ρ2 σ H2 := P2.relP
            refine ⟨(G.plus r1 x).plus r2 y, ρ2, r3, ρ', R2p, e3, fun w H3 P3 => ?_⟩
            have R3 : Rel K G ρ' σ H3 := P3.rel.unplus.unplus
            have o2' : OpOk K G ρ' σ H3 r2 y := (P2.later P1.relP P3.step).unplus
            have o3 : OpOk K G ρ' σ H3 r3 w := (P3.ok R2p).unplus.unplus
            exact hk' G ρ' σ H3 r2 r3 db' dc y w t _ R3 o2' o3 eb' ec q (hQ _ _ ⟨S2.trans P3.step, R3, .bl t⟩)
        · cases hf
      · cases hf
    · cases hf
  · cases hf
theorem Ex.chain (ck : CmpK X op k) (ck' : CmpK X op' k') (ha : Ex X a f) (hb : Ex X b g) (hc : Ex X c h) (hm : lastMarks [op, op'] [b, c] = false := by with_unfolding_all rfl) : Ex X (.Compare a [op, op'] [b, c] pos) (chainE k k' f g h) := by
  obtain ⟨r, ho, hk⟩ := ck
  obtain ⟨r', ho', hk'⟩ := ck'
  exact PE.imp (pe_chain ho ho' ha hb hc hm) fun σ H Q hh => chain_elim hk hk' hh
end
/-! ### keywords only -/
section
variable {X : Cx} {k j : Nat} {f : Addr} {fd : FuncData} {ps ks : List Str} {io : Option Nat} {F : Fn} {x qual : Str} {st : Stmt} {p pos : Pos} {kws : List Keyword} {Fk : SA} {m : Nat}
theorem pe_callK0 {CX : CXT} {sp : Sp} {E : XK} {g : List Value → List Value → List Value} {gV : List V → List V → List V} {tk : TA} (Fo : FnOk X.prog X.w X.K X.mg X.base CX k f fd ps sp) (hr : Room k X.A) (hg : Gl X x) (hm : X.mg x = some (.ref f)) (hk : PySem.W.keepIn X.K (.ref f) = true) (hb : KBinds X.K fd ps ks g gV) (hx : Passes CX X E)
    (hkw : PK X kws tk) (hall : (backToKw pos (keywordEach kws X.env)).all (·.1.isSome) = true := by rfl) (hks : (backToKw pos (keywordEach kws X.env)).filterMap (·.1) = ks := by rfl) (hdb : (x == ("__debug__" : Str)) = false := by decide)
    (hpl : ((backTo pos (starEach [] X.env)).any (·.1) || (backToKw pos (keywordEach kws X.env)).any (·.1.isNone)) = false := by rfl) :
    PE X (.Call (.Name x p) [] kws pos) (fun σ H Q => tk σ H fun zs H2 => sp (gV [] zs) H2 Q E) := by
  refine ⟨fun pins s σ H Q I h => ?_⟩
  refine wpAny_Call_Name_kw (ld_glob I hg hm ?_ hdb)
  refine PySem.W.callWith_KW0 (h₀ := X.base) I.ok.mod.kin hk hall (thn (hkw.run pos pins s σ H _ I h) fun ws s2 ⟨zs, H2, I2, rz, q2⟩ => ⟨I2.kIn, ?_⟩) hpl
  rw [hks]
  exact run_fnk (us := []) (vs := []) Fo hr hb hx I2 .nil rz q2
theorem Ex.callK0D (d : DefOk X.prog X.w X.K X.mg X.base k x qual st ps io F) (hr : Room j X.A) (hkj : k ≤ j) (hw : Kw X kws Fk) (hp : ps ≠ [])
    (hb : ∀ (kV doc pm : Value) (an : Option Addr) (cdv ct : Value) (us ws : List Value), us.length = 0 → ws.length = m → bindArgs (PySem.W.fnOf x qual (defArgs st) (defBody st) (defScope st) .none kV doc pm an cdv ct) ⟨us, ks.zip ws⟩ = pure (ps.zip (us ++ ws))) [hl2 : LenA Fk m] (hn : m = ps.length := by rfl)
    (hg : Gl X x := by rfl) (hall : (backToKw pos (keywordEach kws X.env)).all (·.1.isSome) = true := by rfl) (hks : (backToKw pos (keywordEach kws X.env)).filterMap (·.1) = ks := by rfl) (hdb : (x == ("__debug__" : Str)) = false := by decide)
    (hpl : ((backTo pos (starEach [] X.env)).any (·.1) || (backToKw pos (keywordEach kws X.env)).any (·.1.isNone)) = false := by rfl) : Ex X (.Call (.Name x p) [] kws pos) (callE io F Fk) := by
  obtain ⟨f, fd, F', hm, ok⟩ := d.ex
  exact PE.imp (pe_callK0 ok (hr.mono hkj) hg hm F'.kp (kb_of 0 m F' hp hb) pass0 hw hall hks hdb hpl) fun σ H Q ⟨G, ρ, r, ρ', R, hf, hQ⟩ => by
    have q := call_elim (n := ps.length) (E := E0) R hf (fun rs ρ1 z => by rw [hl2.len _ _ _ z, hn]) hQ
    obtain ⟨G1, ρ1, rs, ρ2, R1, e1, h1⟩ := q
    refine ⟨G1, ρ1, rs, ρ2, R1, e1, fun zs H' S A => ?_⟩
    have zl : zs.length = m := by rw [← (A.ok R1).length, hl2.len _ _ _ e1]
    show spP X.K ps.length io F (kwJ 0 m [] zs) H' Q E0
    unfold kwJ
    rw [if_pos ⟨rfl, zl⟩]
    exact h1 zs H' S A
end
end Mi

/-! enumerate of tuples; for over enumerate, zip. -/
namespace MiE
open PySem
open Sem (wp)
open AutoSeq1 (wpAny_loadPart')
set_option maxHeartbeats 1000000 in
theorem new_enumT (t : Addr) (items : Array Value) (n : Nat) (dct : Option Addr) (sl : Array (Option Value)) :
    Meets (Builtin.«enumerate.__new__» ⟨[.type "enumerate", .ref t], []⟩) (fun _ R s => s.heap.get? t = some { cls := .type "tuple", dict := dct, data := .seq items n, slots := sl } ∧
      R (.ok (.ret (.ref (s.heap.push { cls := .type "tuple_iterator", data := .fields #[.ref t, .int 0 0] }).objs.size)))
        { s with heap := (s.heap.push { cls := .type "tuple_iterator", data := .fields #[.ref t, .int 0 0] }).push { cls := .type "enumerate", data := .fields #[.none, .bool false, .ref s.heap.objs.size, rawInt 0, .none, .none] } }) :=
  .of_wp fun prog w A R s q => by
    obtain ⟨hp, g, d, tk, os⟩ := s; obtain ⟨ht, q⟩ := q
    have hsub := sub_enumerate
    have hT : Heap.IsTuple (Shared.heap ⟨hp, g, d, tk, os⟩) t items := ⟨_, ht, rfl, n, rfl⟩
    wp_walk using wpAny_loadPart' ht
    refine wpAny_stack_any fun st => wpAny_pure ?_
    split
    · rename_i c _ _ _ _ _
      cases (c == Value.type "enumerate")
      · wp_walk using wpAny_loadPart' ht, wpAny_pyIter_tuple hT
        exact ⟨_, rfl, q⟩
      · wp_walk using wpAny_loadPart' ht, wpAny_pyIter_tuple hT
        exact ⟨_, rfl, q⟩
    · wp_walk using wpAny_loadPart' ht, wpAny_pyIter_tuple hT
      exact ⟨_, rfl, q⟩
section
variable {prog : Program} {w : World} {A : Around} {E : Value → Shared → Prop} {s : Shared}
theorem call_enumT {t : Addr} {items : Array Value} {Q : Value → Shared → Prop} (hT : s.heap.IsTuple t items)
    (fin : ∀ h', IsEnum h' (s.heap.objs.size + 1) s.heap.objs.size 0 .none → h'.IsTupleIter s.heap.objs.size t 0 → h'.objs.size = s.heap.objs.size + 2 →
      (∀ b o, s.heap.get? b = some o → h'.get? b = some o) → Q (.ref (s.heap.objs.size + 1)) { s with heap := h' }) :
    wpAny (model prog w) A (call (.type "enumerate") [.ref t]) Q E s := by
  obtain ⟨⟨c, dct, dt, sl⟩, ht, hc, n, hd⟩ := hT
  replace hc : c = .type "tuple" := hc
  replace hd : dt = .seq items n := hd
  subst hc hd
  refine callType_new F.called_enumerate (by decide) (F.typeCall_enumerate_1 _) (F.newCall_enumerate_1 _) (fun obj => F.args_object_init_2 obj _) F.entry_enumerate_new
    (new_enumT t items n dct sl) ⟨ht, ?_⟩
  have hz : (s.heap.push { cls := .type "tuple_iterator", data := .fields #[.ref t, .int 0 0] }).objs.size = s.heap.objs.size + 1 := Heap.size_push ..
  show _ ∧ _
  rw [hz]
  have he : IsEnum ((s.heap.push { cls := .type "tuple_iterator", data := .fields #[.ref t, .int 0 0] }).push
      { cls := .type "enumerate", data := .fields #[.none, .bool false, .ref s.heap.objs.size, rawInt 0, .none, .none] }) (s.heap.objs.size + 1) s.heap.objs.size 0 .none := by
    have := Heap.get?_push_size (s.heap.push { cls := .type "tuple_iterator", data := .fields #[.ref t, .int 0 0] })
      (o := { cls := .type "enumerate", data := .fields #[.none, .bool false, .ref s.heap.objs.size, rawInt 0, .none, .none] }) rfl
    rw [hz] at this; exact this
  refine ⟨⟨_, he, rfl⟩, fin _ he ⟨_, Heap.get?_push_of_some _ (Heap.get?_push_size _ rfl), rfl, rfl⟩ (by rw [Heap.size_push, hz]) fun b o x => Heap.get?_push_of_some _ (Heap.get?_push_of_some _ x)⟩
end
end MiE
namespace Mi
open PySem PySem.Spec
open PyProof.Rows hiding St
open L2
/-- the tuple at a as it stands, its items numbered -/
def IteT (K : PySem.W.Frag) (a : Addr) : It :=
  ⟨fun i H => ∃ xs x, SqT K H a xs ∧ xs[i]? = some x, fun i H v H' => ∃ T x, v = .ref T ∧ H T = none ∧ H' = upd H T (.tup [.int (i : Nat), x]) ∧ ∀ xs, SqT K H a xs → xs[i]? = some x, fun i H => ∃ xs, SqT K H a xs ∧ xs.length ≤ i⟩
theorem turn_enumT {P : Program} {w : World} {K : PySem.W.Frag} {elts : List Expr} {kk : Nat} {tpos : Pos} (a e it : Addr) (ha : a ≠ it) (hea : e ≠ a) :
    Turn P w K (.Tuple elts kk tpos) (IteT K a) [e, it] e (fun i h => (∃ old, IsEnum h e it ((i : Nat) : Int) old) ∧ h.IsTupleIter it a i ∧ e ≠ it) where
  mem := by simp
  obj := fun i h st b hb => by
    obtain ⟨⟨old, he⟩, ⟨o, ho, hc, hd⟩, _⟩ := st
    have e' : b = e ∨ b = it := by simpa using hb
    rcases e' with z | z
    · rw [z]; exact ⟨_, he, fun v q => nomatch q⟩
    · rw [z]; exact ⟨o, ho, fun v q => by rw [hd] at q; cases q⟩
  keep := fun i h h' st k => let ⟨⟨old, he⟩, hi, hne⟩ := st; ⟨⟨old, k e (by simp) _ he⟩, hi.at fun o q => k it (by simp) o q, hne⟩
  item := by
    intro X hP hw hK hc i pins s σ H E I hf st hg
    subst hP hw hK
    obtain ⟨⟨old, he⟩, hit, hne⟩ := st
    obtain ⟨xs, x, hq, hx⟩ := hg
    obtain ⟨its, rv, p, hz⟩ := I.tuple hq
    obtain ⟨u, hu, ru⟩ := rv.get hx
    have hel : e < s.heap.objs.size := Heap.lt_size he
    have hil : it < s.heap.objs.size := by obtain ⟨_, q, _⟩ := hit; exact Heap.lt_size q
    have hlt : i < its.length := (List.getElem?_eq_some_iff.mp hu).1
    refine wpAny_pyNext_enum_itemD (PySem.Draws.tuple (A := X.A.in1) (show X.A.in1.handled = none from I.ok.hd hc) it a ha its.toArray) he ⟨hit, show s.heap.IsTuple a its.toArray from p⟩ (by simpa using hlt) hne (by simp [hne, hea]) fun y h' tk py ho st' hT hsz hk => ?_
    have ey : y = u := by
      have q : its[i]? = some y := by simpa using py
      rw [hu] at q
      cases q; rfl
    subst ey
    refine ⟨_, rfl, wpAny_letOwnedTupleGo_enum (s := { s with heap := h', toks := tk + 1 }) ho fun h'' he' sb => ?_⟩
    have hT2 : h''.get? s.heap.objs.size = some { cls := .type "tuple", data := .seq #[.int i tk, y] } := (sb.2 _ (Nat.ne_of_gt hel)).trans hT
    have new : ObjOk X.prog X.w (upd H s.heap.objs.size (.tup [.int (i : Nat), x])) h'' s.heap.objs.size (.tup [.int (i : Nat), x]) :=
      ⟨by show 2 ≤ sizeLine; decide, [.int i tk, y], .cons ⟨_, rfl⟩ (.cons ru .nil), ⟨_, hT2, rfl, _, rfl⟩⟩
    have I1 : Inv X pins σ (upd H s.heap.objs.size (.tup [.int (i : Nat), x])) { s with heap := h'', toks := tk + 1 } :=
      I.turnedNew (ch := [e, it]) (fun b ob hb q => (sb.2 b (fun z => hb (by simp [z]))).trans (hk b ob (fun z => hb (by simp [z])) (fun z => hb (by simp [z])) q)) hf (Nat.le_refl _) new
    refine ⟨.ref s.heap.objs.size, _, I1, rfl, ⟨_, x, rfl, I.hok.fresh (Nat.le_refl _), rfl, fun ys hy => by rw [I.tuple_inj hy hq]; exact hx⟩, ⟨⟨y, ?_⟩, st'.1.at fun o q => (sb.2 it (Ne.symm hne)).trans q, hne⟩, fun b hb => ?_⟩
    · have e1 : ((i + 1 : Nat) : Int) = (i : Int) + 1 := by omega
      rw [e1]; exact he'
    · have hb' : b < s.heap.objs.size := by
        have e' : b = e ∨ b = it := by simpa using hb
        rcases e' with z | z
        · rw [z]; exact hel
        · rw [z]; exact hil
      rw [upd_ne (Nat.ne_of_lt hb')]
      exact (hf b hb).1
  done := by
    intro X hP hw hK hc i pins s σ H E I hf st hg
    subst hP hw hK
    obtain ⟨⟨old, he⟩, hit, hne⟩ := st
    obtain ⟨xs, hq, hx⟩ := hg
    obtain ⟨its, rv, p, hz⟩ := I.tuple hq
    obtain ⟨f0, f1, f2, f3, f4, f5⟩ := hf it (by simp)
    have hl := rv.length
    have hT : s.heap.IsTuple a its.toArray := p
    have TT : s.TypeIs (.ref e) "enumerate" := ⟨_, he, rfl⟩
    unfold pyNext
    refine wpAny_bind (wpAny_attempt (wpAny_callSpecial?_slot (name := Str.ofString "__next__") TT PySem.F.slot_enumerate_next
      (wpAny_call_entry PySem.F.slot_enumerate_next TT PySem.F.entry_enumerate_next ?_ (PySem.F.args_enumerate_next_1 _))))
    show wpAny _ _ (field (.ref e) 2 >>= _) _ _ _
    refine wpAny_bind (wpAny_field he rfl (x := .ref it) rfl ?_)
    refine wpAny_bind (PySem.wpAny_nextOf_tuple_end (I.ok.hd hc) hit hT (by simp; omega) fun h' x he' hx' => ?_)
    obtain ⟨o, ho, hcx⟩ := hx'
    refine wpAny_bind (wpAny_isInstance (T := "StopIteration") (b := true) ⟨o, ho, hcx⟩ isSubtype_stop ?_)
    exact wpAny_pure ⟨rfl, I.turned (t' := s.toks) (fun b o hb q => he' b o hb q) f0 f1 f3 f4 f5⟩
  self := fun A i s Q E st h => let ⟨⟨_, he⟩, _⟩ := st; wpAny_pyIter_enum he h
def iEnumA (K : PySem.W.Frag) (ta : TA) : TI := fun σ H R => ta σ H fun vs H1 => ∃ a xs, vs = [.ref a] ∧ ((SqL K H1 a xs ∧ R (Ite K a) H1) ∨ (SqT K H1 a xs ∧ R (IteT K a) H1))
theorem pi_enumA {X : Cx} {e : Expr} {ta : TA} {p pos tpos : Pos} {elts : List Expr} {kk : Nat} (hg : Gl X "enumerate") (hm : X.mg "enumerate" = none) (ha : PA X [e] ta) (hs : starEach [e] X.env = [(false, eval e X.env)] := by rfl) :
    PI X (.Tuple elts kk tpos) (.Call (.Name "enumerate" p) [e] [] pos) (iEnumA X.K ta) := by
  refine ⟨fun pins s σ H R I h => ?_⟩
  refine Call_ (ld_blt I hg hm boot_enumerate (PyProof.Rows.callWith_type1 (thn (ha.run pos pins s σ H _ I h) fun us s1 ⟨vs, H1, I1, r1, q1⟩ => ?_) hs rfl))
  obtain ⟨a, xs, ex, q1⟩ := q1
  subst ex
  cases r1 with
  | cons r rr =>
    cases rr
    cases r
    have fresh2 : ∀ b ∈ [s1.heap.objs.size + 1, s1.heap.objs.size], FpOk X pins H1 b := fun b hb => by
      have e' : b = s1.heap.objs.size + 1 ∨ b = s1.heap.objs.size := by simpa using hb
      have hle : s1.heap.objs.size ≤ b := by
        rcases e' with z | z
        · rw [z]; exact Nat.le_add_right _ _
        · rw [z]; exact Nat.le_refl _
      exact I1.fpOk hle (I1.hok.fresh hle)
    rcases q1 with ⟨hq, q⟩ | ⟨hq, q⟩
    · obtain ⟨its, rv, p', hz⟩ := I1.list hq
      refine call_enumerate_list p'.isList fun h' he hit hsz hk => wpAny_pyIter_enum he ?_
      exact ⟨s1.heap.objs.size + 1, [s1.heap.objs.size + 1, s1.heap.objs.size], _, _, H1, rfl, I1.kept (t' := s1.toks) hk, turn_enum a (s1.heap.objs.size + 1) s1.heap.objs.size, ⟨⟨.none, he⟩, hit, Nat.succ_ne_self _⟩, fresh2, q⟩
    · obtain ⟨its, rv, p', hz⟩ := I1.tuple hq
      have hT : s1.heap.IsTuple a its.toArray := p'
      have lt : a < s1.heap.objs.size := let ⟨o, e, _⟩ := hT; Heap.lt_size e
      refine MiE.call_enumT hT fun h' he hit hsz hk => wpAny_pyIter_enum he ?_
      exact ⟨s1.heap.objs.size + 1, [s1.heap.objs.size + 1, s1.heap.objs.size], _, _, H1, rfl, I1.kept (t' := s1.toks) hk, turn_enumT a (s1.heap.objs.size + 1) s1.heap.objs.size (Nat.ne_of_lt lt) (Nat.ne_of_gt (Nat.lt_succ_of_lt lt)), ⟨⟨.none, he⟩, hit, Nat.succ_ne_self _⟩, fresh2, q⟩
theorem walk_enumT {K : PySem.W.Frag} {a : Addr} {xs : List V} : Walk (IteT K a) xs.length (fun H => SqT K H a xs) (YPair (fun i => some (.int (i : Nat))) (fun i => xs[i]?)) := by
  refine ⟨fun i _ hi q => ⟨xs, xs[i], q, by simp [hi]⟩, fun _ q => ⟨xs, q, Nat.le_refl _⟩, fun i H v H' _ q y => ?_⟩
  obtain ⟨T, x, h1, h2, h3, h4⟩ := y
  exact ⟨T, .int (i : Nat), x, h1, h2, h3, rfl, h4 xs q⟩
end Mi

/-! for .. in enumerate(..), zip(..). -/
namespace Mi
open PySem PySem.Spec
open PyProof.Rows hiding St
open L2

def enumD : Nat → List D → List D
  | _, [] => []
  | i, d :: ds => .tup [.int i, d] :: enumD (i + 1) ds
theorem enumD_len : ∀ (k : Nat) (ds : List D), (enumD k ds).length = ds.length
  | _, [] => rfl
  | k, d :: ds => by simp [enumD, enumD_len (k + 1) ds]
theorem enumD_at : ∀ (k : Nat) (ds : List D) (i : Nat), (enumD k ds)[i]? = ds[i]?.map fun d => .tup [.int ((k + i : Nat) : Int), d]
  | _, [], i => by simp [enumD]
  | k, d :: ds, 0 => by simp [enumD]
  | k, d :: ds, i + 1 => by
    simp only [enumD, List.getElem?_cons_succ, enumD_at (k + 1) ds i]
    rw [show k + 1 + i = k + (i + 1) by omega]
def zipD (xs ys : List D) : List D := (xs.zip ys).map fun p => .tup [p.1, p.2]
/-- a list or a tuple: which, its items -/
def D.ls : D → Option (Bool × List D)
  | .lst xs => some (true, xs)
  | .tup xs => some (false, xs)
  | .kt xs => some (false, xs)
  | _ => none
section
variable {K : PySem.W.Frag} {G : Fr} {ρ : En} {σ : St} {H : Hp} {r : Opd} {rs : List Opd} {v : V} {ds : List D} {d0 : D} {b : Bool}
/-- what is walked stays -/
theorem seq_stays (R : Rel K G ρ σ H) (o : OpOk K G ρ σ H r v) (e : res ρ r = some d0) (hr : r ∈ rs) (hb : d0.ls = some (b, ds)) :
    ∃ a xs, v = .ref a ∧ RepAll K H (Av G ρ σ) xs ds ∧ ((b = true ∧ SqL K H a xs ∧ ∀ H', (∀ c u, H c = some u → ¬ Wr (lockAll (toLock ρ rs) ρ) σ c → H' c = some u) → SqL K H' a xs) ∨ (b = false ∧ SqT K H a xs ∧ ∀ H', (∀ c u, H c = some u → ¬ Wr (lockAll (toLock ρ rs) ρ) σ c → H' c = some u) → SqT K H' a xs)) := by
  unfold D.ls at hb
  split at hb
  · cases hb
    obtain ⟨a, xs, h1, h2, h3, h4⟩ := lst_keeps (rs := rs) R o e hr
    exact ⟨a, xs, h1, h3, .inl ⟨rfl, SqL.of h2, fun H' k => SqL.of (k _ _ h2 h4)⟩⟩
  · cases hb
    obtain ⟨a, xs, h1, h2, h3⟩ := o.tup R e
    refine ⟨a, xs, h1, h3, .inr ⟨rfl, SqT.of h2, fun H' k => SqT.of (k _ _ h2 fun z => ?_)⟩⟩
    obtain ⟨_, _, o2, _⟩ := Rel.locked (rs := rs) R
    exact Wr.notTup R h2 rfl (o2 a z)
  · cases hb
    obtain ⟨a, xs, h1, h2, h3⟩ := o.kt R e
    exact ⟨a, xs, h1, h3, .inr ⟨rfl, .inr h2, fun H' k => .inr h2⟩⟩
  · cases hb
/-- pairs that are made -/
theorem pair_item {A : Addr → Prop} {H1 H2 : Hp} {T : Addr} {x y : V} {d d' : D} (hT : H1 T = none) (e : H2 = L2.upd H1 T (.tup [x, y])) (wx : Rep K H1 A x d) (wy : Rep K H1 A y d') : (∀ c u, H1 c = some u → H2 c = some u) ∧ Rep K H2 A (.ref T) (.tup [d, d']) := by
  subst e
  have ext : ∀ c u, H1 c = some u → (L2.upd H1 T (.tup [x, y])) c = some u := fun c u e => by rw [upd_ne (ne_of_none e hT)]; exact e
  have g : Goes H1 (L2.upd H1 T (.tup [x, y])) A A := ⟨fun c u e _ => ext c u e, fun c u e _ => ext c u e, fun _ z _ => z⟩
  exact ⟨ext, .tup upd_same (.cons (wx.go g) (.cons (wy.go g) .nil))⟩
theorem walkD_enumL (R : Rel K G ρ σ H) (o : OpOk K G ρ σ H r v) (e : res ρ r = some d0) (hb : d0.ls = some (b, ds)) :
    ∃ a xs, v = .ref a ∧ ((SqL K H a xs ∧ WalkD K G ρ σ H [r] (enumD 0 ds) (Ite K a)) ∨ (SqT K H a xs ∧ WalkD K G ρ σ H [r] (enumD 0 ds) (IteT K a))) := by
  obtain ⟨a, xs, ev, w, hs⟩ := seq_stays (rs := [r]) R o e (by simp) hb
  have item : ∀ (i : Nat) (H1 : Hp) (x : V) (H2 : Hp) (d : D) (A : Addr → Prop), (enumD 0 ds)[i]? = some d → YPair (fun i => some (.int (i : Nat))) (fun i => xs[i]?) i H1 x H2 → Goes H H1 (Av G ρ σ) A → (∀ c u, H1 c = some u → H2 c = some u) ∧ Rep K H2 A x d := fun i H1 x H2 d A ed y g => by
    obtain ⟨T, x1, y1, rfl, hT, e2, hx, hy⟩ := y
    cases hx
    obtain ⟨d', f1, f2⟩ := w.getV hy
    rw [enumD_at, f1, Nat.zero_add] at ed
    cases ed
    exact pair_item hT e2 (.int _) (f2.go g)
  refine ⟨a, xs, ev, ?_⟩
  rcases hs with ⟨_, h, k⟩ | ⟨_, h, k⟩
  · exact .inl ⟨h, _, _, by rw [enumD_len, ← w.length]; exact walk_enum, k, fun i H1 x H2 d A ed y _ g => item i H1 x H2 d A ed y g⟩
  · exact .inr ⟨h, _, _, by rw [enumD_len, ← w.length]; exact walk_enumT, k, fun i H1 x H2 d A ed y _ g => item i H1 x H2 d A ed y g⟩
theorem walk_zipT {a b : Addr} {xs ys : List V} {n : Nat} (hn : n = min xs.length ys.length) : Walk (RZ.ItzT K a b) n (fun H => SqT K H a xs ∧ SqT K H b ys) (YPair (fun i => xs[i]?) (fun i => ys[i]?)) := by
  subst hn
  refine ⟨fun i _ hi q => ?_, fun _ q => ⟨xs, ys, q.1, q.2, by omega⟩, fun i H v H' _ q y => ?_⟩
  · have h1 : i < xs.length := by omega
    have h2 : i < ys.length := by omega
    exact ⟨xs, ys, xs[i], ys[i], q.1, q.2, by simp [h1], by simp [h2]⟩
  · obtain ⟨T, x, z, h1, h2, h3, h4, h5⟩ := y
    exact ⟨T, x, z, h1, h2, h3, h4 xs q.1, h5 ys q.2⟩
end
def enumI (F : SA) : SI := fun ρ => match F ρ with
  | some ([r], ρ1) => match res ρ1 r with
    | some d => (match d.ls with
      | some (_, ds) => some ([r], enumD 0 ds, ρ1)
      | none => none)
    | none => none
  | _ => none
def zipI (F : SA) : SI := fun ρ => match F ρ with
  | some ([r, r'], ρ1) => match res ρ1 r, res ρ1 r' with
    | some d, some d' => (match d.ls, d'.ls with
      | some (b, xs), some (b', ys) => if b = b' then some ([r, r'], zipD xs ys, ρ1) else none
      | _, _ => none)
    | _, _ => none
  | _ => none
section
variable {X : Cx} {e e2 : Expr} {p pos tpos : Pos} {elts : List Expr} {kk : Nat} {F : SA}
theorem Ix.enum (hm : X.mg "enumerate" = none) (ha : Ar X [e] F) (hg : Gl X "enumerate" := by rfl) (hs : starEach [e] X.env = [(false, eval e X.env)] := by rfl) : Ix X (.Tuple elts kk tpos) (.Call (.Name "enumerate" p) [e] [] pos) (enumI F) :=
  PI.imp (pi_enumA hg hm ha hs) fun σ H Q ⟨G, ρ, rs, ds, ρ', R, hf, hQ⟩ => by
    unfold enumI at hf
    split at hf
    · rename_i r ρ1 e1
      split at hf
      · rename_i d ed
        split at hf
        · rename_i b ds' hb
          cases hf
          refine ⟨G, ρ, [r], ρ', R, e1, fun vs H' S A => ?_⟩
          obtain ⟨v, rfl, o⟩ := opsOk1 (A.ok R)
          obtain ⟨a, xs, rfl, h⟩ := walkD_enumL A.rel o ed hb
          refine ⟨a, xs, rfl, ?_⟩
          rcases h with ⟨h1, h2⟩ | ⟨h1, h2⟩
          · exact .inl ⟨h1, hQ _ _ S A.rel h2⟩
          · exact .inr ⟨h1, hQ _ _ S A.rel h2⟩
        · cases hf
      · cases hf
    · cases hf
theorem Ix.zip (hm : X.mg "zip" = none) (ha : Ar X [e, e2] F) (hg : Gl X "zip" := by rfl) (hs : starEach [e, e2] X.env = (false, eval e X.env) :: starEach [e2] X.env := by rfl) (hpl : (backTo pos (starEach [e2] X.env)).any (·.1) = false := by rfl) : Ix X (.Tuple elts kk tpos) (.Call (.Name "zip" p) [e, e2] [] pos) (zipI F) :=
  PI.imp (RZ.pi_zipA hg hm ha hs hpl) fun σ H Q ⟨G, ρ, rs, ds, ρ', R, hf, hQ⟩ => by
    unfold zipI at hf
    split at hf
    · rename_i r r' ρ1 e1
      split at hf
      · rename_i d d' ed ed'
        split at hf
        · rename_i b xs b' ys hb hb'
          split at hf
          · rename_i hbb
            cases hf
            subst hbb
            refine ⟨G, ρ, [r, r'], ρ', R, e1, fun vs H' S A => ?_⟩
            obtain ⟨v, w, rfl, o, o'⟩ := opsOk2 (A.ok R)
            obtain ⟨a, us, rfl, w1, h1⟩ := seq_stays (rs := [r, r']) A.rel o ed (by simp) hb
            obtain ⟨c, zs, rfl, w2, h2⟩ := seq_stays (rs := [r, r']) A.rel o' ed' (by simp) hb'
            have hlen : (zipD xs ys).length = min us.length zs.length := by
              unfold zipD
              rw [List.length_map, List.length_zip, w1.length, w2.length]
            have item : ∀ (i : Nat) (H1 : Hp) (x : V) (H2 : Hp) (d : D) (A : Addr → Prop), (zipD xs ys)[i]? = some d → YPair (fun i => us[i]?) (fun i => zs[i]?) i H1 x H2 → Goes H' H1 (Av G ρ' σ) A → (∀ c u, H1 c = some u → H2 c = some u) ∧ Rep X.K H2 A x d := fun i H1 x H2 d A ed y g => by
              obtain ⟨T, x1, y1, rfl, hT, e2, hx, hy⟩ := y
              obtain ⟨d1, f1, f2⟩ := w1.getV hx
              obtain ⟨d2, f3, f4⟩ := w2.getV hy
              unfold zipD at ed
              rw [List.getElem?_map, (List.getElem?_zip_eq_some (z := (d1, d2))).mpr ⟨f1, f3⟩] at ed
              cases ed
              exact pair_item hT e2 (f2.go g) (f4.go g)
            refine ⟨a, c, us, zs, rfl, ?_⟩
            rcases h1 with ⟨q, s1, k1⟩ | ⟨q, s1, k1⟩
            · rcases h2 with ⟨q', s2, k2⟩ | ⟨q', s2, k2⟩
              · have wk : WalkD X.K G ρ' σ H' [r, r'] (zipD xs ys) (Itz X.K a c) := ⟨fun H => SqL X.K H a us ∧ SqL X.K H c zs, YPair (fun i => us[i]?) (fun i => zs[i]?), by rw [hlen]; exact walk_zip rfl, fun H'' k => ⟨k1 H'' k, k2 H'' k⟩, fun i H1 x H2 d A ed y _ g => item i H1 x H2 d A ed y g⟩
                exact .inl ⟨s1, s2, hQ _ _ S A.rel wk⟩
              · rw [q] at q'; cases q'
            · rcases h2 with ⟨q', s2, k2⟩ | ⟨q', s2, k2⟩
              · rw [q] at q'; cases q'
              · have wk : WalkD X.K G ρ' σ H' [r, r'] (zipD xs ys) (RZ.ItzT X.K a c) := ⟨fun H => SqT X.K H a us ∧ SqT X.K H c zs, YPair (fun i => us[i]?) (fun i => zs[i]?), by rw [hlen]; exact walk_zipT rfl, fun H'' k => ⟨k1 H'' k, k2 H'' k⟩, fun i H1 x H2 d A ed y _ g => item i H1 x H2 d A ed y g⟩
                exact .inr ⟨s1, s2, hQ _ _ S A.rel wk⟩
          · cases hf
        · cases hf
      · cases hf
    · cases hf
end
end Mi

/-! * of a list or a tuple and an int. -/
namespace Mi
open PySem PySem.Spec
open PyProof.Rows hiding St
open L2

theorem tuple_mul1W (l : Addr) (items : Array Value) (n : Nat) (dd : Option Addr) (sl : Array (Option Value)) (u : Tok) :
    Meets (Builtin.«tuple.__mul__» ⟨[.ref l, .int 1 u], []⟩) (fun _ R s => s.heap.get? l = some { cls := .type "tuple", dict := dd, data := .seq items n, slots := sl } ∧ R (.ok (.ret (Value.ref l))) s) :=
  .of_wp fun prog w A R s h => by
    obtain ⟨hp, g, d, tk, os⟩ := s
    obtain ⟨hl, h⟩ := h
    have f1 := AutoSeq1.idx_int
    have c1 : (items.isEmpty || (1 : Int) == 1) = true := by simp
    wp_walk using wpAny_loadPart' hl
    repeat (first
      | (refine wpAny_ite_false (decide_eq_false (by decide)) ?_; wp_walk using wpAny_loadPart' hl)
      | (refine wpAny_ite_true (decide_eq_true (by rw [c1])) ?_; wp_walk using wpAny_loadPart' hl))
    exact ⟨_, rfl, h⟩
theorem tuple_mul0W (l : Addr) (items : Array Value) (n : Nat) (dd : Option Addr) (sl : Array (Option Value)) (x : Int) (u : Tok) (h0 : -(2 ^ 63) ≤ x) (h1 : x ≤ 0) (hi : items.isEmpty = false) :
    Meets (Builtin.«tuple.__mul__» ⟨[.ref l, .int x u], []⟩) (fun _ R s => s.heap.get? l = some { cls := .type "tuple", dict := dd, data := .seq items n, slots := sl } ∧
      R (.ok (.ret (Value.ref s.heap.objs.size))) { s with heap := s.heap.push { cls := Value.type "tuple", data := Data.seq #[] }, toks := s.toks }) :=
  .of_wp fun prog w A R s h => by
    obtain ⟨hp, g, d, tk, os⟩ := s
    obtain ⟨hl, h⟩ := h
    have f1 := AutoSeq1.idx_int
    have c0 : (decide (x < -(2 ^ 63)) || decide (x ≥ 2 ^ 63)) = false := by
      rw [decide_eq_false (by omega), decide_eq_false (by omega)]; rfl
    have c1 : (items.isEmpty || x == 1) = false := by
      rw [hi, Bool.false_or]
      exact beq_eq_false_iff_ne.mpr (by omega)
    have c2 : (decide (x ≤ 0) || items.isEmpty) = true := by
      rw [decide_eq_true h1]; rfl
    wp_walk using wpAny_loadPart' hl
    repeat (first
      | (refine wpAny_ite_false (decide_eq_false (by rw [c0]; exact Bool.false_ne_true)) ?_; wp_walk using wpAny_loadPart' hl)
      | (refine wpAny_ite_false (decide_eq_false (by rw [c1]; exact Bool.false_ne_true)) ?_; wp_walk using wpAny_loadPart' hl)
      | (refine wpAny_ite_true (decide_eq_true (by rw [c2])) ?_; wp_walk using wpAny_loadPart' hl))
    exact ⟨_, rfl, h⟩
def rRepT1 (K : PySem.W.Frag) : R2 := fun x y H Q => ∃ l xs, x = .ref l ∧ y = .int 1 ∧ SqT K H l xs ∧ Q (.ref l) H
def rRepT0 (K : PySem.W.Frag) : R2 := fun x y H Q => ∃ l k xs, x = .ref l ∧ y = .int k ∧ SqT K H l xs ∧ xs ≠ [] ∧ -(2 ^ 63) ≤ k ∧ k ≤ 0 ∧ ∀ p, H p = none → Q (.ref p) (upd H p (.tup []))
section
variable {X : Cx}
theorem op_repT1 : OpR X (binaryOp .Mult) (rRepT1 X.K) := by
  intro pins s σ H x y v u Q I rx ry h
  obtain ⟨l, xs, rfl, rfl, hT, q⟩ := h
  cases rx
  obtain ⟨t, rfl⟩ := ry
  obtain ⟨its, r, ⟨⟨cls, dd, data, sl⟩, ho, hc, n, hd⟩, hs⟩ := I.tuple hT
  simp only at hc hd
  subst hc hd
  refine wpAny_binaryOp_repeat_ref (T := "tuple") (U := "int") (by decide) ⟨_, ho, rfl⟩ (fun s' => typeIs_int s' 1 t) noFill_tuple_mul F.fills_int_mul F.slot_int_rmul repeat_tuple F.slot_int_index.lookup
    (call_meets F.slot_int_rmul (typeIs_int s 1 t) F.entry_int_rmul (F.args_int_rmul_2 _ _) (int_rmul_tuple 1 t l its.toArray n dd sl)
      ⟨ho, rfl, ⟨_, ho, rfl⟩, call_meets F.slot_tuple_mul ⟨_, ho, rfl⟩ F.entry_tuple_mul (F.args_tuple_mul_2 _ _) (tuple_mul1W l its.toArray n dd sl t) ⟨ho, ?_⟩⟩)
  exact ⟨.ref l, _, I, rfl, q⟩
theorem op_repT0 : OpR X (binaryOp .Mult) (rRepT0 X.K) := by
  intro pins s σ H x y v u Q I rx ry h
  obtain ⟨l, k, xs, rfl, rfl, hT, hne, h0, h1, q⟩ := h
  cases rx
  obtain ⟨t, rfl⟩ := ry
  obtain ⟨its, r, ⟨⟨cls, dd, data, sl⟩, ho, hc, n, hd⟩, hs⟩ := I.tuple hT
  simp only at hc hd
  subst hc hd
  have hle : its.length = xs.length := r.length.symm
  have hi : its.toArray.isEmpty = false := by
    cases its with
    | nil => exact absurd (List.eq_nil_of_length_eq_zero hle.symm) hne
    | cons a b => rfl
  refine wpAny_binaryOp_repeat_ref (T := "tuple") (U := "int") (by decide) ⟨_, ho, rfl⟩ (fun s' => typeIs_int s' k t) noFill_tuple_mul F.fills_int_mul F.slot_int_rmul repeat_tuple F.slot_int_index.lookup
    (call_meets F.slot_int_rmul (typeIs_int s k t) F.entry_int_rmul (F.args_int_rmul_2 _ _) (int_rmul_tuple k t l its.toArray n dd sl)
      ⟨ho, rfl, ⟨_, ho, rfl⟩, call_meets F.slot_tuple_mul ⟨_, ho, rfl⟩ F.entry_tuple_mul (F.args_tuple_mul_2 _ _) (tuple_mul0W l its.toArray n dd sl k t h0 h1 hi) ⟨ho, ?_⟩⟩)
  refine ⟨.ref s.heap.objs.size, _, I.laid (t' := s.toks) (o := .tup []) (fun b ob q => Heap.get?_push_of_some _ q) (Nat.le_refl _) ?_, rfl, q _ (I.hok.fresh (Nat.le_refl _))⟩
  exact ⟨by simp, _, .nil, IsTup.new _ _⟩
end
/-- how often, in all -/
def repL (xs : List D) (k : Int) : List D := (List.replicate k.toNat xs).flatten
/-- * of ints, of a list or a tuple and an int -/
def mulD : D → D → Option Opd
  | .int i, .int j => (mulI i j).map .val
  | .tup xs, .int k => if k = 1 then some (.val (.tup xs)) else if xs ≠ [] ∧ xs.length ≤ 1000 ∧ -(2 ^ 62) ≤ k ∧ k ≤ 1000 then some (.val (.tup (repL xs k))) else none
  | .lst xs, .int k => if -(2 ^ 62) ≤ k ∧ k < 2 ^ 62 ∧ xs.length * k.toNat ≤ 16000000 then some (.new (.lst (repL xs k))) else none
  | _, _ => none
section
variable {K : PySem.W.Frag} {H : Hp} {A : Addr → Prop}
theorem RepAll.rep {xs : List V} {ds : List D} (h : RepAll K H A xs ds) : ∀ k : Nat, RepAll K H A (List.replicate k xs).flatten (List.replicate k ds).flatten
  | 0 => .nil
  | k + 1 => by
    simp only [List.replicate_succ, List.flatten_cons]
    exact h.append (h.rep k)
end
section
variable {X : Cx} {a b : Expr} {f g : SE} {pos : Pos}
theorem Ex.mulS (ha : Ex X a f) (hb : Ex X b g) : Ex X (.BinOp a .Mult b pos) (bin2 mulD f g) :=
  Ex.op2 (OpR.or (OpR.or op_mul op_mulW) (OpR.or (OpR.or op_repT (OpR.or op_repT1 op_repT0)) op_rep)) (fun G ρ σ H r1 r2 a b x y o Q R o1 o2 e1 e2 e hQ => by
    unfold mulD at e
    split at e
    · rename_i i j
      rw [o1.int R e1, o2.int R e2]
      refine .inl ?_
      unfold mulI at e
      split at e
      · rename_i c
        cases e
        rcases c with (c | c) | c
        · exact .inl ⟨i, j, rfl, rfl, .inl ⟨by omega, by omega⟩, hQ _ _ (post_same R (.int _))⟩
        · exact .inl ⟨i, j, rfl, rfl, .inr ⟨by omega, by omega⟩, hQ _ _ (post_same R (.int _))⟩
        · exact .inr ⟨i, j, rfl, rfl, c, hQ _ _ (post_same R (.int _))⟩
      · cases e
    · rename_i ds k
      obtain ⟨a, xs, rfl, h1, w1⟩ := o1.tup R e1
      rw [o2.int R e2]
      split at e
      · rename_i c
        cases e
        subst c
        exact .inr (.inl (.inr (.inl ⟨a, xs, rfl, rfl, SqT.of h1, hQ _ _ (post_same R (.tup h1 w1))⟩)))
      · rename_i n1
        split at e
        · rename_i c
          cases e
          have hne : xs ≠ [] := fun z => c.1 (by subst z; cases w1; rfl)
          by_cases h2 : 2 ≤ k
          · exact .inr (.inl (.inl ⟨a, k, xs, rfl, rfl, SqT.of h1, hne, h2, c.2.2.2, by rw [w1.length]; exact c.2.1, fun p hp => hQ _ _ (post_tup R (w1.rep _) hp)⟩))
          · refine .inr (.inl (.inr (.inr ⟨a, k, xs, rfl, rfl, SqT.of h1, hne, by omega, by omega, fun p hp => ?_⟩)))
            refine hQ _ _ ?_
            unfold repL
            rw [show k.toNat = 0 by omega]
            exact post_tup R .nil hp
        · cases e
    · rename_i ds k
      obtain ⟨a, xs, rfl, h1, w1⟩ := o1.lst R e1
      rw [o2.int R e2]
      split at e
      · rename_i c
        cases e
        exact .inr (.inr ⟨a, k, xs, rfl, rfl, h1, by omega, by omega, by rw [w1.length]; exact szl c.2.2, fun p hp => hQ _ _ (post_lst R (w1.rep _) hp)⟩)
      · cases e
    · cases e) ha hb
end
end Mi

/-! Running plain meanings. -/
namespace Mi
open PySem PySem.Spec
open PyProof.Rows hiding St
open L2
@[simp] def s_varF := @varF.eq_def
@[simp] def s_valF := @valF.eq_def
@[simp] def s_bin2 := @bin2.eq_def
@[simp] def s_two := @two.eq_def
@[simp] def s_addD := @addD.eq_def
@[simp] def s_iiD := @iiD.eq_def
@[simp] def s_subI := @subI.eq_def
@[simp] def s_mulI := @mulI.eq_def
@[simp] def s_modI := @modI.eq_def
@[simp] def s_powI := @powI.eq_def
@[simp] def s_andI := @andI.eq_def
@[simp] def s_res := @res.eq_def
@[simp] def s_keepD := @keepD.eq_def
@[simp] def s_keepAll_1 := @keepAll.eq_1
@[simp] def s_keepAll_2 := @keepAll.eq_2
@[simp] def s_resAll_1 := @resAll.eq_1
@[simp] def s_resAll_2 := @resAll.eq_2
@[simp] def s_consA := @consA.eq_def
@[simp] def s_nilA := @nilA.eq_def
@[simp] def s_tupF := @tupF.eq_def
@[simp] def s_lstF := @lstF.eq_def
@[simp] def s_cmpV := @cmpV.eq_def
@[simp] def s_ofV := @ofV.eq_def
@[simp] def s_iiB := @iiB.eq_def
@[simp] def s_ltD := @ltD.eq_def
@[simp] def s_isN := @isN.eq_def
@[simp] def s_isNotN := @isNotN.eq_def
@[simp] def s_isNon := @isNon.eq_def
@[simp] def s_notT := @notT.eq_def
@[simp] def s_truT := @truT.eq_def
@[simp] def s_truD := @truD.eq_def
@[simp] def s_andT := @andT.eq_def
@[simp] def s_orT := @orT.eq_def
@[simp] def s_andV := @andV.eq_def
@[simp] def s_orV := @orV.eq_def
@[simp] def s_notV := @notV.eq_def
@[simp] def s_iteV := @iteV.eq_def
@[simp] def s_negV := @negV.eq_def
@[simp] def s_ixD := @ixD.eq_def
@[simp] def s_slF := @slF.eq_def
@[simp] def s_partF := @partF.eq_def
@[simp] def s_bltE := @bltE.eq_def
@[simp] def s_lenK := @lenK.eq_def
@[simp] def s_absK := @absK.eq_def
@[simp] def s_max2K := @max2K.eq_def
@[simp] def s_min2K := @min2K.eq_def
@[simp] def s_intK := @intK.eq_def
@[simp] def s_tupK := @tupK.eq_def
@[simp] def s_lstK := @lstK.eq_def
@[simp] def s_anyK := @anyK.eq_def
@[simp] def s_allK := @allK.eq_def
@[simp] def s_sumK := @sumK.eq_def
@[simp] def s_D_seq := @D.seq.eq_def
@[simp] def s_D_seqL := @D.seqL.eq_def
@[simp] def s_isiE := @isiE.eq_def
@[simp] def s_isT := @isT.eq_def
@[simp] def s_D_ty := @D.ty.eq_def
@[simp] def s_callE := @callE.eq_def
@[simp] def s_noLend_1 := @noLend.eq_1
@[simp] def s_noLend_2 := @noLend.eq_2
@[simp] def s_noLend_3 := @noLend.eq_3
@[simp] def s_setIo := @setIo.eq_def
@[simp] def s_noAlias_1 := @noAlias.eq_1
@[simp] def s_noAlias_2 := @noAlias.eq_2
@[simp] def s_noAlias_3 := @noAlias.eq_3
@[simp] def s_D_im1 := @D.im1.eq_def
@[simp] def s_appE := @appE.eq_def
@[simp] def s_extE := @extE.eq_def
@[simp] def s_popE := @popE.eq_def
@[simp] def s_popAtE := @popAtE.eq_def
@[simp] def s_dropS := @dropS.eq_def
@[simp] def s_retS := @retS.eq_def
@[simp] def s_ifS := @ifS.eq_def
@[simp] def s_skipS := @skipS.eq_def
@[simp] def s_passS := @passS.eq_def
@[simp] def s_brS := @brS.eq_def
@[simp] def s_ctS := @ctS.eq_def
@[simp] def s_setS := @setS.eq_def
@[simp] def s_asgn := @asgn.eq_def
@[simp] def s_parS := @parS.eq_def
@[simp] def s_asgAll_1 := @asgAll.eq_1
@[simp] def s_asgAll_2 := @asgAll.eq_2
@[simp] def s_asgAll_3 := @asgAll.eq_3
@[simp] def s_asgAll_4 := @asgAll.eq_4
@[simp] def s_unpS := @unpS.eq_def
@[simp] def s_nameT := @nameT.eq_def
@[simp] def s_tupT := @tupT.eq_def
@[simp] def s_D_asT := @D.asT.eq_def
@[simp] def s_itemS := @itemS.eq_def
@[simp] def s_fnD := @fnD.eq_def
@[simp] def s_startE := @startE.eq_def
@[simp] def s_parE_1 := @parE.eq_1
@[simp] def s_parE_2 := @parE.eq_2
@[simp] def s_endD := @endD.eq_def
@[simp] def s_ioD := @ioD.eq_def
@[simp] def s_seqS := @seqS.eq_def
@[simp] def s_rng1I := @rng1I.eq_def
@[simp] def s_rng2I := @rng2I.eq_def
@[simp] def s_rngE := @rngE.eq_def
@[simp] def s_rng2E := @rng2E.eq_def
@[simp] def s_seqI := @seqI.eq_def
@[simp] def s_zipE := @zipE.eq_def
@[simp] def s_yesT := @yesT.eq_def
@[simp] def s_forS := @forS.eq_def
@[simp] def s_neverS := @neverS.eq_def
@[simp] def s_D_im_1 := @D.im.eq_1
@[simp] def s_D_im_2 := @D.im.eq_2
@[simp] def s_D_im_3 := @D.im.eq_3
@[simp] def s_D_im_4 := @D.im.eq_4
@[simp] def s_D_im_5 := @D.im.eq_5
@[simp] def s_D_im_6 := @D.im.eq_6
@[simp] def s_D_imAll_1 := @D.imAll.eq_1
@[simp] def s_D_imAll_2 := @D.imAll.eq_2
@[simp] def s_D_nd_1 := @D.nd.eq_1
@[simp] def s_D_nd_2 := @D.nd.eq_2
@[simp] def s_D_nd_3 := @D.nd.eq_3
@[simp] def s_D_nd_4 := @D.nd.eq_4
@[simp] def s_D_nd_5 := @D.nd.eq_5
@[simp] def s_D_nd_6 := @D.nd.eq_6
@[simp] def s_D_ndAll_1 := @D.ndAll.eq_1
@[simp] def s_D_ndAll_2 := @D.ndAll.eq_2
@[simp] def s_toLock_1 := @toLock.eq_1
@[simp] def s_toLock_2 := @toLock.eq_2
@[simp] def s_toLock_3 := @toLock.eq_3
@[simp] def s_lockAll_1 := @lockAll.eq_1
@[simp] def s_lockAll_2 := @lockAll.eq_2
@[simp] def s_lock1 := @lock1.eq_def
@[simp] def s_unlockAll_1 := @unlockAll.eq_1
@[simp] def s_unlockAll_2 := @unlockAll.eq_2
@[simp] def s_unlock1 := @unlock1.eq_def
@[simp] def s_loopS_1 := @loopS.eq_1
@[simp] def s_loopS_2 := @loopS.eq_2
@[simp] theorem free_un : free1 .un = true := rfl
@[simp] theorem free_fr (d : D) : free1 (.fr d) = true := rfl
@[simp] theorem free_ow (d : D) : free1 (.ow false false d) = true := rfl
@[simp] theorem free_lk (p : Bool) (d : D) : free1 (.ow p true d) = false := by cases p <;> rfl
@[simp] theorem free_pn (l : Bool) (d : D) : free1 (.ow true l d) = false := by cases l <;> rfl
section
variable {α : Type} {a b c : α} {l : List α}
@[simp] theorem atI_0 : atI (a :: l) 0 = some a := by
  have h : (0 : Int) < ((a :: l).length : Nat) := by simp only [List.length_cons]; omega
  unfold atI ixN
  rw [if_pos (by omega), if_pos h]
  rfl
@[simp] theorem atI_1 : atI (a :: b :: l) 1 = some b := by
  have h : (1 : Int) < ((a :: b :: l).length : Nat) := by simp only [List.length_cons]; omega
  unfold atI ixN
  rw [if_pos (by omega), if_pos h]
  rfl
@[simp] theorem atI_2 : atI (a :: b :: c :: l) 2 = some c := by
  have h : (2 : Int) < ((a :: b :: c :: l).length : Nat) := by simp only [List.length_cons]; omega
  unfold atI ixN
  rw [if_pos (by omega), if_pos h]
  rfl
@[simp] theorem ixN_0 {n : Nat} : ixN (n + 1) 0 = some 0 := by
  unfold ixN
  rw [if_pos (by omega), if_pos (by omega)]
  rfl
@[simp] theorem ixN_1 {n : Nat} : ixN (n + 1 + 1) 1 = some 1 := by
  unfold ixN
  rw [if_pos (by omega), if_pos (by omega)]
  rfl
theorem atI_nat {i : Nat} : atI l (i : Int) = l[i]? := by
  unfold atI ixN
  by_cases h : i < l.length
  · have h' : (i : Int) < l.length := by omega
    simp [h']
  · have h' : ¬ (i : Int) < l.length := by omega
    simp [h']
    omega
end
@[simp] theorem divI_ok {i j : Int} (h : 0 < j) (h2 : j < 18446744073709551616) : divI i j = some (.int (i / j)) := by
  have : j.natAbs.log2 < 9000 := by
    refine (Nat.log2_lt (by omega)).mpr (Nat.lt_of_lt_of_le (show j.natAbs < 2 ^ 64 by omega) (Nat.pow_le_pow_right (by omega) (by omega)))
  unfold divI
  rw [if_pos ⟨h, this⟩]
end Mi

/-! The meanings of the defs that many laws share. -/
namespace Mi
open PySem PySem.Spec
open PyProof.Rows hiding St
open L2
def b_law_box : SS :=
    seqS (setS 2 (bin2 addD (bin2 (iiD mulI) (valF (.int 7121)) (varF 1)) (valF (.int 8117))))
    (seqS (ifS (ofV (bin2 (cmpV ltD) (varF 1) (bltE lenK (consA (varF 0) (nilA))))) (setS 2 (bltE absK (consA (bltE intK (consA (bin2 ixD (varF 0) (varF 1)) (nilA))) (nilA)))) (ifS (ofV (bin2 (cmpV (iiB fun i j => decide (j < i))) (bltE lenK (consA (varF 0) (nilA))) (valF (.int 0)))) (setS 2 (bin2 addD (varF 2) (bin2 (iiD mulI) (bin2 (iiD modI) (bltE intK (consA (bltE absK (consA (bltE intK (consA (bin2 ixD (varF 0) (bin2 (iiD modI) (bltE intK (consA (varF 1) (nilA))) (bltE lenK (consA (varF 0) (nilA))))) (nilA))) (nilA))) (nilA))) (valF (.int 2147483563))) (valF (.int 58907))))) (skipS)))
    (seqS (setS 3 (iteV (ofV (bin2 (cmpV (iiB fun i j => decide (j ≤ i))) (varF 2) (bin2 (iiD powI) (valF (.int 10)) (valF (.int 18))))) (varF 2) (valF (.int 0))))
    (retS (lstF (consA (varF 3) (consA (bin2 addD (bin2 (iiD modI) (bltE intK (consA (bin2 addD (bin2 (iiD mulI) (bin2 (iiD modI) (bltE intK (consA (varF 2) (nilA))) (valF (.int 2147483563))) (valF (.int 40014))) (bin2 (iiD mulI) (valF (.int 8117)) (varF 1))) (nilA))) (valF (.int 2147483563))) (valF (.int 1))) (nilA)))))))
def f_law_box : Fn := fnD 4 none b_law_box
def b_law_take : SS :=
    seqS (ifS (ofV (bin2 (cmpV (iiB fun i j => decide (j < i))) (bin2 ixD (varF 0) (valF (.int 0))) (valF (.int 0)))) (seqS (setS 2 (bin2 (iiD modI) (bltE intK (consA (bin2 ixD (varF 0) (valF (.int 0))) (nilA))) (varF 1)))
    (seqS (itemS 0 (valF (.int 0)) (bin2 (iiD divI) (bin2 ixD (varF 0) (valF (.int 0))) (varF 1)))
    (retS (varF 2)))) (skipS))
    (seqS (setS 3 (bin2 (iiD modI) (bltE intK (consA (bin2 addD (bin2 (iiD mulI) (bin2 ixD (varF 0) (valF (.int 1))) (valF (.int 39373))) (valF (.int 521))) (nilA))) (valF (.int 2147483647))))
    (seqS (itemS 0 (valF (.int 1)) (bin2 addD (bin2 (iiD modI) (bltE intK (consA (bin2 addD (bin2 (iiD mulI) (varF 3) (valF (.int 40692))) (valF (.int 101))) (nilA))) (valF (.int 2147483399))) (valF (.int 1))))
    (retS (bin2 (iiD modI) (bltE intK (consA (bin2 (iiD divI) (bin2 addD (bin2 (iiD mulI) (varF 3) (valF (.int 2147483629))) (bin2 ixD (varF 0) (valF (.int 1)))) (valF (.int 8243))) (nilA))) (varF 1)))))
def f_law_take : Fn := fnD 4 (some 0) b_law_take
def b_law_like : SS :=
    seqS (setS 2 (lstF (consA (tupF (consA (varF 0) (consA (varF 1) (nilA)))) (nilA))))
    (seqS (forS (rng1I (consA (valF (.int 1000000)) (nilA))) (nameT 3) (seqS (ifS (ofV (bin2 (cmpV eqK) (varF 2) (lstF (nilA)))) (retS (valF (.bl true))) (skipS))
    (seqS (unpS (tupT [4, 5]) (popE 2))
    (ifS (ofV (bin2 (cmpV isN) (varF 5) (valF .non))) (ifS (ofV (bin2 (cmpV isNotN) (varF 4) (valF .non))) (retS (valF (.bl false))) (skipS)) (ifS (truT (isiE "bool" (varF 5))) (ifS (orT (notT (truT (isiE "bool" (varF 4)))) (ofV (bin2 (cmpV neK) (varF 4) (varF 5)))) (retS (valF (.bl false))) (skipS)) (ifS (truT (isiE "tuple" (varF 5))) (seqS (ifS (orT (notT (truT (isiE "tuple" (varF 4)))) (ofV (bin2 (cmpV neK) (bltE lenK (consA (varF 4) (nilA))) (bltE lenK (consA (varF 5) (nilA)))))) (retS (valF (.bl false))) (skipS))
    (dropS (extE 2 (zipE (consA (varF 4) (consA (varF 5) (nilA))))))) (ifS (truT (isiE "str" (varF 5))) (ifS (orT (notT (truT (isiE "str" (varF 4)))) (ofV (bin2 (cmpV neK) (varF 4) (varF 5)))) (retS (valF (.bl false))) (skipS)) (ifS (orT (notT (truT (isiE "int" (varF 4)))) (orT (truT (isiE "bool" (varF 4))) (ofV (bin2 (cmpV neK) (varF 4) (varF 5))))) (retS (valF (.bl false))) (skipS)))))))))
    (retS (valF (.bl false))))
def f_law_like : Fn := fnD 6 none b_law_like
def b_law_shuffled : SS :=
    seqS (parS [2, 3] (consA (bltE lstK (consA (varF 1) (nilA))) (consA (lstF (nilA)) (nilA))))
    (seqS (forS (rng1I (consA (bltE lenK (consA (varF 1) (nilA))) (nilA))) (nameT 4) (dropS (appE 3 (popAtE 2 (callE (some 0) f_law_take (consA (varF 0) (consA (bltE lenK (consA (varF 2) (nilA))) (nilA))))))))
    (retS (varF 3)))
def f_law_shuffled : Fn := fnD 5 (some 0) b_law_shuffled
def b_law_named : SS :=
    seqS (setS 3 (callE (some 0) f_law_shuffled (consA (varF 0) (consA (rngE false (consA (varF 1) nilA)) (nilA)))))
    (retS (tupF (consA (varF 1) (consA (bltE tupK (consA (bltE sortK (consA (compE [4] (seqI (varF 2)) (nameT 4) (yesT) (bltE tupK (consA (bltE sortK (consA (compE [5] (seqI (varF 4)) (nameT 5) (yesT) (bin2 ixD (varF 3) (varF 5))) (nilA))) (nilA)))) (nilA))) (nilA))) (nilA)))))
def f_law_named : Fn := fnD 6 (some 0) b_law_named
def b_law_forest : SS :=
    seqS (parS [2, 3] (consA (bin2 addD (valF (.int 1)) (callE (some 0) f_law_take (consA (varF 0) (consA (valF (.int 3)) (nilA))))) (consA (lstF (nilA)) (nilA))))
    (seqS (dropS (appE 3 (rngE true (consA (varF 2) nilA))))
    (seqS (forS (rng1I (consA (callE (some 0) f_law_take (consA (varF 0) (consA (valF (.int 4)) (nilA)))) (nilA))) (nameT 4) (ifS (ofV (bin2 (cmpV ltD) (varF 2) (varF 1))) (seqS (setS 5 (bltE min2K (consA (bin2 addD (valF (.int 1)) (callE (some 0) f_law_take (consA (varF 0) (consA (valF (.int 2)) (nilA))))) (consA (bin2 (iiD subI) (varF 1) (varF 2)) (nilA)))))
    (seqS (setS 6 (iteV (ofV (bin2 (cmpV eqK) (callE (some 0) f_law_take (consA (varF 0) (consA (valF (.int 6)) (nilA)))) (valF (.int 0)))) (tupF (nilA)) (tupF (consA (callE (some 0) f_law_take (consA (varF 0) (consA (varF 2) (nilA)))) (nilA)))))
    (seqS (dropS (appE 3 (bin2 addD (varF 6) (rng2E true (consA (varF 2) (consA (bin2 addD (varF 2) (varF 5)) nilA))))))
    (setS 2 (bin2 addD (varF 2) (varF 5)))))) (skipS)))
    (seqS (ifS (andT (ofV (bin2 (cmpV eqK) (varF 2) (valF (.int 1)))) (ofV (bin2 (cmpV (iiB fun i j => decide (j < i))) (varF 1) (valF (.int 1))))) (parS [3, 2] (consA (lstF (consA (tupF (consA (valF (.int 0)) (consA (valF (.int 1)) (nilA)))) (nilA))) (consA (valF (.int 2)) (nilA)))) (skipS))
    (seqS (ifS (ofV (bin2 (cmpV eqK) (callE (some 0) f_law_take (consA (varF 0) (consA (valF (.int 5)) (nilA)))) (valF (.int 0)))) (dropS (appE 3 (tupF (consA (callE (some 0) f_law_take (consA (varF 0) (consA (varF 2) (nilA)))) (nilA))))) (skipS))
    (retS (callE (some 0) f_law_named (consA (varF 0) (consA (varF 2) (consA (varF 3) (nilA))))))))))
def f_law_forest : Fn := fnD 7 (some 0) b_law_forest
def b_law_ring : SS :=
    seqS (setS 2 (bin2 addD (valF (.int 2)) (callE (some 0) f_law_take (consA (varF 0) (consA (bin2 (iiD subI) (varF 1) (valF (.int 1))) (nilA))))))
    (seqS (setS 3 (iteV (ofV (bin2 (cmpV eqK) (varF 2) (valF (.int 2)))) (lstF (consA (tupF (consA (valF (.int 0)) (consA (valF (.int 1)) (nilA)))) (consA (tupF (consA (valF (.int 0)) (consA (valF (.int 1)) (nilA)))) (nilA)))) (compE [4] (rng1I (consA (varF 2) (nilA))) (nameT 4) (yesT) (bltE tupK (consA (bltE sortK (consA (lstF (consA (varF 4) (consA (bin2 (iiD modI) (bltE intK (consA (bin2 addD (varF 4) (valF (.int 1))) (nilA))) (varF 2)) (nilA)))) (nilA))) (nilA))))))
    (seqS (ifS (andT (ofV (bin2 (cmpV (iiB fun i j => decide (j < i))) (varF 2) (valF (.int 3)))) (ofV (bin2 (cmpV eqK) (callE (some 0) f_law_take (consA (varF 0) (consA (valF (.int 3)) (nilA)))) (valF (.int 0))))) (itemS 3 (valF (.int 0)) (bltE tupK (consA (sortSetE (bin2 addD (bin2 ixD (varF 3) (valF (.int 0))) (tupF (consA (callE (some 0) f_law_take (consA (varF 0) (consA (varF 2) (nilA)))) (nilA))))) (nilA)))) (skipS))
    (retS (callE (some 0) f_law_named (consA (varF 0) (consA (varF 2) (consA (varF 3) (nilA))))))))
def f_law_ring : Fn := fnD 5 (some 0) b_law_ring
def b_law_any_web : SS :=
    seqS (setS 2 (bin2 addD (valF (.int 1)) (callE (some 0) f_law_take (consA (varF 0) (consA (varF 1) (nilA))))))
    (seqS (setS 3 (compE [4] (rng1I (consA (bin2 addD (valF (.int 1)) (callE (some 0) f_law_take (consA (varF 0) (consA (iteV (ofV (bin2 (cmpV ltD) (varF 2) (valF (.int 6)))) (valF (.int 4)) (valF (.int 3))) (nilA))))) (nilA))) (nameT 4) (yesT) (bltE tupK (consA (compE [6] (rng1I (consA (varF 2) (nilA))) (nameT 6) (ofV (bin2 (cmpV eqK) (callE (some 0) f_law_take (consA (varF 0) (consA (valF (.int 2)) (nilA)))) (valF (.int 0)))) (varF 6)) (nilA)))))
    (seqS (setS 3 (compE [5] (seqI (varF 3)) (nameT 5) (ofV (bin2 (cmpV neK) (varF 5) (tupF (nilA)))) (varF 5)))
    (seqS (setS 3 (bin2 addD (varF 3) (compE [6] (rng1I (consA (varF 2) (nilA))) (nameT 6) (ofV (bin2 (cmpV eqK) (compE [5] (seqI (varF 3)) (nameT 5) (ofV (bin2 (cmpV inD) (varF 6) (varF 5))) (valF (.int 1))) (lstF (nilA)))) (tupF (consA (varF 6) (nilA))))))
    (retS (callE (some 0) f_law_named (consA (varF 0) (consA (varF 2) (consA (varF 3) (nilA)))))))))
def f_law_any_web : Fn := fnD 7 (some 0) b_law_any_web
def b_law_web : SS :=
    seqS (setS 2 (callE (some 0) f_law_take (consA (varF 0) (consA (valF (.int 8)) (nilA)))))
    (seqS (ifS (ofV (bin2 (cmpV ltD) (varF 2) (valF (.int 3)))) (retS (callE (some 0) f_law_forest (consA (varF 0) (consA (varF 1) (nilA))))) (skipS))
    (seqS (ifS (ofV (bin2 (cmpV ltD) (varF 2) (valF (.int 5)))) (retS (callE (some 0) f_law_ring (consA (varF 0) (consA (varF 1) (nilA))))) (skipS))
    (seqS (ifS (ofV (bin2 (cmpV eqK) (varF 2) (valF (.int 5)))) (seqS (setS 3 (bin2 addD (valF (.int 2)) (callE (some 0) f_law_take (consA (varF 0) (consA (bin2 (iiD subI) (varF 1) (valF (.int 1))) (nilA))))))
    (retS (tupF (consA (varF 3) (consA (tupF (consA (rngE true (consA (varF 3) nilA)) (nilA))) (nilA)))))) (skipS))
    (retS (callE (some 0) f_law_any_web (consA (varF 0) (consA (varF 1) (nilA))))))))
def f_law_web : Fn := fnD 4 (some 0) b_law_web
def b_law_touch : SS :=
    retS (orV (bin2 (cmpV eqK) (varF 1) (varF 2)) (bin2 (cmpV neK) (compE [3] (seqI (bin2 ixD (varF 0) (valF (.int 1)))) (nameT 3) (andT (ofV (bin2 (cmpV inD) (varF 1) (varF 3))) (ofV (bin2 (cmpV inD) (varF 2) (varF 3)))) (valF (.int 1))) (lstF (nilA))))
def f_law_touch : Fn := fnD 4 none b_law_touch
def b_law_near_lot : SS :=
    retS (bltE tupK (consA (compE [2] (rng1I (consA (bin2 ixD (varF 0) (valF (.int 0))) (nilA))) (nameT 2) (ofV (bin2 (cmpV neK) (compE [3] (seqI (varF 1)) (nameT 3) (truT (callE none f_law_touch (consA (varF 0) (consA (varF 2) (consA (varF 3) (nilA)))))) (valF (.int 1))) (lstF (nilA)))) (varF 2)) (nilA)))
def f_law_near_lot : Fn := fnD 4 none b_law_near_lot
def b_law_drawn_lot : SS :=
    retS (bltE tupK (consA (compE [2] (rng1I (consA (varF 1) (nilA))) (nameT 2) (ofV (bin2 (cmpV eqK) (callE (some 0) f_law_take (consA (varF 0) (consA (valF (.int 2)) (nilA)))) (valF (.int 0)))) (varF 2)) (nilA)))
def f_law_drawn_lot : Fn := fnD 3 (some 0) b_law_drawn_lot
def b_touches : SS :=
    retS (orV (bin2 (cmpV eqK) (varF 1) (varF 2)) (bltE anyK (consA (compE [3] (seqI (bin2 ixD (varF 0) (valF (.int 1)))) (nameT 3) (yesT) (andV (bin2 (cmpV inD) (varF 1) (varF 3)) (bin2 (cmpV inD) (varF 2) (varF 3)))) (nilA))))
def f_touches : Fn := fnD 4 none b_touches
def b_touching : SS :=
    retS (bltE tupK (consA (compE [2] (rng1I (consA (bin2 ixD (varF 0) (valF (.int 0))) (nilA))) (nameT 2) (truT (callE none f_touches (consA (varF 0) (consA (varF 1) (consA (varF 2) (nilA)))))) (varF 2)) (nilA)))
def f_touching : Fn := fnD 3 none b_touching
def b_near_lot : SS :=
    retS (bltE tupK (consA (compE [2] (rng1I (consA (bin2 ixD (varF 0) (valF (.int 0))) (nilA))) (nameT 2) (truT (bltE anyK (consA (compE [3] (seqI (varF 1)) (nameT 3) (yesT) (callE none f_touches (consA (varF 0) (consA (varF 3) (consA (varF 2) (nilA)))))) (nilA)))) (varF 2)) (nilA)))
def f_near_lot : Fn := fnD 4 none b_near_lot
end Mi

/-! Loops and comprehensions run. -/
namespace Mi
open PySem PySem.Spec
open PyProof.Rows hiding St
open L2

theorem range_at {lo hi : Int} {k : Nat} {d : D} (h : (rangeD lo hi)[k]? = some d) : d = .int (lo + k) ∧ (k : Int) < hi - lo := by
  unfold rangeD at h
  rw [List.getElem?_map] at h
  cases q : (List.range (hi - lo).toNat)[k]? with
  | none => rw [q] at h; cases h
  | some j =>
    rw [q] at h
    cases h
    obtain ⟨h1, h2⟩ := List.getElem?_eq_some_iff.mp q
    rw [List.getElem_range] at h2
    subst h2
    rw [List.length_range] at h1
    exact ⟨rfl, by omega⟩
theorem range_mem {lo hi : Int} {d : D} (h : d ∈ rangeD lo hi) : ∃ i : Int, d = .int i ∧ lo ≤ i ∧ i < hi := by
  obtain ⟨k, hk⟩ := List.mem_iff_getElem?.mp h
  obtain ⟨h1, h2⟩ := range_at hk
  exact ⟨_, h1, by omega, by omega⟩
theorem range_len {lo hi : Int} : (rangeD lo hi).length = (hi - lo).toNat := by
  unfold rangeD
  rw [List.length_map, List.length_range]
/-- the ints of a range -/
def irange (lo hi : Int) : List Int := (List.range (hi - lo).toNat).map fun i : Nat => lo + (i : Int)
theorem range_ints (lo hi : Int) : rangeD lo hi = (irange lo hi).map .int := by
  unfold rangeD irange
  rw [List.map_map]; rfl
theorem mem_ints {lo hi i : Int} : i ∈ irange lo hi ↔ lo ≤ i ∧ i < hi := by
  unfold irange
  simp only [List.mem_map, List.mem_range]
  constructor
  · rintro ⟨k, hk, rfl⟩
    omega
  · intro h
    exact ⟨(i - lo).toNat, by omega, by omega⟩
/-- a loop that runs through -/
theorem loopS_inv {T : D → En → Option En} {F : SS} (I : Nat → En → Prop) : ∀ (ds : List D) (j : Nat) (ρ : En), (∀ k d, ds[k]? = some d → ∀ ρ, I (j + k) ρ → ∃ ρ1 ρ2, T d ρ = some ρ1 ∧ (F ρ1 = some (.nx ρ2) ∨ F ρ1 = some (.ct ρ2)) ∧ I (j + k + 1) ρ2) → I j ρ →
    ∃ ρ', loopS T F ds ρ = some (.nx ρ') ∧ I (j + ds.length) ρ'
  | [], j, ρ, _, h => ⟨ρ, by simp, h⟩
  | d :: ds, j, ρ, hs, h => by
    obtain ⟨ρ1, ρ2, e1, e2, h2⟩ := hs 0 d rfl ρ h
    obtain ⟨ρ', e3, h3⟩ := loopS_inv I ds (j + 1) ρ2 (fun k d' e ρ0 h0 => by
      have q := hs (k + 1) d' (by simpa using e) ρ0 (by rw [show j + (k + 1) = j + 1 + k by omega]; exact h0)
      rw [show j + (k + 1) + 1 = j + 1 + k + 1 by omega] at q
      exact q) h2
    refine ⟨ρ', ?_, by rw [List.length_cons, show j + (ds.length + 1) = j + 1 + ds.length by omega]; exact h3⟩
    rcases e2 with e2 | e2 <;> simp only [loopS, e1, e2, e3]
theorem restore_lock {own : List Nat} {ρ1 : En} {rs : List Opd} : restoreE ρ1 (own ++ toLock ρ1 rs) (wipeE own (lockAll (toLock ρ1 rs) ρ1)) = ρ1 := by
  have hm : ∀ i ∈ toLock ρ1 rs, ∃ p ds, ρ1[i]? = some (.ow p false (.lst ds)) := fun i hi => (toLock_mem hi).2
  obtain ⟨s1, s2, s3⟩ := lockAll_spec (toLock ρ1 rs) ρ1 hm (toLock_nodup rs)
  refine List.ext_getElem? fun j => ?_
  by_cases hj : j ∈ own ++ toLock ρ1 rs
  · exact restoreE_in (by rw [wipeE_length, s3]) hj
  · rw [restoreE_out hj]
    rw [List.mem_append, not_or] at hj
    rw [wipeE_out hj.1, s2 j hj.2]
/-- a comprehension that changes nothing -/
theorem loopC_pure {own : List Nat} {T : D → En → Option En} {t : STe} {fe : SE} {ρ : En} (p : D → Bool) (g : D → D) : ∀ (ds acc : List D), acc.length + ds.length ≤ 16000000 →
    (∀ d ∈ ds, ∃ ρ1 ρ2, T d ρ = some ρ1 ∧ t ρ1 = some (p d, ρ2) ∧ (p d = false → wipeE own ρ2 = ρ) ∧ (p d = true → ∃ r ρ3, fe ρ2 = some (r, ρ3) ∧ keepD r = some (g d) ∧ wipeE own ρ3 = ρ)) →
    loopC own T t fe ds acc ρ = some (acc ++ (ds.filter p).map g, ρ)
  | [], acc, _, _ => by simp [loopC]
  | d :: ds, acc, hz, h => by
    rw [List.length_cons] at hz
    obtain ⟨ρ1, ρ2, e1, e2, h1, h2⟩ := h d List.mem_cons_self
    have ih := fun acc' hz' => loopC_pure p g ds acc' hz' fun d' hd => h d' (List.mem_cons_of_mem _ hd)
    cases hp : p d with
    | false =>
      rw [hp] at e2
      simp only [loopC, e1, e2, h1 hp]
      rw [ih acc (by omega), List.filter_cons_of_neg (by rw [hp]; decide)]
    | true =>
      rw [hp] at e2
      obtain ⟨r, ρ3, e3, e4, e5⟩ := h2 hp
      simp only [loopC, e1, e2, e3, e4, if_pos (show acc.length < 16000000 by omega), e5]
      rw [ih _ (by rw [List.length_append, List.length_singleton]; omega), List.filter_cons_of_pos hp, List.map_cons, List.append_assoc]
      rfl
theorem compE_pure {own : List Nat} {it : SI} {T : D → En → Option En} {t : STe} {fe : SE} {ρ ρ1 ρb : En} {rs : List Opd} {ds : List D} (p : D → Bool) (g : D → D) (hi : it ρ = some (rs, ds, ρ1)) (hb : wipeE own (lockAll (toLock ρ1 rs) ρ1) = ρb) (hz : ds.length ≤ 16000000)
    (h : ∀ d ∈ ds, ∃ ρ1 ρ2, T d ρb = some ρ1 ∧ t ρ1 = some (p d, ρ2) ∧ (p d = false → wipeE own ρ2 = ρb) ∧ (p d = true → ∃ r ρ3, fe ρ2 = some (r, ρ3) ∧ keepD r = some (g d) ∧ wipeE own ρ3 = ρb)) (hp : plainAt ρ1 own = true := by rfl) :
    compE own it T t fe ρ = some (.new (.lst ((ds.filter p).map g)), ρ1) := by
  have e := loopC_pure p g ds [] (by simpa using hz) h
  unfold compE
  simp only [hi, hp, if_true, hb, e]
  rw [← hb, restore_lock]
  simp
/-- a comprehension under an invariant; what it gathers is under Pd -/
theorem loopC_inv {own : List Nat} {T : D → En → Option En} {t : STe} {fe : SE} (I : En → Prop) (Pd : D → Prop) : ∀ (ds acc : List D) (ρ : En), acc.length + ds.length ≤ 16000000 → I ρ → (∀ a ∈ acc, Pd a) →
    (∀ d ∈ ds, ∀ ρ, I ρ → ∃ ρ1 b ρ2, T d ρ = some ρ1 ∧ t ρ1 = some (b, ρ2) ∧ (b = false → I (wipeE own ρ2)) ∧ (b = true → ∃ r ρ3 d', fe ρ2 = some (r, ρ3) ∧ keepD r = some d' ∧ Pd d' ∧ I (wipeE own ρ3))) →
    ∃ acc' ρ', loopC own T t fe ds acc ρ = some (acc', ρ') ∧ I ρ' ∧ (∀ a ∈ acc', Pd a) ∧ acc'.length ≤ acc.length + ds.length
  | [], acc, ρ, _, hI, ha, _ => ⟨acc, ρ, by simp [loopC], hI, ha, by simp⟩
  | d :: ds, acc, ρ, hz, hI, ha, h => by
    rw [List.length_cons] at hz
    obtain ⟨ρ1, b, ρ2, e1, e2, h1, h2⟩ := h d List.mem_cons_self ρ hI
    have ih := fun acc' ρ' hz' hI' ha' => loopC_inv I Pd ds acc' ρ' hz' hI' ha' fun d' hd => h d' (List.mem_cons_of_mem _ hd)
    cases b with
    | false =>
      obtain ⟨acc', ρ', q1, q2, q3, q4⟩ := ih acc _ (by omega) (h1 rfl) ha
      refine ⟨acc', ρ', ?_, q2, q3, by rw [List.length_cons]; omega⟩
      simp only [loopC, e1, e2]
      exact q1
    | true =>
      obtain ⟨r, ρ3, d', e3, e4, hd, e5⟩ := h2 rfl
      obtain ⟨acc', ρ', q1, q2, q3, q4⟩ := ih (acc ++ [d']) _ (by rw [List.length_append, List.length_singleton]; omega) e5 (fun a h => by
        rcases List.mem_append.mp h with h | h
        · exact ha a h
        · rw [List.mem_singleton.mp h]; exact hd)
      rw [List.length_append, List.length_singleton] at q4
      refine ⟨acc', ρ', ?_, q2, q3, by rw [List.length_cons]; omega⟩
      simp only [loopC, e1, e2, e3, e4, if_pos (show acc.length < 16000000 by omega)]
      exact q1
/-- .. that gathers some of what it walks, mapped -/
theorem loopC_sub {own : List Nat} {T : D → En → Option En} {t : STe} {fe : SE} (I : En → Prop) (g : D → D) : ∀ (ds acc : List D) (ρ : En), acc.length + ds.length ≤ 16000000 → I ρ →
    (∀ d ∈ ds, ∀ ρ, I ρ → ∃ ρ1 b ρ2, T d ρ = some ρ1 ∧ t ρ1 = some (b, ρ2) ∧ (b = false → I (wipeE own ρ2)) ∧ (b = true → ∃ r ρ3, fe ρ2 = some (r, ρ3) ∧ keepD r = some (g d) ∧ I (wipeE own ρ3))) →
    ∃ (sub : List D) (ρ' : En), sub.Sublist ds ∧ loopC own T t fe ds acc ρ = some (acc ++ sub.map g, ρ') ∧ I ρ'
  | [], acc, ρ, _, hI, _ => ⟨[], ρ, .slnil, by simp [loopC], hI⟩
  | d :: ds, acc, ρ, hz, hI, h => by
    rw [List.length_cons] at hz
    obtain ⟨ρ1, b, ρ2, e1, e2, h1, h2⟩ := h d List.mem_cons_self ρ hI
    have ih := fun acc' ρ' hz' hI' => loopC_sub I g ds acc' ρ' hz' hI' fun d' hd => h d' (List.mem_cons_of_mem _ hd)
    cases b with
    | false =>
      obtain ⟨sub, ρ', q1, q2, q3⟩ := ih acc _ (by omega) (h1 rfl)
      refine ⟨sub, ρ', .cons _ q1, ?_, q3⟩
      simp only [loopC, e1, e2]
      exact q2
    | true =>
      obtain ⟨r, ρ3, e3, e4, e5⟩ := h2 rfl
      obtain ⟨sub, ρ', q1, q2, q3⟩ := ih (acc ++ [g d]) _ (by rw [List.length_append, List.length_singleton]; omega) e5
      refine ⟨d :: sub, ρ', .cons₂ _ q1, ?_, q3⟩
      simp only [loopC, e1, e2, e3, e4, if_pos (show acc.length < 16000000 by omega)]
      rw [q2]
      simp
/-- one whole comprehension, its loop known -/
theorem compE_of {own : List Nat} {it : SI} {T : D → En → Option En} {t : STe} {fe : SE} {ρ ρ1 ρb ρ2 : En} {rs : List Opd} {ds acc : List D} (hi : it ρ = some (rs, ds, ρ1)) (hb : wipeE own (lockAll (toLock ρ1 rs) ρ1) = ρb) (hl : loopC own T t fe ds [] ρb = some (acc, ρ2)) (hp : plainAt ρ1 own = true := by rfl) :
    compE own it T t fe ρ = some (.new (.lst acc), restoreE ρ1 (own ++ toLock ρ1 rs) ρ2) := by
  unfold compE
  simp only [hi, hp, if_true, hb, hl]
/-! ### one step at a time -/
theorem fn_run {n : Nat} {io : Option Nat} {B : SS} {ds : List D} {o : Out} {r : Bool × D × D} (h : B (startE n io ds) = some o) (e : endD io o = some r) : fnD n io B ds = some r := by
  unfold fnD
  simp only [h, e]
theorem seq_nx {F1 F2 : SS} {ρ ρ1 : En} {o : Option Out} (h : F1 ρ = some (.nx ρ1)) (h2 : F2 ρ1 = o) : seqS F1 F2 ρ = o := by
  unfold seqS
  simp only [h, h2]
theorem seq_rt {F1 F2 : SS} {ρ ρ1 : En} {r : Opd} (h : F1 ρ = some (.rt r ρ1)) : seqS F1 F2 ρ = some (.rt r ρ1) := by
  unfold seqS
  simp only [h]
theorem for_nx {it : SI} {T : D → En → Option En} {F : SS} {ρ ρ1 ρ2 ρ3 : En} {rs : List Opd} {ds : List D} (h : it ρ = some (rs, ds, ρ1)) (hl : loopS T F ds (lockAll (toLock ρ1 rs) ρ1) = some (.nx ρ2)) (hu : unlockAll (toLock ρ1 rs) ρ2 = some ρ3) : forS it T F ρ = some (.nx ρ3) := by
  unfold forS
  simp only [h, hl, hu, Option.map_some]
theorem if_t {t : STe} {F1 F2 : SS} {ρ ρ1 : En} {o : Option Out} (h : t ρ = some (true, ρ1)) (h2 : F1 ρ1 = o) : ifS t F1 F2 ρ = o := by
  unfold ifS
  simp only [h, h2]
theorem if_f {t : STe} {F1 F2 : SS} {ρ ρ1 : En} {o : Option Out} (h : t ρ = some (false, ρ1)) (h2 : F2 ρ1 = o) : ifS t F1 F2 ρ = o := by
  unfold ifS
  simp only [h, h2]
theorem set_nx {i : Nat} {f : SE} {ρ ρ1 ρ2 : En} {r : Opd} (h : f ρ = some (r, ρ1)) (h2 : asgn i r ρ1 = some ρ2) : setS i f ρ = some (.nx ρ2) := by
  unfold setS
  simp only [h, h2, Option.map_some]
theorem ret_rt {f : SE} {ρ ρ1 : En} {r : Opd} (h : f ρ = some (r, ρ1)) : retS f ρ = some (.rt r ρ1) := by
  unfold retS
  simp only [h]
theorem blt_of {k : List D → Option Opd} {F : SA} {ρ ρ1 : En} {rs : List Opd} {ds : List D} {o : Opd} (h : F ρ = some (rs, ρ1)) (h2 : resAll ρ1 rs = some ds) (h3 : k ds = some o) : bltE k F ρ = some (o, ρ1) := by
  unfold bltE
  simp only [h, h2, h3]
theorem cons_of {f : SE} {F : SA} {ρ ρ1 ρ2 : En} {r : Opd} {rs : List Opd} (h : f ρ = some (r, ρ1)) (h2 : F ρ1 = some (rs, ρ2)) : consA f F ρ = some (r :: rs, ρ2) := by
  unfold consA
  simp only [h, h2]
theorem tup_of {F : SA} {ρ ρ1 : En} {rs : List Opd} {ds : List D} (h : F ρ = some (rs, ρ1)) (h2 : keepAll rs = some ds) (h3 : ds.length ≤ 16000000) : tupF F ρ = some (.val (.tup ds), ρ1) := by
  unfold tupF
  simp only [h, h2, if_pos h3]
/-- [f(x) for x in ..], nothing changed -/
theorem compE_map {α : Type} {own : List Nat} {it : SI} {T : D → En → Option En} {fe : SE} {ρ ρ1 ρb : En} {rs : List Opd} {xs : List α} (k g : α → D) (hi : it ρ = some (rs, xs.map k, ρ1)) (hb : wipeE own (lockAll (toLock ρ1 rs) ρ1) = ρb) (hz : xs.length ≤ 16000000)
    (h : ∀ x ∈ xs, ∃ ρ1 r ρ3, T (k x) ρb = some ρ1 ∧ fe ρ1 = some (r, ρ3) ∧ keepD r = some (g x) ∧ wipeE own ρ3 = ρb) (hp : plainAt ρ1 own = true := by rfl) :
    compE own it T yesT fe ρ = some (.new (.lst (xs.map g)), ρ1) := by
  have e : ∀ (ys : List α) (acc : List D), (∀ x ∈ ys, x ∈ xs) → acc.length + ys.length ≤ 16000000 → loopC own T yesT fe (ys.map k) acc ρb = some (acc ++ ys.map g, ρb) := by
    intro ys
    induction ys with
    | nil => intro acc _ _; simp [loopC]
    | cons y ys ih =>
      intro acc hs hl
      rw [List.length_cons] at hl
      obtain ⟨ρ2, r, ρ3, e1, e2, e3, e4⟩ := h y (hs y List.mem_cons_self)
      simp only [List.map_cons, loopC, e1, yesT, e2, e3, if_pos (show acc.length < 16000000 by omega), e4]
      rw [ih _ (fun x hx => hs x (List.mem_cons_of_mem _ hx)) (by rw [List.length_append, List.length_singleton]; omega), List.append_assoc]
      rfl
  have e0 := e xs [] (fun _ h => h) (by simpa using hz)
  unfold compE
  simp only [hi, hp, if_true, hb, e0]
  rw [← hb, restore_lock]
  simp
/-- [f(x) for x in .. if p(x)], nothing changed -/
theorem compE_filter {α : Type} {own : List Nat} {it : SI} {T : D → En → Option En} {t : STe} {fe : SE} {ρ ρ1 ρb : En} {rs : List Opd} {xs : List α} (k g : α → D) (p : α → Bool) (hi : it ρ = some (rs, xs.map k, ρ1)) (hb : wipeE own (lockAll (toLock ρ1 rs) ρ1) = ρb) (hz : xs.length ≤ 16000000)
    (h : ∀ x ∈ xs, ∃ ρ1 ρ2, T (k x) ρb = some ρ1 ∧ t ρ1 = some (p x, ρ2) ∧ (p x = false → wipeE own ρ2 = ρb) ∧ (p x = true → ∃ r ρ3, fe ρ2 = some (r, ρ3) ∧ keepD r = some (g x) ∧ wipeE own ρ3 = ρb)) (hp : plainAt ρ1 own = true := by rfl) :
    compE own it T t fe ρ = some (.new (.lst ((xs.filter p).map g)), ρ1) := by
  have e : ∀ (ys : List α) (acc : List D), (∀ x ∈ ys, x ∈ xs) → acc.length + ys.length ≤ 16000000 → loopC own T t fe (ys.map k) acc ρb = some (acc ++ (ys.filter p).map g, ρb) := by
    intro ys
    induction ys with
    | nil => intro acc _ _; simp [loopC]
    | cons y ys ih =>
      intro acc hs hl
      rw [List.length_cons] at hl
      obtain ⟨ρ2, ρ3, e1, e2, e3, e4⟩ := h y (hs y List.mem_cons_self)
      have ih' := fun acc' hz' => ih acc' (fun x hx => hs x (List.mem_cons_of_mem _ hx)) hz'
      cases hpy : p y with
      | false =>
        rw [hpy] at e2
        simp only [List.map_cons, loopC, e1, e2, e3 hpy]
        rw [ih' acc (by omega), List.filter_cons_of_neg (by rw [hpy]; decide)]
      | true =>
        rw [hpy] at e2
        obtain ⟨r, ρ4, f1, f2, f3⟩ := e4 hpy
        simp only [List.map_cons, loopC, e1, e2, f1, f2, if_pos (show acc.length < 16000000 by omega), f3]
        rw [ih' _ (by rw [List.length_append, List.length_singleton]; omega), List.filter_cons_of_pos hpy, List.map_cons, List.append_assoc]
        rfl
  have e0 := e xs [] (fun _ h => h) (by simpa using hz)
  unfold compE
  simp only [hi, hp, if_true, hb, e0]
  rw [← hb, restore_lock]
  simp
theorem call_of {io : Option Nat} {F : Fn} {Fa : SA} {ρ ρ1 ρ2 : En} {rs : List Opd} {ds : List D} {b : Bool} {d d' : D} (h : Fa ρ = some (rs, ρ1)) (h2 : resAll ρ1 rs = some ds) (h3 : F ds = some (b, d, d')) (h4 : (noLend io 0 rs || ((if b then d.im1 else d.im) && d'.im1)) = true) (h5 : setIo io rs d' ρ1 = some ρ2) :
    callE io F Fa ρ = some (if b then .new d else .val d, ρ2) := by
  unfold callE
  simp only [h, h2, h3, h5, if_pos h4]
theorem rng_of {tup : Bool} {F : SA} {ρ ρ1 : En} {j : Int} (h : F ρ = some ([.val (.int j)], ρ1)) (h0 : 0 ≤ j) (h1 : j ≤ 16000000) : rngE tup F ρ = some (if tup then .val (.tup (rangeD 0 j)) else .new (.lst (rangeD 0 j)), ρ1) := by
  unfold rngE
  simp only [h, if_pos (show j ≤ 16000000 ∧ -(2 ^ 62) ≤ j by omega)]
theorem rngI_of {F : SA} {ρ ρ1 : En} {j : Int} (h : F ρ = some ([.val (.int j)], ρ1)) (h0 : 0 ≤ j) (h1 : j ≤ 16000000) : rng1I F ρ = some ([], rangeD 0 j, ρ1) := by
  unfold rng1I
  simp only [h, if_pos (show j < 2 ^ 62 ∧ -(2 ^ 62) ≤ j by omega)]
theorem bin_of {k : D → D → Option Opd} {f g : SE} {ρ ρ1 ρ2 : En} {r1 r2 o : Opd} {a b : D} (h : f ρ = some (r1, ρ1)) (h2 : g ρ1 = some (r2, ρ2)) (ha : res ρ2 r1 = some a) (hb : res ρ2 r2 = some b) (hk : k a b = some o) : bin2 k f g ρ = some (o, ρ2) := by
  unfold bin2 two
  simp only [h, h2, ha, hb, hk, Option.map_some]
theorem par_of {is : List Nat} {F : SA} {ρ ρ1 ρ2 : En} {rs : List Opd} (h : F ρ = some (rs, ρ1)) (h2 : asgAll is rs ρ1 = some ρ2) : parS is F ρ = some (.nx ρ2) := by
  unfold parS
  simp only [h, h2, Option.map_some]
theorem of_of {f : SE} {ρ ρ1 : En} {b : Bool} (h : f ρ = some (.val (.bl b), ρ1)) : ofV f ρ = some (b, ρ1) := by
  unfold ofV
  simp only [h]
theorem ite_t {t : STe} {f g : SE} {ρ ρ1 : En} {o : Option (Opd × En)} (h : t ρ = some (true, ρ1)) (h2 : f ρ1 = o) : iteV t f g ρ = o := by
  unfold iteV
  simp only [h, h2]
theorem ite_f {t : STe} {f g : SE} {ρ ρ1 : En} {o : Option (Opd × En)} (h : t ρ = some (false, ρ1)) (h2 : g ρ1 = o) : iteV t f g ρ = o := by
  unfold iteV
  simp only [h, h2]
theorem drop_of {f : SE} {ρ ρ1 : En} {r : Opd} (h : f ρ = some (r, ρ1)) : dropS f ρ = some (.nx ρ1) := by
  unfold dropS
  simp only [h]
theorem app_of {i : Nat} {f : SE} {ρ ρ1 : En} {r : Opd} {d : D} {p0 l0 : Bool} {ds0 : List D} {p : Bool} {ds : List D} (h0 : ρ[i]? = some (.ow p0 l0 (.lst ds0))) (h : f ρ = some (r, ρ1)) (hk : keepD r = some d) (h1 : ρ1[i]? = some (.ow p false (.lst ds))) (hz : ds.length < 16000000) :
    appE i f ρ = some (.val .non, ρ1.set i (.ow p false (.lst (ds ++ [d])))) := by
  unfold appE
  simp only [h0, h, hk, h1, if_pos hz]
theorem item_of {i : Nat} {fi f : SE} {ρ ρ1 ρ2 : En} {r ri : Opd} {d : D} {p0 l0 : Bool} {ds0 : List D} {p : Bool} {ds : List D} {k : Int} {j : Nat} (h : f ρ = some (r, ρ1)) (hk : keepD r = some d) (h0 : ρ1[i]? = some (.ow p0 l0 (.lst ds0))) (hi : fi ρ1 = some (ri, ρ2)) (hr : res ρ2 ri = some (.int k)) (h1 : ρ2[i]? = some (.ow p false (.lst ds))) (hj : ixN ds.length k = some j) :
    itemS i fi f ρ = some (.nx (ρ2.set i (.ow p false (.lst (ds.set j d))))) := by
  unfold itemS
  simp only [h, hk, h0, hi, hr, h1, hj]
theorem and_t {t u : STe} {ρ ρ1 : En} {o : Option (Bool × En)} (h : t ρ = some (true, ρ1)) (h2 : u ρ1 = o) : andT t u ρ = o := by
  unfold andT
  simp only [h, h2]
theorem and_f {t u : STe} {ρ ρ1 : En} (h : t ρ = some (false, ρ1)) : andT t u ρ = some (false, ρ1) := by
  unfold andT
  simp only [h]
theorem sset_of {f : SE} {ρ ρ1 : En} {r : Opd} {ns : List Int} (h : f ρ = some (r, ρ1)) (hr : res ρ1 r = some (.tup (ns.map .int))) (hn : ns.length < 60) : sortSetE f ρ = some (.new (.lst ((uniqI ns).map .int)), ρ1) := by
  unfold sortSetE
  simp only [h, hr, intsD_map, if_pos hn]
end Mi

/-! Facts of plain data. -/
namespace Mi
open PySem PySem.Spec
open PyProof.Rows hiding St
open L2

/-- data that == and sorted may meet, of this depth -/
structure Gd (n : Nat) (d : D) : Prop where
  nd : d.nd = true
  lay : d.py.canLay0 = true
  dp : d.py.depth ≤ n
theorem Gd.mono {n m : Nat} {d : D} (h : Gd n d) (hm : n ≤ m) : Gd m d := ⟨h.nd, h.lay, Nat.le_trans h.dp hm⟩
theorem Gd.int {n : Nat} (i : Int) : Gd n (.int i) := ⟨rfl, by simp [D.py, PyData.canLay0], by simp [D.py, PyData.depth]⟩
theorem Gd.bl {n : Nat} (i : Bool) : Gd n (.bl i) := ⟨rfl, by simp [D.py, PyData.canLay0], by simp [D.py, PyData.depth]⟩
theorem Gd.non {n : Nat} : Gd n .non := ⟨rfl, by simp [D.py, PyData.canLay0], by simp [D.py, PyData.depth]⟩
theorem gdAll {n : Nat} : ∀ {ds : List D}, (∀ d ∈ ds, Gd n d) → D.ndAll ds = true ∧ PyData.canLayAll0 (D.pyAll ds) = true ∧ PyData.depthAll (D.pyAll ds) ≤ n
  | [], _ => by simp [D.ndAll, D.pyAll, PyData.canLayAll0, PyData.depthAll]
  | d :: ds, h => by
    obtain ⟨h1, h2, h3⟩ := gdAll fun d' hd => h d' (List.mem_cons_of_mem _ hd)
    have g := h d List.mem_cons_self
    have := g.dp
    refine ⟨by simp [D.ndAll, g.nd, h1], by simp [D.pyAll, PyData.canLayAll0, g.lay, h2], ?_⟩
    simp only [D.pyAll, PyData.depthAll]
    omega
theorem Gd.tup {n : Nat} {ds : List D} (h : ∀ d ∈ ds, Gd n d) : Gd (n + 1) (.tup ds) := by
  obtain ⟨h1, h2, h3⟩ := gdAll h
  exact ⟨by simpa [D.nd] using h1, by simpa [D.py, PyData.canLay0] using h2, by simp only [D.py, PyData.depth]; omega⟩
theorem Gd.lst {n : Nat} {ds : List D} (h : ∀ d ∈ ds, Gd n d) : Gd (n + 1) (.lst ds) := by
  obtain ⟨h1, h2, h3⟩ := gdAll h
  exact ⟨by simpa [D.nd] using h1, by simpa [D.py, PyData.canLay0] using h2, by simp only [D.py, PyData.depth]; omega⟩
theorem Gd.okE {n : Nat} {d : D} (h : Gd n d) (hn : n ≤ 64 := by omega) : d.okE = true := by
  unfold D.okE SeqAt.shaped
  have := h.dp
  simp only [h.nd, h.lay, Bool.true_and, decide_eq_true_eq]
  omega
@[simp] theorem okE_int (i : Int) : (D.int i).okE = true := (Gd.int (n := 0) i).okE
@[simp] theorem okE_bl (i : Bool) : (D.bl i).okE = true := (Gd.bl (n := 0) i).okE
@[simp] theorem okE_non : D.non.okE = true := (Gd.non (n := 0)).okE
@[simp] theorem okE_nilL : (D.lst []).okE = true := (Gd.lst (n := 0) (ds := []) (by simp)).okE
@[simp] theorem okE_nilT : (D.tup []).okE = true := (Gd.tup (n := 0) (ds := []) (by simp)).okE
@[simp] theorem eqD_int (i j : Int) : eqD (.int i) (.int j) = decide (i = j) := by
  unfold eqD
  simp only [D.py, PyData.eqv]
  by_cases h : i = j <;> simp [h]
@[simp] theorem eqD_bl (i j : Bool) : eqD (.bl i) (.bl j) = (i == j) := by simp [eqD, D.py, PyData.eqv]
@[simp] theorem eqD_lstN (ds : List D) : eqD (.lst ds) (.lst []) = ds.isEmpty := by
  cases ds <;> simp [eqD, D.py, D.pyAll, PyData.eqv, PyData.eqvAll]
@[simp] theorem eqD_tupN (ds : List D) : eqD (.tup ds) (.tup []) = ds.isEmpty := by
  cases ds <;> simp [eqD, D.py, D.pyAll, PyData.eqv, PyData.eqvAll]
@[simp] theorem eqK_int (i j : Int) : eqK (.int i) (.int j) = some (decide (i = j)) := by simp [eqK]
@[simp] theorem neK_int (i j : Int) : neK (.int i) (.int j) = some (!decide (i = j)) := by simp [neK]

/-! ### lots, webs -/
def lotD (l : List Int) : D := .tup (l.map .int)
def lotsD (ls : List (List Int)) : D := .tup (ls.map lotD)
def webD (m : Int) (ls : List (List Int)) : D := .tup [.int m, lotsD ls]
abbrev boxD (g s : Int) : D := .lst [.int g, .int s]
@[simp] theorem im_ints (l : List Int) : D.imAll (l.map .int) = true := by
  induction l with
  | nil => rfl
  | cons a l ih => simp [D.imAll, D.im, ih]
@[simp] theorem im_lot (l : List Int) : (lotD l).im = true := by simp [lotD, D.im]
@[simp] theorem im_lotAll (ls : List (List Int)) : D.imAll (ls.map lotD) = true := by
  induction ls with
  | nil => rfl
  | cons a l ih => simp [D.imAll, ih]
@[simp] theorem im_lots (ls : List (List Int)) : (lotsD ls).im = true := by simp [lotsD, D.im]
@[simp] theorem im_web (m : Int) (ls : List (List Int)) : (webD m ls).im = true := by simp [webD, D.im, D.imAll]
theorem gd_lot (l : List Int) : Gd 1 (lotD l) := Gd.tup fun d h => by
  obtain ⟨i, _, rfl⟩ := List.mem_map.mp h
  exact .int i
theorem gd_lots (ls : List (List Int)) : Gd 2 (lotsD ls) := Gd.tup fun d h => by
  obtain ⟨i, _, rfl⟩ := List.mem_map.mp h
  exact gd_lot i
@[simp] theorem okE_lot (l : List Int) : (lotD l).okE = true := (gd_lot l).okE
@[simp] theorem okE_lots (l : List (List Int)) : (lotsD l).okE = true := (gd_lots l).okE
@[simp] theorem flat_ints (l : List Int) : (l.map D.int).all flatD = true := by
  induction l with
  | nil => rfl
  | cons a l ih => simp [flatD]
@[simp] theorem inSeq_ints (i : Int) (l : List Int) : inSeq (.int i) (l.map .int) = decide (i ∈ l) := by
  unfold inSeq
  induction l with
  | nil => simp
  | cons a l ih =>
    rw [List.map_cons, List.any_cons, ih, eqD_int]
    by_cases h : a = i
    · simp [h]
    · have h' : ¬ i = a := fun z => h z.symm
      simp [h, h']
@[simp] theorem inD_lot (i : Int) (l : List Int) : inD (.int i) (lotD l) = some (decide (i ∈ l)) := by
  simp [inD, lotD, flatD]
/-! ### sorting -/
theorem sort_perm (ds : List D) : (sortL ds).Perm ds := List.mergeSort_perm _ _
def intOf : D → Int
  | .int i => i
  | _ => 0
theorem sort_ints (l : List Int) : ∃ l' : List Int, l'.Perm l ∧ sortL (l.map .int) = l'.map .int := by
  have p := sort_perm (l.map .int)
  refine ⟨(sortL (l.map .int)).map intOf, ?_, ?_⟩
  · have q := p.map intOf
    rw [List.map_map, show intOf ∘ D.int = id from rfl, List.map_id] at q
    exact q
  · rw [List.map_map]
    refine (List.map_id _).symm.trans (List.map_congr_left fun d hd => ?_)
    obtain ⟨i, _, rfl⟩ := List.mem_map.mp (p.mem_iff.mp hd)
    rfl
/-! ### what is sorted ascends -/
theorem leD_int (a b : Int) : leD (.int a) (.int b) = decide (a ≤ b) := by
  show (!PySem.W.dataLt (.int b) (.int a)) = _
  rw [PySem.W.dataLt_int]
  by_cases h : b < a
  · simp [h, show ¬ a ≤ b by omega]
  · simp [h, show a ≤ b by omega]
theorem leD_le : PySem.W.TotalLe leD := PySem.W.sortLe_total (PyProof.Rows.listOrd PyProof.Rows.itemOrd) false fun b => PySem.W.keyToks (D.py b)
theorem sort_pw (ds : List D) : (sortL ds).Pairwise fun a b => leD a b = true :=
  List.pairwise_mergeSort (le := leD) leD_le.trans (fun a b => Bool.or_eq_true_iff.mpr (leD_le.total a b)) ds
theorem ints_pw {ds : List D} {l : List Int} (e : sortL ds = l.map .int) : l.Pairwise (· ≤ ·) := by
  have h := sort_pw ds
  rw [e, List.pairwise_map] at h
  exact h.imp fun q => by simpa [leD_int] using q
theorem pw_strict : ∀ {l : List Int}, l.Pairwise (· ≤ ·) → l.Nodup → l.Pairwise (· < ·)
  | [], _, _ => .nil
  | a :: l, h, n => by
    rw [List.pairwise_cons] at h ⊢
    rw [List.nodup_cons] at n
    exact ⟨fun b hb => by
      have := h.1 b hb
      have : a ≠ b := fun z => n.1 (z ▸ hb)
      omega, pw_strict h.2 n.2⟩
/-- the order of lots -/
def lotLe (a b : List Int) : Prop := leD (lotD a) (lotD b) = true
theorem lots_pw {ds : List D} {l : List (List Int)} (e : sortL ds = l.map lotD) : l.Pairwise lotLe := by
  have h := sort_pw ds
  rw [e, List.pairwise_map] at h
  exact h
theorem sortB_ints (l : List Int) (h : l.length ≤ 16000000) : sortB (l.map .int) = true := by
  unfold sortB
  simp only [Bool.and_eq_true, Bool.or_eq_true, List.all_eq_true, decide_eq_true_eq, List.length_map]
  refine ⟨⟨⟨fun a ha b hb => ?_, .inr fun a ha => ?_⟩, fun a ha => ?_⟩, h⟩
  · obtain ⟨i, _, rfl⟩ := List.mem_map.mp ha
    obtain ⟨j, _, rfl⟩ := List.mem_map.mp hb
    simp [D.py, PySem.W.alike]
  · obtain ⟨i, _, rfl⟩ := List.mem_map.mp ha
    rfl
  · obtain ⟨i, _, rfl⟩ := List.mem_map.mp ha
    exact ⟨rfl, by simp [D.py, PyData.depth]⟩
def lotOf : D → List Int
  | .tup ds => ds.map intOf
  | _ => []
theorem lotOf_lot (l : List Int) : lotOf (lotD l) = l := by
  show (l.map D.int).map intOf = l
  rw [List.map_map, show intOf ∘ D.int = id from rfl, List.map_id]
theorem sort_lots (l : List (List Int)) : ∃ l' : List (List Int), l'.Perm l ∧ sortL (l.map lotD) = l'.map lotD := by
  have p := sort_perm (l.map lotD)
  refine ⟨(sortL (l.map lotD)).map lotOf, ?_, ?_⟩
  · have q := p.map lotOf
    rw [List.map_map, show lotOf ∘ lotD = id from funext lotOf_lot, List.map_id] at q
    exact q
  · rw [List.map_map]
    refine (List.map_id _).symm.trans (List.map_congr_left fun d hd => ?_)
    obtain ⟨i, _, rfl⟩ := List.mem_map.mp (p.mem_iff.mp hd)
    show _ = lotD (lotOf (lotD i))
    rw [lotOf_lot]; rfl
theorem py_lot (l : List Int) : (lotD l).py = .tuple (l.map PyData.int) := by
  show PyData.tuple (D.pyAll _) = _
  rw [D.pyAll_eq, List.map_map]; rfl
theorem sortB_lots (l : List (List Int)) (hn : ∀ x ∈ l, x ≠ []) (h : l.length ≤ 16000000) : sortB (l.map lotD) = true := by
  unfold sortB
  simp only [Bool.and_eq_true, Bool.or_eq_true, List.all_eq_true, decide_eq_true_eq, List.length_map]
  refine ⟨⟨⟨fun a ha b hb => ?_, .inl fun a ha => ?_⟩, fun a ha => ?_⟩, h⟩
  · obtain ⟨i, _, rfl⟩ := List.mem_map.mp ha
    obtain ⟨j, _, rfl⟩ := List.mem_map.mp hb
    rw [py_lot, py_lot]
    simp only [PySem.W.alike]
    exact PySem.W.alike_ints i j
  · obtain ⟨i, hi, rfl⟩ := List.mem_map.mp ha
    cases i with
    | nil => exact absurd rfl (hn _ hi)
    | cons x xs => rfl
  · obtain ⟨i, _, rfl⟩ := List.mem_map.mp ha
    have g := gd_lot i
    have := g.dp
    exact ⟨g.nd, by omega⟩
@[simp] theorem intsD_ints (l : List Int) : intsD (l.map .int) = some l := intsD_map l
@[simp] theorem blsD_bls (l : List Bool) : blsD (l.map .bl) = some l := blsD_map l
end Mi

/-! What the laws' generators give. -/
namespace Mi
open PySem PySem.Spec
open PyProof.Rows hiding St
open L2

theorem take_ok (g s many : Int) (hm : 0 < many) (hb : many < 1000) : ∃ x g' s', f_law_take [boxD g s, .int many] = some (false, .int x, boxD g' s') ∧ 0 ≤ x ∧ x < many := by
  by_cases hg : 0 < g
  · refine ⟨g % many, g / many, s, ?_, Int.emod_nonneg _ (by omega), Int.emod_lt_of_pos _ hm⟩
    simp [f_law_take, b_law_take, hg, hm, show many < 18446744073709551616 by omega]
  · have : ∃ y g' s', f_law_take [boxD g s, .int many] = some (false, .int (y % many), boxD g' s') := by
      simp [f_law_take, b_law_take, hg, hm]
      exact ⟨_, rfl⟩
    obtain ⟨y, g', s', h⟩ := this
    exact ⟨_, g', s', h, Int.emod_nonneg _ (by omega), Int.emod_lt_of_pos _ hm⟩
theorem atI_some {α : Type} {l : List α} {k : Int} (h0 : 0 ≤ k) (h1 : k < l.length) : ∃ v, atI l k = some v ∧ v ∈ l := by
  obtain ⟨n, rfl⟩ := Int.eq_ofNat_of_zero_le h0
  have hn : n < l.length := by omega
  exact ⟨l[n], by rw [show ((n : Nat) : Int) = (n : Int) from rfl, atI_nat, List.getElem?_eq_getElem hn], List.getElem_mem hn⟩
theorem box_ok (ns : List Int) (k : Int) (h0 : 0 ≤ k) (h1 : k < 64) (hn : ns.length ≤ 63) : ∃ g s, f_law_box [.scr ns, .int k] = some (true, boxD g s, .non) := by
  have fin : ∀ c : Int, ∃ g : Int, (if 1000000000000000000 ≤ c then some c else some 0) = some g := fun c => by
    split <;> exact ⟨_, rfl⟩
  by_cases h : k < ns.length
  · obtain ⟨v, e, _⟩ := atI_some h0 h
    by_cases hc : (1000000000000000000 : Int) ≤ (if v < 0 then -v else v)
    · simp [f_law_box, b_law_box, h, e, hc]
    · simp [f_law_box, b_law_box, h, e, hc]
  · by_cases hl : ns = []
    · subst hl
      have : ¬ k < 0 := by omega
      by_cases hc : (1000000000000000000 : Int) ≤ 7121 * k + 8117
      · omega
      · simp [f_law_box, b_law_box, this, hc]
    · have hp : 0 < ns.length := List.length_pos_iff.mpr hl
      obtain ⟨v, e, _⟩ := atI_some (l := ns) (Int.emod_nonneg k (show (ns.length : Int) ≠ 0 by omega)) (Int.emod_lt_of_pos k (by omega))
      by_cases hc : (1000000000000000000 : Int) ≤ 7121 * k + 8117 + (if v < 0 then -v else v) % 2147483563 * 58907
      · simp [f_law_box, b_law_box, h, e, hc, hp, hl]
      · simp [f_law_box, b_law_box, h, e, hc, hp, hl]
theorem perm_erase {α : Type} : ∀ (l : List α) (j : Nat) (h : j < l.length), (l[j] :: l.eraseIdx j).Perm l
  | [], j, h => by simp at h
  | a :: l, 0, h => by simp
  | a :: l, j + 1, h => by
    simp only [List.getElem_cons_succ, List.eraseIdx_cons_succ]
    exact (List.Perm.swap _ _ _).trans ((perm_erase l j (by simpa using h)).cons a)
theorem nodup_map_on {α β : Type} {f : α → β} : ∀ {l : List α}, (∀ i ∈ l, ∀ j ∈ l, f i = f j → i = j) → l.Nodup → (l.map f).Nodup
  | [], _, _ => by simp
  | a :: l, h, n => by
    rw [List.nodup_cons] at n
    rw [List.map_cons, List.nodup_cons]
    refine ⟨fun z => ?_, nodup_map_on (fun i hi j hj => h i (List.mem_cons_of_mem _ hi) j (List.mem_cons_of_mem _ hj)) n.2⟩
    obtain ⟨b, hb, e⟩ := List.mem_map.mp z
    exact n.1 (h b (List.mem_cons_of_mem _ hb) a List.mem_cons_self e ▸ hb)
theorem irange_nodup (lo hi : Int) : (irange lo hi).Nodup := by
  unfold irange
  refine nodup_map_on (fun i _ j _ e => ?_) List.nodup_range
  have e : lo + (i : Int) = lo + (j : Int) := e
  omega
theorem atI_inj {l : List Int} {i j : Int} (h : l.Nodup) (i0 : 0 ≤ i) (i1 : i < l.length) (j0 : 0 ≤ j) (j1 : j < l.length) (e : atI l i = atI l j) : i = j := by
  obtain ⟨i, rfl⟩ := Int.eq_ofNat_of_zero_le i0
  obtain ⟨j, rfl⟩ := Int.eq_ofNat_of_zero_le j0
  rw [atI_nat, atI_nat] at e
  have := (List.getElem?_inj (by omega) h).mp e
  omega
theorem atI_of_mem {l : List Int} {v : Int} (h : v ∈ l) : ∃ j : Nat, j < l.length ∧ atI l (j : Int) = some v := by
  obtain ⟨j, hj, e⟩ := List.mem_iff_getElem.mp h
  exact ⟨j, hj, by rw [atI_nat, List.getElem?_eq_getElem hj, e]⟩
/-- a shuffled list -/
theorem shuffled_ok (g s : Int) (ds : List D) (hz : ds.length < 900) : ∃ ds' g' s', f_law_shuffled [boxD g s, .lst ds] = some (true, .lst ds', boxD g' s') ∧ ds'.Perm ds := by
  obtain ⟨ρ', e, g', s', left, found, t, rfl, ht, hp, hl⟩ := loopS_inv (T := nameT 4) (F := dropS (appE 3 (popAtE 2 (callE (some 0) f_law_take (consA (varF 0) (consA (bltE lenK (consA (varF 2) (nilA))) (nilA)))))))
    (fun k ρ => ∃ g s left found t, ρ = [.ow true false (boxD g s), .fr (.lst ds), .ow false false (.lst left), .ow false false (.lst found), t] ∧ free1 t = true ∧ (left ++ found).Perm ds ∧ left.length + k = ds.length)
    (rangeD 0 ds.length) 0 [.ow true false (boxD g s), .fr (.lst ds), .ow false false (.lst ds), .ow false false (.lst []), .un] (fun k d hd ρ ⟨g, s, left, found, t, hρ, ht, hp, hl⟩ => by
      obtain ⟨rfl, hk⟩ := range_at hd
      have hpos : 0 < left.length := by omega
      obtain ⟨x, g', s', e, x0, x1⟩ := take_ok g s left.length (by omega) (by omega)
      obtain ⟨j, rfl⟩ := Int.eq_ofNat_of_zero_le x0
      have hj : j < left.length := by omega
      have hix : ixN left.length (j : Int) = some j := by unfold ixN; simp [hj]
      have hz2 : found.length < 16000000 := by
        have := hp.length_eq
        rw [List.length_append] at this
        omega
      subst hρ
      refine ⟨_, _, (by simp [ht]; rfl), .inl (by simp [e, hix, hz2, List.getElem?_eq_getElem hj, show left.length ≤ 16000000 by omega]; rfl), g', s', left.eraseIdx j, found ++ [left[j]], _, rfl, rfl, ?_, ?_⟩
      · refine List.Perm.trans ?_ hp
        rw [← List.append_assoc]
        refine List.perm_append_singleton _ _ |>.trans ?_
        rw [← List.cons_append]
        exact (perm_erase left j hj).append_right _
      · rw [List.length_eraseIdx_of_lt hj]; omega) ⟨g, s, ds, [], .un, rfl, rfl, by simp, by simp⟩
  rw [range_len] at hl
  have hl0 : left = [] := List.eq_nil_of_length_eq_zero (by omega)
  subst hl0
  refine ⟨found, g', s', fn_run (seq_nx (ρ1 := [.ow true false (boxD g s), .fr (.lst ds), .ow false false (.lst ds), .ow false false (.lst []), .un]) (by simp [startE, parE, List.replicate]) (seq_nx (for_nx (rs := []) (ds := rangeD 0 ds.length) (by simp; omega) e rfl) (ret_rt rfl))) rfl, by simpa using hp⟩
/-- few things -/
def Wee (m : Int) (n : Nat) : Prop := n ≤ 5 ∨ ((n : Int) ≤ m + 3 ∧ (6 ≤ m → (n : Int) ≤ m + 2))
/-- a web's shape -/
structure WebOk (m : Int) (ls : List (List Int)) : Prop where
  many : 0 < m ∧ m ≤ 60
  lots : ∀ l ∈ ls, l ≠ [] ∧ l.length ≤ 60 ∧ ∀ i ∈ l, 0 ≤ i ∧ i < m
  few : ls.length ≤ 60
  asc : ∀ l ∈ ls, l.Pairwise (· < ·)
  srt : ls.Pairwise lotLe
  cov : ∀ i : Int, 0 ≤ i → i < m → ∃ l ∈ ls, i ∈ l
  wee : Wee m ls.length
theorem sort_any (l : List Int) (hl : l.length ≤ 16000000) : ∃ l' : List Int, l'.Perm l ∧ sortK [.lst (l.map .int)] = some (.new (.lst (l'.map .int))) := by
  obtain ⟨l', h1, h2⟩ := sort_ints l
  refine ⟨l', h1, ?_⟩
  unfold sortK
  simp only [D.seqL, sortB_ints l hl, if_true, h2]
theorem named_ok (g s many : Int) (hm : 0 < many ∧ many ≤ 60) (ths : List (List Int)) (ht : ∀ l ∈ ths, l ≠ [] ∧ l.length ≤ 60 ∧ (∀ i ∈ l, 0 ≤ i ∧ i < many) ∧ l.Nodup) (hc : ∀ i : Int, 0 ≤ i → i < many → ∃ l ∈ ths, i ∈ l) (hz : ths.length ≤ 60) (hw : Wee many ths.length) :
    ∃ ls g' s', f_law_named [boxD g s, .int many, .lst (ths.map lotD)] = some (false, webD many ls, boxD g' s') ∧ WebOk many ls := by
  obtain ⟨ds', g', s', e, hp⟩ := shuffled_ok g s (rangeD 0 many) (by rw [range_len]; omega)
  rw [range_ints] at hp
  obtain ⟨ns, rfl, hn⟩ : ∃ ns : List Int, ds' = ns.map .int ∧ ns.Perm (irange 0 many) := by
    refine ⟨ds'.map intOf, ?_, ?_⟩
    · rw [List.map_map]
      refine (List.map_id _).symm.trans (List.map_congr_left fun d hd => ?_)
      obtain ⟨i, _, rfl⟩ := List.mem_map.mp (hp.mem_iff.mp hd)
      rfl
    · have q := hp.map intOf
      rw [List.map_map, show intOf ∘ D.int = id from rfl, List.map_id] at q
      exact q
  have hnl : (ns.length : Int) = many := by
    have := hn.length_eq
    unfold irange at this
    rw [List.length_map, List.length_range] at this
    omega
  have nm : ∀ i : Int, 0 ≤ i → i < many → ∃ v, atI ns i = some v ∧ 0 ≤ v ∧ v < many := fun i h0 h1 => by
    obtain ⟨v, e, hv⟩ := atI_some (l := ns) h0 (by omega)
    have := mem_ints.mp (hn.mem_iff.mp hv)
    exact ⟨v, e, this.1, this.2⟩
  let nf : Int → Int := fun i => (atI ns i).getD 0
  have hnf : ∀ i : Int, 0 ≤ i → i < many → atI ns i = some (nf i) ∧ 0 ≤ nf i ∧ nf i < many := fun i h0 h1 => by
    obtain ⟨v, e, h⟩ := nm i h0 h1
    have : nf i = v := by show (atI ns i).getD 0 = v; rw [e]; rfl
    rw [this]
    exact ⟨e, h⟩
  let sl : List Int → List Int := fun l => lotOf (.tup (sortL ((l.map nf).map .int)))
  have hsl : ∀ l, (sl l).Perm (l.map nf) ∧ sortL ((l.map nf).map .int) = (sl l).map .int := fun l => by
    obtain ⟨l', h1, h2⟩ := sort_ints (l.map nf)
    have : sl l = l' := by
      show lotOf (.tup (sortL ((l.map nf).map .int))) = l'
      rw [h2]
      exact lotOf_lot l'
    rw [this]
    exact ⟨h1, h2⟩
  have ha : ∀ i : Int, 0 ≤ i → i < many → atI (ns.map D.int) i = some (.int (nf i)) := fun i h0 h1 => by
    rw [atI_map, (hnf i h0 h1).1]; rfl
  -- one lot
  have inner : ∀ (l : List Int), l ∈ ths → compE [5] (seqI (varF 4)) (nameT 5) yesT (bin2 ixD (varF 3) (varF 5)) [.ow true false (boxD g' s'), .fr (.int many), .fr (.lst (ths.map lotD)), .ow false false (.lst (ns.map .int)), .fr (lotD l), .un] =
      some (.new (.lst ((l.map nf).map .int)), [.ow true false (boxD g' s'), .fr (.int many), .fr (.lst (ths.map lotD)), .ow false false (.lst (ns.map .int)), .fr (lotD l), .un]) := fun l hl => by
    obtain ⟨h1, h2, h3, _⟩ := ht l hl
    rw [compE_map (rs := [.val (lotD l)]) (xs := l) (ρ1 := [.ow true false (boxD g' s'), .fr (.int many), .fr (.lst (ths.map lotD)), .ow false false (.lst (ns.map .int)), .fr (lotD l), .un]) .int (fun i => .int (nf i)) (by simp [lotD]) rfl (by omega) (fun i hi => by
      obtain ⟨i0, i1⟩ := h3 i hi
      exact ⟨[.ow true false (boxD g' s'), .fr (.int many), .fr (.lst (ths.map lotD)), .ow false false (.lst (ns.map .int)), .fr (lotD l), .fr (.int i)], .val (.int (nf i)), [.ow true false (boxD g' s'), .fr (.int many), .fr (.lst (ths.map lotD)), .ow false false (.lst (ns.map .int)), .fr (lotD l), .fr (.int i)], by simp [wipeE], by simp [ha i i0 i1], rfl, rfl⟩)]
    rw [List.map_map]
    rfl
  have outer : compE [4] (seqI (varF 2)) (nameT 4) yesT (bltE tupK (consA (bltE sortK (consA (compE [5] (seqI (varF 4)) (nameT 5) (yesT) (bin2 ixD (varF 3) (varF 5))) (nilA))) (nilA))) [.ow true false (boxD g' s'), .fr (.int many), .fr (.lst (ths.map lotD)), .ow false false (.lst (ns.map .int)), .un, .un] =
      some (.new (.lst ((ths.map sl).map lotD)), [.ow true false (boxD g' s'), .fr (.int many), .fr (.lst (ths.map lotD)), .ow false false (.lst (ns.map .int)), .un, .un]) := by
    rw [compE_map (rs := [.val (.lst (ths.map lotD))]) (xs := ths) (ρ1 := [.ow true false (boxD g' s'), .fr (.int many), .fr (.lst (ths.map lotD)), .ow false false (.lst (ns.map .int)), .un, .un]) lotD (fun l => lotD (sl l)) (by simp) rfl (by omega) (fun l hl => by
      obtain ⟨q1, q2⟩ := hsl l
      have hsort : sortK [.lst ((l.map nf).map .int)] = some (.new (.lst ((sl l).map .int))) := by
        unfold sortK
        simp only [D.seqL, sortB_ints (l.map nf) (by rw [List.length_map]; have := (ht l hl).2.1; omega), if_true, q2]
      exact ⟨_, _, _, (by simp [wipeE]), blt_of (cons_of (blt_of (cons_of (inner l hl) rfl) rfl hsort) rfl) rfl rfl, rfl, rfl⟩)]
    rw [List.map_map]
    rfl
  have hnd : ns.Nodup := hn.nodup_iff.mpr (irange_nodup 0 many)
  have inj : ∀ i j : Int, 0 ≤ i → i < many → 0 ≤ j → j < many → nf i = nf j → i = j := fun i j i0 i1 j0 j1 e => atI_inj hnd i0 (by omega) j0 (by omega) ((hnf i i0 i1).1.trans (e ▸ (hnf j j0 j1).1.symm))
  have asc : ∀ x ∈ ths.map sl, x.Pairwise (· < ·) := fun x hx => by
    obtain ⟨l, hl, rfl⟩ := List.mem_map.mp hx
    obtain ⟨q1, q2⟩ := hsl l
    obtain ⟨_, _, h3, h4⟩ := ht l hl
    exact pw_strict (ints_pw q2) (q1.nodup_iff.mpr (nodup_map_on (fun i hi j hj e => inj i j (h3 i hi).1 (h3 i hi).2 (h3 j hj).1 (h3 j hj).2 e) h4))
  have cov : ∀ i : Int, 0 ≤ i → i < many → ∃ x ∈ ths.map sl, i ∈ x := fun i i0 i1 => by
    obtain ⟨j, hj, e⟩ := atI_of_mem (hn.mem_iff.mpr (mem_ints.mpr ⟨i0, i1⟩))
    have j1 : (j : Int) < many := by omega
    obtain ⟨l, hl, hm⟩ := hc j (by omega) j1
    refine ⟨sl l, List.mem_map.mpr ⟨l, hl, rfl⟩, (hsl l).1.mem_iff.mpr (List.mem_map.mpr ⟨j, hm, ?_⟩)⟩
    have := (hnf j (by omega) j1).1
    rw [e] at this
    exact (Option.some.inj this).symm
  have hne : ∀ x ∈ ths.map sl, x ≠ [] ∧ x.length ≤ 60 ∧ ∀ i ∈ x, 0 ≤ i ∧ i < many := fun x hx => by
    obtain ⟨l, hl, rfl⟩ := List.mem_map.mp hx
    obtain ⟨h1, h2, h3, _⟩ := ht l hl
    obtain ⟨q1, _⟩ := hsl l
    have hlen := q1.length_eq
    rw [List.length_map] at hlen
    refine ⟨fun z => ?_, by omega, fun i hi => ?_⟩
    · rw [z] at hlen
      exact h1 (List.eq_nil_of_length_eq_zero hlen.symm)
    · obtain ⟨j, hj, rfl⟩ := List.mem_map.mp (q1.mem_iff.mp hi)
      obtain ⟨j0, j1⟩ := h3 j hj
      exact (hnf j j0 j1).2
  obtain ⟨ls, p1, p2⟩ := sort_lots (ths.map sl)
  have hsort : sortK [.lst ((ths.map sl).map lotD)] = some (.new (.lst (ls.map lotD))) := by
    unfold sortK
    simp only [D.seqL, sortB_lots (ths.map sl) (fun x hx => (hne x hx).1) (by rw [List.length_map]; omega), if_true, p2]
  refine ⟨ls, g', s', fn_run (seq_nx (ρ1 := [.ow true false (boxD g' s'), .fr (.int many), .fr (.lst (ths.map lotD)), .ow false false (.lst (ns.map .int)), .un, .un]) ?_ (ret_rt (tup_of (cons_of (r := .val (.int many)) rfl (cons_of (blt_of (cons_of (blt_of (cons_of outer rfl) rfl hsort) rfl) rfl rfl) rfl)) rfl (by simp)))) rfl, hm, fun l hl => hne l (p1.mem_iff.mp hl), by rw [p1.length_eq, List.length_map]; exact hz, fun l hl => asc l (p1.mem_iff.mp hl), lots_pw p2, fun i i0 i1 => by
    obtain ⟨x, hx, hi⟩ := cov i i0 i1
    exact ⟨x, p1.mem_iff.mpr hx, hi⟩, by rw [p1.length_eq, List.length_map]; exact hw⟩
  exact set_nx (call_of (cons_of (r := .slot 0) rfl (cons_of (rng_of (tup := false) (cons_of (r := .val (.int many)) rfl rfl) (by omega) (by omega)) rfl)) rfl e rfl rfl) rfl
/-- a number taken -/
theorem take_at {p : Bool} {g s m : Int} {rest : En} {fa : SE} (hfa : fa (.ow p false (boxD g s) :: rest) = some (.val (.int m), .ow p false (boxD g s) :: rest)) (h0 : 0 < m) (h1 : m < 1000) :
    ∃ x g' s', callE (some 0) f_law_take (consA (varF 0) (consA fa nilA)) (.ow p false (boxD g s) :: rest) = some (.val (.int x), .ow p false (boxD g' s') :: rest) ∧ 0 ≤ x ∧ x < m := by
  obtain ⟨x, g', s', e, h⟩ := take_ok g s m h0 h1
  exact ⟨x, g', s', call_of (cons_of (r := .slot 0) rfl (cons_of hfa rfl)) rfl e rfl rfl, h⟩
/-- a lot of hands -/
def GL (m : Int) (l : List Int) : Prop := l ≠ [] ∧ l.length ≤ 60 ∧ (∀ i ∈ l, 0 ≤ i ∧ i < m) ∧ l.Nodup
def Cov (m : Int) (ls : List (List Int)) : Prop := ∀ i : Int, 0 ≤ i → i < m → ∃ l ∈ ls, i ∈ l
theorem GL.mono {m m' : Int} {l : List Int} (h : GL m l) (hm : m ≤ m') : GL m' l := ⟨h.1, h.2.1, fun i hi => ⟨(h.2.2.1 i hi).1, by have := (h.2.2.1 i hi).2; omega⟩, h.2.2.2⟩
theorem irange_len {lo hi : Int} : (irange lo hi).length = (hi - lo).toNat := by
  unfold irange
  rw [List.length_map, List.length_range]
theorem GL.range {lo hi : Int} (h : lo < hi) (h0 : 0 ≤ lo) (hz : hi - lo ≤ 60) : GL hi (irange lo hi) :=
  ⟨fun z => by
    have := irange_len (lo := lo) (hi := hi)
    rw [z] at this
    simp at this
    omega, by rw [irange_len]; omega, fun i hi' => by
    have := mem_ints.mp hi'
    omega, irange_nodup _ _⟩
theorem GL.one {m i : Int} (h0 : 0 ≤ i) (h1 : i < m) : GL m [i] := ⟨by simp, by simp, fun j hj => by
  rw [List.mem_singleton.mp hj]
  exact ⟨h0, h1⟩, by simp⟩
theorem rng2_of {F : SA} {ρ ρ1 : En} {i j : Int} (h : F ρ = some ([.val (.int i), .val (.int j)], ρ1)) (h0 : 0 ≤ i ∧ i ≤ 16000000) (h1 : 0 ≤ j ∧ j ≤ 16000000) : rng2E true F ρ = some (.val (.tup (rangeD i j)), ρ1) := by
  unfold rng2E
  simp only [h, if_pos (show (0 ≤ i ∧ i ≤ 16000000) ∧ 0 ≤ j ∧ j ≤ 16000000 from ⟨h0, h1⟩), if_true]
theorem forest_ok (g s most : Int) (h1 : 1 ≤ most) (h2 : most ≤ 20) : ∃ m ls g' s', f_law_forest [boxD g s, .int most] = some (false, webD m ls, boxD g' s') ∧ WebOk m ls ∧ (m ≤ most ∨ m ≤ 3) := by
  obtain ⟨x1, g1, s1, e1, x10, x11⟩ := take_at (p := true) (g := g) (s := s) (m := 3) (rest := [.fr (.int most), .un, .un, .un, .un, .un]) (fa := valF (.int 3)) rfl (by omega) (by omega)
  obtain ⟨x2, g2, s2, e2, x20, x21⟩ := take_at (p := true) (g := g1) (s := s1) (m := 4) (rest := [.fr (.int most), .fr (.int (1 + x1)), .ow false false (.lst ([irange 0 (1 + x1)].map lotD)), .un, .un, .un]) (fa := valF (.int 4)) rfl (by omega) (by omega)
  obtain ⟨ρ3, e3, g3, s3, many, ths, t, sz, old, rfl, ft, fz, fo, m1, m2, tl, tg, tc⟩ := loopS_inv (T := nameT 4) (F := ifS (ofV (bin2 (cmpV ltD) (varF 2) (varF 1))) (seqS (setS 5 (bltE min2K (consA (bin2 addD (valF (.int 1)) (callE (some 0) f_law_take (consA (varF 0) (consA (valF (.int 2)) (nilA))))) (consA (bin2 (iiD subI) (varF 1) (varF 2)) (nilA)))))
      (seqS (setS 6 (iteV (ofV (bin2 (cmpV eqK) (callE (some 0) f_law_take (consA (varF 0) (consA (valF (.int 6)) (nilA)))) (valF (.int 0)))) (tupF (nilA)) (tupF (consA (callE (some 0) f_law_take (consA (varF 0) (consA (varF 2) (nilA)))) (nilA)))))
      (seqS (dropS (appE 3 (bin2 addD (varF 6) (rng2E true (consA (varF 2) (consA (bin2 addD (varF 2) (varF 5)) nilA))))))
      (setS 2 (bin2 addD (varF 2) (varF 5)))))) (skipS))
    (fun k ρ => ∃ g s many ths t sz old, ρ = [.ow true false (boxD g s), .fr (.int most), .fr (.int many), .ow false false (.lst (List.map lotD ths)), t, sz, old] ∧ free1 t = true ∧ free1 sz = true ∧ free1 old = true ∧ 1 ≤ many ∧ (many ≤ most ∨ many ≤ 3) ∧ ths.length ≤ 1 + k ∧ (∀ l ∈ ths, GL many l) ∧ Cov many ths)
    (rangeD 0 x2) 0 [.ow true false (boxD g2 s2), .fr (.int most), .fr (.int (1 + x1)), .ow false false (.lst ([irange 0 (1 + x1)].map lotD)), .un, .un, .un]
    (fun k d hd ρ ⟨g, s, many, ths, t, sz, old, hρ, ft, fz, fo, m1, m2, tl, tg, tc⟩ => by
      subst hρ
      obtain ⟨rfl, hk⟩ := range_at hd
      by_cases hlt : many < most
      · obtain ⟨y1, ga, sa, ea, y10, y11⟩ := take_at (p := true) (g := g) (s := s) (m := 2) (rest := [.fr (.int most), .fr (.int many), .ow false false (.lst (ths.map lotD)), .fr (.int (0 + k)), sz, old]) (fa := valF (.int 2)) rfl (by omega) (by omega)
        let size : Int := if most - many < 1 + y1 then most - many else 1 + y1
        have hs1 : 1 ≤ size ∧ size ≤ 2 ∧ many + size ≤ most := by simp only [size]; split <;> omega
        obtain ⟨y2, gb, sb, eb, y20, y21⟩ := take_at (p := true) (g := ga) (s := sa) (m := 6) (rest := [.fr (.int most), .fr (.int many), .ow false false (.lst (ths.map lotD)), .fr (.int (0 + k)), .fr (.int size), old]) (fa := valF (.int 6)) rfl (by omega) (by omega)
        obtain ⟨y3, gc, sc, ec, y30, y31⟩ := take_at (p := true) (g := gb) (s := sb) (m := many) (rest := [.fr (.int most), .fr (.int many), .ow false false (.lst (ths.map lotD)), .fr (.int (0 + k)), .fr (.int size), old]) (fa := varF 2) rfl (by omega) (by omega)
        have hset5 : setS 5 (bltE min2K (consA (bin2 addD (valF (.int 1)) (callE (some 0) f_law_take (consA (varF 0) (consA (valF (.int 2)) (nilA))))) (consA (bin2 (iiD subI) (varF 1) (varF 2)) (nilA)))) [.ow true false (boxD g s), .fr (.int most), .fr (.int many), .ow false false (.lst (ths.map lotD)), .fr (.int (0 + k)), sz, old] =
            some (.nx [.ow true false (boxD ga sa), .fr (.int most), .fr (.int many), .ow false false (.lst (ths.map lotD)), .fr (.int (0 + k)), .fr (.int size), old]) :=
          set_nx (blt_of (cons_of (bin_of (r1 := .val (.int 1)) rfl ea rfl rfl rfl) (cons_of (bin_of (r1 := .val (.int most)) (r2 := .val (.int many)) rfl rfl rfl rfl rfl) rfl)) rfl rfl) (by simp [fz, size])
        have old6 : ∃ gd sd ol, setS 6 (iteV (ofV (bin2 (cmpV eqK) (callE (some 0) f_law_take (consA (varF 0) (consA (valF (.int 6)) (nilA)))) (valF (.int 0)))) (tupF (nilA)) (tupF (consA (callE (some 0) f_law_take (consA (varF 0) (consA (varF 2) (nilA)))) (nilA)))) [.ow true false (boxD ga sa), .fr (.int most), .fr (.int many), .ow false false (.lst (ths.map lotD)), .fr (.int (0 + k)), .fr (.int size), old] =
            some (.nx [.ow true false (boxD gd sd), .fr (.int most), .fr (.int many), .ow false false (.lst (ths.map lotD)), .fr (.int (0 + k)), .fr (.int size), .fr (lotD ol)]) ∧ ol.length ≤ 1 ∧ (∀ i ∈ ol, 0 ≤ i ∧ i < many) ∧ ol.Nodup := by
          by_cases hy : y2 = 0
          · refine ⟨gb, sb, [], set_nx (ite_t (of_of (bin_of eb rfl rfl rfl (by simp [cmpV, hy]))) rfl) (by simp [fo, lotD]), by simp, by simp, by simp⟩
          · refine ⟨gc, sc, [y3], set_nx (ite_f (of_of (bin_of eb rfl rfl rfl (by simp [cmpV, hy]))) (tup_of (cons_of ec rfl) rfl (by simp))) (by simp [fo, lotD]), by simp, fun i hi => by rw [List.mem_singleton.mp hi]; exact ⟨y30, y31⟩, by simp⟩
        obtain ⟨gd, sd, ol, eo, ol1, ol2, ol3⟩ := old6
        have happ : addD (lotD ol) (.tup (rangeD many (many + size))) = some (.val (lotD (ol ++ irange many (many + size)))) := by
          simp only [lotD, addD, range_ints, List.length_map, irange_len]
          rw [if_pos (by omega), List.map_append]
        refine ⟨[.ow true false (boxD g s), .fr (.int most), .fr (.int many), .ow false false (.lst (ths.map lotD)), .fr (.int (0 + k)), sz, old], [.ow true false (boxD gd sd), .fr (.int most), .fr (.int (many + size)), .ow false false (.lst ((ths ++ [ol ++ irange many (many + size)]).map lotD)), .fr (.int (0 + k)), .fr (.int size), .fr (lotD ol)], (by simp [ft]), .inl (if_t (of_of (bin_of (r1 := .val (.int many)) (r2 := .val (.int most)) rfl rfl rfl rfl (by simp [cmpV, hlt]))) (seq_nx hset5 (seq_nx eo (seq_nx (drop_of (app_of (ds := ths.map lotD) (p := false) rfl (bin_of (r1 := .val (lotD ol)) rfl (rng2_of (cons_of (r := .val (.int many)) rfl (cons_of (bin_of (r1 := .val (.int many)) (r2 := .val (.int size)) rfl rfl rfl rfl rfl) rfl)) (by omega) (by omega)) rfl rfl happ) rfl rfl (by rw [List.length_map]; have := range_len (lo := 0) (hi := x2); omega))) (set_nx (bin_of (r1 := .val (.int many)) (r2 := .val (.int size)) rfl rfl rfl rfl rfl) ?_))))), gd, sd, many + size, ths ++ [ol ++ irange many (many + size)], _, _, _, rfl, rfl, rfl, rfl, by omega, by omega, by rw [List.length_append, List.length_singleton]; omega, fun l hl => ?_, fun i i0 i1 => ?_⟩
        · simp
        · rcases List.mem_append.mp hl with hl | hl
          · exact (tg l hl).mono (by omega)
          · rw [List.mem_singleton.mp hl]
            have gr := GL.range (lo := many) (hi := many + size) (by omega) (by omega) (by omega)
            refine ⟨fun z => gr.1 (List.append_eq_nil_iff.mp z).2, by rw [List.length_append, irange_len]; omega, fun i hi => ?_, ?_⟩
            · rcases List.mem_append.mp hi with hi | hi
              · have := ol2 i hi; omega
              · exact gr.2.2.1 i hi
            · rw [List.nodup_append]
              exact ⟨ol3, irange_nodup _ _, fun a ha b hb e => by
                have := (ol2 a ha).2
                have := (mem_ints.mp hb).1
                omega⟩
        · by_cases h : i < many
          · obtain ⟨l, hl, hi⟩ := tc i i0 h
            exact ⟨l, List.mem_append_left _ hl, hi⟩
          · exact ⟨_, List.mem_append_right _ (List.mem_singleton.mpr rfl), List.mem_append_right _ (mem_ints.mpr ⟨by omega, i1⟩)⟩
      · exact ⟨[.ow true false (boxD g s), .fr (.int most), .fr (.int many), .ow false false (.lst (ths.map lotD)), .fr (.int (0 + k)), sz, old], _, (by simp [ft]), .inl (if_f (of_of (bin_of (r1 := .val (.int many)) (r2 := .val (.int most)) rfl rfl rfl rfl (by simp [cmpV, hlt]))) rfl), g, s, many, ths, _, sz, old, rfl, rfl, fz, fo, m1, m2, by omega, tg, tc⟩)
    ⟨g2, s2, 1 + x1, [irange 0 (1 + x1)], .un, .un, .un, rfl, rfl, rfl, rfl, by omega, by omega, by simp, fun l hl => by
      rw [List.mem_singleton.mp hl]
      exact GL.range (by omega) (by omega) (by omega), fun i i0 i1 => ⟨_, List.mem_singleton.mpr rfl, mem_ints.mpr ⟨i0, i1⟩⟩⟩
  rw [range_len] at tl
  -- the lone hand
  have lone : ∃ (many' : Int) (ths' : List (List Int)), ifS (andT (ofV (bin2 (cmpV eqK) (varF 2) (valF (.int 1)))) (ofV (bin2 (cmpV (iiB fun i j => decide (j < i))) (varF 1) (valF (.int 1))))) (parS [3, 2] (consA (lstF (consA (tupF (consA (valF (.int 0)) (consA (valF (.int 1)) (nilA)))) (nilA))) (consA (valF (.int 2)) (nilA)))) (skipS) [.ow true false (boxD g3 s3), .fr (.int most), .fr (.int many), .ow false false (.lst (ths.map lotD)), t, sz, old] =
      some (.nx [.ow true false (boxD g3 s3), .fr (.int most), .fr (.int many'), .ow false false (.lst (ths'.map lotD)), t, sz, old]) ∧ 1 ≤ many' ∧ (many' ≤ most ∨ many' ≤ 3) ∧ ths'.length ≤ 4 ∧ (∀ l ∈ ths', GL many' l) ∧ Cov many' ths' := by
    by_cases hm : many = 1 ∧ 1 < most
    · refine ⟨2, [[0, 1]], if_t (ρ1 := [.ow true false (boxD g3 s3), .fr (.int most), .fr (.int many), .ow false false (.lst (ths.map lotD)), t, sz, old]) ?_ (by simp [lotD]), by omega, by omega, by simp, fun l hl => ?_, fun i i0 i1 => ⟨_, List.mem_singleton.mpr rfl, by simp; omega⟩⟩
      · obtain ⟨rfl, hm2⟩ := hm
        simp [hm2]
      · rw [List.mem_singleton.mp hl]
        exact ⟨by simp, by simp, fun i hi => by simp at hi; omega, by simp⟩
    · refine ⟨many, ths, if_f (ρ1 := [.ow true false (boxD g3 s3), .fr (.int most), .fr (.int many), .ow false false (.lst (ths.map lotD)), t, sz, old]) ?_ rfl, m1, m2, by omega, tg, tc⟩
      by_cases h : many = 1
      · have h' : ¬ 1 < most := fun z => hm ⟨h, z⟩
        simp [h, h']
      · simp [h]
  obtain ⟨many', ths', el, n1, n2, tl', tg', tc'⟩ := lone
  obtain ⟨z1, g4, s4, e4, z10, z11⟩ := take_at (p := true) (g := g3) (s := s3) (m := 5) (rest := [.fr (.int most), .fr (.int many'), .ow false false (.lst (ths'.map lotD)), t, sz, old]) (fa := valF (.int 5)) rfl (by omega) (by omega)
  have last : ∃ (g5 s5 : Int) (ths5 : List (List Int)), ifS (ofV (bin2 (cmpV eqK) (callE (some 0) f_law_take (consA (varF 0) (consA (valF (.int 5)) (nilA)))) (valF (.int 0)))) (dropS (appE 3 (tupF (consA (callE (some 0) f_law_take (consA (varF 0) (consA (varF 2) (nilA)))) (nilA))))) (skipS) [.ow true false (boxD g3 s3), .fr (.int most), .fr (.int many'), .ow false false (.lst (ths'.map lotD)), t, sz, old] =
      some (.nx [.ow true false (boxD g5 s5), .fr (.int most), .fr (.int many'), .ow false false (.lst (ths5.map lotD)), t, sz, old]) ∧ ths5.length ≤ 5 ∧ (∀ l ∈ ths5, GL many' l) ∧ Cov many' ths5 := by
    by_cases hz : z1 = 0
    · obtain ⟨z2, g5, s5, e5, z20, z21⟩ := take_at (p := true) (g := g4) (s := s4) (m := many') (rest := [.fr (.int most), .fr (.int many'), .ow false false (.lst (ths'.map lotD)), t, sz, old]) (fa := varF 2) rfl (by omega) (by omega)
      refine ⟨g5, s5, ths' ++ [[z2]], if_t (of_of (bin_of e4 rfl rfl rfl (by simp [cmpV, hz]))) ((drop_of (app_of (ds := ths'.map lotD) (p := false) rfl (tup_of (cons_of e5 rfl) rfl (by simp)) rfl rfl (by rw [List.length_map]; omega))).trans (by simp [lotD])), by rw [List.length_append, List.length_singleton]; omega, fun l hl => ?_, fun i i0 i1 => by
        obtain ⟨l, hl, hi⟩ := tc' i i0 i1
        exact ⟨l, List.mem_append_left _ hl, hi⟩⟩
      rcases List.mem_append.mp hl with hl | hl
      · exact tg' l hl
      · rw [List.mem_singleton.mp hl]
        exact GL.one z20 z21
    · exact ⟨g4, s4, ths', if_f (of_of (bin_of e4 rfl rfl rfl (by simp [cmpV, hz]))) rfl, by omega, tg', tc'⟩
  obtain ⟨g5, s5, ths5, e5, tl5, tg5, tc5⟩ := last
  obtain ⟨ls, g6, s6, e6, ok⟩ := named_ok g5 s5 many' ⟨by omega, by omega⟩ ths5 (fun l hl => tg5 l hl) tc5 (by omega) (.inl tl5)
  refine ⟨many', ls, g6, s6, fn_run (seq_nx (ρ1 := [.ow true false (boxD g1 s1), .fr (.int most), .fr (.int (1 + x1)), .ow false false (.lst []), .un, .un, .un]) (par_of (cons_of (bin_of (r1 := .val (.int 1)) rfl e1 rfl rfl rfl) (cons_of (r := .new (.lst [])) rfl rfl)) rfl)
    (seq_nx (drop_of (app_of (ds := []) (p := false) rfl (rng_of (tup := true) (cons_of (r := .val (.int (1 + x1))) rfl rfl) (by omega) (by omega)) rfl rfl (by simp)))
    (seq_nx (for_nx (rngI_of (j := x2) (cons_of ?_ rfl) (by omega) (by omega)) e3 rfl) (seq_nx el (seq_nx e5 (ret_rt (call_of (cons_of (r := .slot 0) rfl (cons_of (r := .val (.int many')) rfl (cons_of (r := .slot 3) rfl rfl))) rfl e6 ?_ rfl))))))) rfl, ok, n2⟩
  · rw [range_ints]
    exact e2
  · simp
end Mi

/-! Rings, any webs, drawn lots. -/
namespace Mi
open PySem PySem.Spec
open PyProof.Rows hiding St
open L2

theorem insU_len {x : Int} : ∀ {l : List Int}, (insU x l).length ≤ l.length + 1
  | [] => by simp [insU]
  | y :: ys => by
    unfold insU
    split
    · simp
    · split
      · simp
      · have := insU_len (x := x) (l := ys)
        simp only [List.length_cons]
        omega
theorem uniqI_len : ∀ {l : List Int}, (uniqI l).length ≤ l.length
  | [] => by simp [uniqI]
  | x :: l => by
    show (insU x (uniqI l)).length ≤ _
    have h1 := insU_len (x := x) (l := uniqI l)
    have h2 := uniqI_len (l := l)
    rw [List.length_cons]
    omega
theorem named_call {p : Bool} {g s many : Int} {ths : List (List Int)} {rest : En} {fm ft : SE} (hm : 0 < many ∧ many ≤ 60) (ht : ∀ l ∈ ths, GL many l) (hc : Cov many ths) (hz : ths.length ≤ 60) (hw : Wee many ths.length) {j : Nat} {pj lj : Bool}
    (hfm : ∀ g s, fm (.ow p false (boxD g s) :: rest) = some (.val (.int many), .ow p false (boxD g s) :: rest)) (hft : ∀ g s, ft (.ow p false (boxD g s) :: rest) = some (.slot (j + 1), .ow p false (boxD g s) :: rest)) (hj : rest[j]? = some (.ow pj lj (.lst (ths.map lotD)))) :
    ∃ ls g' s', callE (some 0) f_law_named (consA (varF 0) (consA fm (consA ft nilA))) (.ow p false (boxD g s) :: rest) = some (.val (webD many ls), .ow p false (boxD g' s') :: rest) ∧ WebOk many ls := by
  obtain ⟨ls, g', s', e, ok⟩ := named_ok g s many hm ths ht hc hz hw
  have hr : resAll (.ow p false (boxD g s) :: rest) [.slot 0, .val (.int many), .slot (j + 1)] = some [boxD g s, .int many, .lst (ths.map lotD)] := by
    simp [resAll, res, hj]
  exact ⟨ls, g', s', call_of (cons_of (r := .slot 0) rfl (cons_of (hfm g s) (cons_of (hft g s) rfl))) hr e (by simp) (by simp [setIo, noAlias]), ok⟩
theorem ring_ok (g s most : Int) (h1 : 2 ≤ most) (h2 : most ≤ 20) : ∃ m ls g' s', f_law_ring [boxD g s, .int most] = some (false, webD m ls, boxD g' s') ∧ WebOk m ls ∧ m ≤ most := by
  obtain ⟨x, g1, s1, e1, x0, x1⟩ := take_at (p := true) (g := g) (s := s) (m := most - 1) (rest := [.fr (.int most), .un, .un, .un]) (fa := bin2 (iiD subI) (varF 1) (valF (.int 1))) (by simp) (by omega) (by omega)
  have hmany : 2 ≤ 2 + x ∧ 2 + x ≤ most := by omega
  generalize hM : 2 + x = many at hmany
  let E0 : En := [.ow true false (boxD g1 s1), .fr (.int most), .fr (.int many), .un, .un]
  have things : ∃ ths : List (List Int), setS 3 (iteV (ofV (bin2 (cmpV eqK) (varF 2) (valF (.int 2)))) (lstF (consA (tupF (consA (valF (.int 0)) (consA (valF (.int 1)) (nilA)))) (consA (tupF (consA (valF (.int 0)) (consA (valF (.int 1)) (nilA)))) (nilA)))) (compE [4] (rng1I (consA (varF 2) (nilA))) (nameT 4) (yesT) (bltE tupK (consA (bltE sortK (consA (lstF (consA (varF 4) (consA (bin2 (iiD modI) (bltE intK (consA (bin2 addD (varF 4) (valF (.int 1))) (nilA))) (varF 2)) (nilA)))) (nilA))) (nilA))))) E0 =
      some (.nx [.ow true false (boxD g1 s1), .fr (.int most), .fr (.int many), .ow false false (.lst (ths.map lotD)), .un]) ∧ (ths.length : Int) ≤ many ∧ ths ≠ [] ∧ (∀ l ∈ ths, GL many l ∧ l.length ≤ 2) ∧ Cov many ths := by
    by_cases hm : many = 2
    · refine ⟨[[0, 1], [0, 1]], by simp [E0, hm, lotD], by rw [hm]; simp, by simp, fun l hl => ?_, fun i i0 i1 => ⟨[0, 1], by simp, by simp; omega⟩⟩
      simp at hl
      subst hl
      exact ⟨⟨by simp, by simp, fun i hi => by simp at hi; omega, by simp⟩, by simp⟩
    · let sl : Int → List Int := fun i => lotOf (.tup (sortL ([i, (i + 1) % many].map .int)))
      have hsl : ∀ i, (sl i).Perm [i, (i + 1) % many] ∧ sortL ([i, (i + 1) % many].map .int) = (sl i).map .int := fun i => by
        obtain ⟨l', q1, q2⟩ := sort_ints [i, (i + 1) % many]
        have : sl i = l' := by
          show lotOf (.tup (sortL ([i, (i + 1) % many].map .int))) = l'
          rw [q2]
          exact lotOf_lot l'
        rw [this]
        exact ⟨q1, q2⟩
      have comp : compE [4] (rng1I (consA (varF 2) (nilA))) (nameT 4) (yesT) (bltE tupK (consA (bltE sortK (consA (lstF (consA (varF 4) (consA (bin2 (iiD modI) (bltE intK (consA (bin2 addD (varF 4) (valF (.int 1))) (nilA))) (varF 2)) (nilA)))) (nilA))) (nilA))) E0 = some (.new (.lst (((irange 0 many).map sl).map lotD)), E0) := by
        rw [compE_map (rs := []) (xs := irange 0 many) (ρ1 := E0) .int (fun i => lotD (sl i)) (by rw [rngI_of (j := many) (cons_of (r := .val (.int many)) rfl rfl) (by omega) (by omega), range_ints]) rfl (by rw [irange_len]; omega) (fun i hi => by
          obtain ⟨q1, q2⟩ := hsl i
          have hsort : sortK [.lst [.int i, .int ((i + 1) % many)]] = some (.new (.lst ((sl i).map .int))) := by
            have hb := sortB_ints [i, (i + 1) % many] (by simp)
            unfold sortK
            simp only [List.map_cons, List.map_nil] at hb q2
            simp only [D.seqL, hb, if_true, q2]
          refine ⟨[.ow true false (boxD g1 s1), .fr (.int most), .fr (.int many), .un, .fr (.int i)], .val (.tup ((sl i).map .int)), [.ow true false (boxD g1 s1), .fr (.int most), .fr (.int many), .un, .fr (.int i)], by simp [wipeE, E0], blt_of (cons_of (blt_of (cons_of (r := .new (.lst [.int i, .int ((i + 1) % many)])) ?_ rfl) rfl hsort) rfl) rfl rfl, rfl, rfl⟩
          simp [show 0 < many by omega])]
        rw [List.map_map]
        rfl
      refine ⟨(irange 0 many).map sl, set_nx (ite_f (of_of (bin_of (r1 := .val (.int many)) (r2 := .val (.int 2)) (o := .val (.bl false)) rfl rfl rfl rfl (by simp [cmpV, hm]))) comp) rfl, by rw [List.length_map, irange_len]; omega, fun z => ?_, fun l hl => ?_, fun i i0 i1 => ⟨sl i, List.mem_map.mpr ⟨i, mem_ints.mpr ⟨i0, i1⟩, rfl⟩, (hsl i).1.mem_iff.mpr (by simp)⟩⟩
      · have := congrArg List.length z
        rw [List.length_map, irange_len] at this
        simp at this
        omega
      · obtain ⟨i, hi, rfl⟩ := List.mem_map.mp hl
        obtain ⟨q1, _⟩ := hsl i
        have hl := q1.length_eq
        have hi' := mem_ints.mp hi
        refine ⟨⟨fun z => ?_, by rw [hl]; simp, fun j hj => ?_, q1.nodup_iff.mpr ?_⟩, by rw [hl]; simp⟩
        · rw [z] at hl; simp at hl
        · have := q1.mem_iff.mp hj
          simp at this
          rcases this with rfl | rfl
          · exact hi'
          · exact ⟨Int.emod_nonneg _ (by omega), Int.emod_lt_of_pos _ (by omega)⟩
        · have hne : i ≠ (i + 1) % many := by
            by_cases h : i + 1 < many
            · rw [Int.emod_eq_of_lt (by omega) h]; omega
            · rw [show i + 1 = many by omega, Int.emod_self]; omega
          simp [hne]
  obtain ⟨ths, e3, tl, tn, tg, tc⟩ := things
  obtain ⟨l0, lt, rfl⟩ : ∃ l0 lt, ths = l0 :: lt := by
    cases ths with
    | nil => exact absurd rfl tn
    | cons a b => exact ⟨a, b, rfl⟩
  let E1 : Int → Int → List (List Int) → En := fun g s ths => [.ow true false (boxD g s), .fr (.int most), .fr (.int many), .ow false false (.lst (ths.map lotD)), .un]
  have more : ∃ (g2 s2 : Int) (ths2 : List (List Int)), ifS (andT (ofV (bin2 (cmpV (iiB fun i j => decide (j < i))) (varF 2) (valF (.int 3)))) (ofV (bin2 (cmpV eqK) (callE (some 0) f_law_take (consA (varF 0) (consA (valF (.int 3)) (nilA)))) (valF (.int 0))))) (itemS 3 (valF (.int 0)) (bltE tupK (consA (sortSetE (bin2 addD (bin2 ixD (varF 3) (valF (.int 0))) (tupF (consA (callE (some 0) f_law_take (consA (varF 0) (consA (varF 2) (nilA)))) (nilA))))) (nilA)))) (skipS) (E1 g1 s1 (l0 :: lt)) =
      some (.nx (E1 g2 s2 ths2)) ∧ (ths2.length : Int) ≤ many ∧ (∀ l ∈ ths2, GL many l) ∧ Cov many ths2 := by
    by_cases hm : 3 < many
    · obtain ⟨z, ga, sa, ea, z0, z1⟩ := take_at (p := true) (g := g1) (s := s1) (m := 3) (rest := [.fr (.int most), .fr (.int many), .ow false false (.lst ((l0 :: lt).map lotD)), .un]) (fa := valF (.int 3)) rfl (by omega) (by omega)
      have c1 : ofV (bin2 (cmpV (iiB fun i j => decide (j < i))) (varF 2) (valF (.int 3))) (E1 g1 s1 (l0 :: lt)) = some (true, E1 g1 s1 (l0 :: lt)) := of_of (bin_of (r1 := .val (.int many)) (r2 := .val (.int 3)) rfl rfl rfl rfl (by simp [cmpV, hm]))
      by_cases hz : z = 0
      · obtain ⟨y, gb, sb, eb, y0, y1⟩ := take_at (p := true) (g := ga) (s := sa) (m := many) (rest := [.fr (.int most), .fr (.int many), .ow false false (.lst ((l0 :: lt).map lotD)), .un]) (fa := varF 2) rfl (by omega) (by omega)
        obtain ⟨gl, gll⟩ := tg l0 List.mem_cons_self
        have hadd : addD (lotD l0) (.tup [.int y]) = some (.val (.tup ((l0 ++ [y]).map .int))) := by
          simp only [lotD, addD, List.length_map, List.length_singleton]
          rw [if_pos (by omega), List.map_append]
          rfl
        refine ⟨gb, sb, uniqI (l0 ++ [y]) :: lt, if_t (and_t c1 (of_of (bin_of ea rfl rfl rfl (by simp [cmpV, hz])))) ((item_of (p := false) (ds := (l0 :: lt).map lotD) (j := 0) (blt_of (cons_of (sset_of (ns := l0 ++ [y]) (bin_of (r1 := .val (lotD l0)) (bin_of (r1 := .slot 3) (r2 := .val (.int 0)) (a := .lst ((l0 :: lt).map lotD)) rfl rfl rfl rfl (by simp [ixD])) (tup_of (cons_of eb rfl) rfl (by simp)) rfl rfl hadd) rfl (by rw [List.length_append, List.length_singleton]; omega)) rfl) rfl rfl) rfl rfl rfl rfl rfl (by rw [List.length_map, List.length_cons]; exact ixN_0)).trans rfl), by simpa using tl, fun l hl => ?_, fun i i0 i1 => by
          obtain ⟨l, hl, hi⟩ := tc i i0 i1
          rcases List.mem_cons.mp hl with rfl | hl
          · exact ⟨_, List.mem_cons_self, mem_uniqI.mpr (List.mem_append_left _ hi)⟩
          · exact ⟨l, List.mem_cons_of_mem _ hl, hi⟩⟩
        rcases List.mem_cons.mp hl with rfl | hl
        · refine ⟨fun z => ?_, ?_, fun i hi => ?_, uniqI_lt.imp (fun q => by omega)⟩
          · have : y ∈ uniqI (l0 ++ [y]) := mem_uniqI.mpr (by simp)
            rw [z] at this
            cases this
          · have := uniqI_len (l := l0 ++ [y])
            rw [List.length_append, List.length_singleton] at this
            omega
          · rcases List.mem_append.mp (mem_uniqI.mp hi) with hi | hi
            · exact gl.2.2.1 i hi
            · rw [List.mem_singleton.mp hi]
              exact ⟨y0, y1⟩
        · exact (tg l (List.mem_cons_of_mem _ hl)).1
      · exact ⟨ga, sa, l0 :: lt, if_f (and_t c1 (of_of (bin_of ea rfl rfl rfl (by simp [cmpV, hz])))) rfl, tl, fun l hl => (tg l hl).1, tc⟩
    · exact ⟨g1, s1, l0 :: lt, if_f (and_f (of_of (bin_of (r1 := .val (.int many)) (r2 := .val (.int 3)) rfl rfl rfl rfl (by simp [cmpV, hm])))) rfl, tl, fun l hl => (tg l hl).1, tc⟩
  obtain ⟨g2, s2, ths2, e4, tl2, tg2, tc2⟩ := more
  obtain ⟨ls, g3, s3, e5, ok⟩ := named_call (p := true) (g := g2) (s := s2) (rest := [.fr (.int most), .fr (.int many), .ow false false (.lst (ths2.map lotD)), .un]) (fm := varF 2) (ft := varF 3) (j := 2) ⟨by omega, by omega⟩ tg2 tc2 (by omega) (.inr ⟨by omega, fun _ => by omega⟩) (fun _ _ => rfl) (fun _ _ => rfl) rfl
  refine ⟨many, ls, g3, s3, fn_run (seq_nx (ρ1 := E0) (set_nx (bin_of (r1 := .val (.int 2)) rfl e1 rfl rfl rfl) (by simp [E0, hM])) (seq_nx e3 (seq_nx e4 (ret_rt e5)))) rfl, ok, hmany.2⟩
end Mi

/-! Drawn lots, any webs, webs. -/
namespace Mi
open PySem PySem.Spec
open PyProof.Rows hiding St
open L2

theorem sub_map {α β : Type} {f : α → β} : ∀ {xs : List α} {sub : List β}, sub.Sublist (xs.map f) → ∃ ys : List α, sub = ys.map f ∧ ys.Sublist xs
  | [], sub, h => by
    rw [List.map_nil, List.sublist_nil] at h
    exact ⟨[], by rw [h]; rfl, .slnil⟩
  | x :: xs, sub, h => by
    rw [List.map_cons] at h
    cases h with
    | cons _ h =>
      obtain ⟨ys, e, s⟩ := sub_map h
      exact ⟨ys, e, .cons _ s⟩
    | cons_cons _ h =>
      obtain ⟨ys, e, s⟩ := sub_map h
      exact ⟨x :: ys, by rw [e]; rfl, .cons_cons _ s⟩
/-- [hand for hand in range(m) if a coin falls] -/
theorem drawn_at {p : Bool} {g s m : Int} {rest : En} {j : Nat} {s0 : Slot} (hj : rest[j]? = some s0) (h0 : ∀ p l d, s0 ≠ .ow p l d) {fm : SE} (hfm : fm (.ow p false (boxD g s) :: rest) = some (.val (.int m), .ow p false (boxD g s) :: rest)) (hm : 0 ≤ m ∧ m ≤ 60) :
    ∃ (l : List Int) (g' s' : Int), compE [j + 1] (rng1I (consA fm nilA)) (nameT (j + 1)) (ofV (bin2 (cmpV eqK) (callE (some 0) f_law_take (consA (varF 0) (consA (valF (.int 2)) (nilA)))) (valF (.int 0)))) (varF (j + 1)) (.ow p false (boxD g s) :: rest) = some (.new (.lst (l.map .int)), .ow p false (boxD g' s') :: rest) ∧ l.Sublist (irange 0 m) := by
  have hlt : j < rest.length := (List.getElem?_eq_some_iff.mp hj).1
  have hpl : plainAt (.ow p false (boxD g s) :: rest) [j + 1] = true := plainAt_by fun i hi p l d e => by
    rw [List.mem_singleton.mp hi, List.getElem?_cons_succ, hj] at e
    exact h0 p l d (by cases e; rfl)
  obtain ⟨sub, ρ', hs, e, g', s', rfl⟩ := loopC_sub (own := [j + 1]) (T := nameT (j + 1)) (t := ofV (bin2 (cmpV eqK) (callE (some 0) f_law_take (consA (varF 0) (consA (valF (.int 2)) (nilA)))) (valF (.int 0)))) (fe := varF (j + 1))
    (fun ρ => ∃ g s, ρ = .ow p false (boxD g s) :: rest.set j .un) id (rangeD 0 m) [] (.ow p false (boxD g s) :: rest.set j .un) (by rw [range_len]; simp; omega) ⟨g, s, rfl⟩ (fun d hd ρ ⟨g, s, hρ⟩ => by
      subst hρ
      obtain ⟨i, rfl, i0, i1⟩ := range_mem hd
      obtain ⟨x, ga, sa, ea, x0, x1⟩ := take_at (p := p) (g := g) (s := s) (m := 2) (rest := rest.set j (.fr (.int i))) (fa := valF (.int 2)) rfl (by omega) (by omega)
      have hw : ∀ b : Slot, wipeE [j + 1] (b :: rest.set j (.fr (.int i))) = b :: rest.set j .un := fun b => by
        simp [wipeE]
      refine ⟨.ow p false (boxD g s) :: rest.set j (.fr (.int i)), decide (x = 0), .ow p false (boxD ga sa) :: rest.set j (.fr (.int i)), ?_, of_of (bin_of ea rfl rfl rfl (by simp [cmpV])), fun _ => ⟨ga, sa, hw _⟩, fun _ => ⟨.val (.int i), .ow p false (boxD ga sa) :: rest.set j (.fr (.int i)), ?_, rfl, ga, sa, hw _⟩⟩
      · simp [nameT, asgn, hlt]
      · simp [varF, hlt])
  rw [range_ints] at hs
  obtain ⟨l, rfl, hl⟩ := sub_map hs
  refine ⟨l, g', s', ?_, hl⟩
  rw [compE_of (rs := []) (ds := rangeD 0 m) (ρ1 := .ow p false (boxD g s) :: rest) (rngI_of (cons_of hfm rfl) hm.1 (by omega)) (by simp [wipeE]) e hpl]
  have hg : rest[j] = s0 := by
    have := List.getElem?_eq_getElem hlt
    rw [hj] at this
    cases this; rfl
  simp [toLock, restoreE, hj]
  rw [← hg]
  exact List.set_getElem_self hlt
theorem sub_lot {m : Int} {l : List Int} (h : l.Sublist (irange 0 m)) (hm : m ≤ 60) : l.length ≤ 60 ∧ ∀ i ∈ l, 0 ≤ i ∧ i < m := by
  have h1 := h.length_le
  rw [irange_len] at h1
  exact ⟨by omega, fun i hi => mem_ints.mp (h.subset hi)⟩
theorem drawn_ok (g s many : Int) (h : 0 ≤ many ∧ many ≤ 60) : ∃ (l : List Int) (g' s' : Int), f_law_drawn_lot [boxD g s, .int many] = some (false, lotD l, boxD g' s') ∧ l.Sublist (irange 0 many) := by
  obtain ⟨l, g', s', e, hl⟩ := drawn_at (p := true) (g := g) (s := s) (m := many) (rest := [.fr (.int many), .un]) (j := 1) (fm := varF 1) rfl (by simp) rfl h
  exact ⟨l, g', s', fn_run (ret_rt (blt_of (cons_of e rfl) rfl rfl)) rfl, hl⟩
theorem any_web_ok (g s most : Int) (h1 : 1 ≤ most) (h2 : most ≤ 20) : ∃ m ls g' s', f_law_any_web [boxD g s, .int most] = some (false, webD m ls, boxD g' s') ∧ WebOk m ls ∧ m ≤ most := by
  obtain ⟨x, g1, s1, e1, x0, x1⟩ := take_at (p := true) (g := g) (s := s) (m := most) (rest := [.fr (.int most), .un, .un, .un, .un, .un]) (fa := varF 1) rfl (by omega) (by omega)
  have hmany : 1 ≤ 1 + x ∧ 1 + x ≤ most := by omega
  generalize hM : 1 + x = many at hmany
  let E : Int → Int → Slot → En := fun g s th => [.ow true false (boxD g s), .fr (.int most), .fr (.int many), th, .un, .un, .un]
  -- how many lots
  have turns : ∃ (n g2 s2 : Int), bin2 addD (valF (.int 1)) (callE (some 0) f_law_take (consA (varF 0) (consA (iteV (ofV (bin2 (cmpV ltD) (varF 2) (valF (.int 6)))) (valF (.int 4)) (valF (.int 3))) (nilA)))) (E g1 s1 .un) = some (.val (.int n), E g2 s2 .un) ∧ 1 ≤ n ∧ n ≤ 4 ∧ (6 ≤ many → n ≤ 3) := by
    by_cases h6 : many < 6
    · obtain ⟨y, ga, sa, ea, y0, y1⟩ := take_at (p := true) (g := g1) (s := s1) (m := 4) (rest := [.fr (.int most), .fr (.int many), .un, .un, .un, .un]) (fa := iteV (ofV (bin2 (cmpV ltD) (varF 2) (valF (.int 6)))) (valF (.int 4)) (valF (.int 3))) (by simp [h6]) (by omega) (by omega)
      exact ⟨1 + y, ga, sa, bin_of (r1 := .val (.int 1)) rfl ea rfl rfl rfl, by omega, by omega, by omega⟩
    · obtain ⟨y, ga, sa, ea, y0, y1⟩ := take_at (p := true) (g := g1) (s := s1) (m := 3) (rest := [.fr (.int most), .fr (.int many), .un, .un, .un, .un]) (fa := iteV (ofV (bin2 (cmpV ltD) (varF 2) (valF (.int 6)))) (valF (.int 4)) (valF (.int 3))) (by simp [h6]) (by omega) (by omega)
      exact ⟨1 + y, ga, sa, bin_of (r1 := .val (.int 1)) rfl ea rfl rfl rfl, by omega, by omega, by omega⟩
  obtain ⟨n, g2, s2, e2, n0, n1, n6⟩ := turns
  -- the lots
  obtain ⟨acc, ρ', e3, ⟨g3, s3, rfl⟩, hacc, hlen⟩ := loopC_inv (own := [4]) (T := nameT 4) (t := yesT) (fe := bltE tupK (consA (compE [6] (rng1I (consA (varF 2) (nilA))) (nameT 6) (ofV (bin2 (cmpV eqK) (callE (some 0) f_law_take (consA (varF 0) (consA (valF (.int 2)) (nilA)))) (valF (.int 0)))) (varF 6)) (nilA)))
    (fun ρ => ∃ g s, ρ = E g s .un) (fun d => ∃ l : List Int, d = lotD l ∧ l.Sublist (irange 0 many)) (rangeD 0 n) [] (E g2 s2 .un) (by rw [range_len]; simp; omega) ⟨g2, s2, rfl⟩ (by simp) (fun d hd ρ ⟨g, s, hρ⟩ => by
      subst hρ
      obtain ⟨i, rfl, i0, i1⟩ := range_mem hd
      obtain ⟨l, ga, sa, ea, hl⟩ := drawn_at (p := true) (g := g) (s := s) (m := many) (rest := [.fr (.int most), .fr (.int many), .un, .fr (.int i), .un, .un]) (j := 5) (fm := varF 2) rfl (by simp) rfl (by omega)
      exact ⟨[.ow true false (boxD g s), .fr (.int most), .fr (.int many), .un, .fr (.int i), .un, .un], true, [.ow true false (boxD g s), .fr (.int most), .fr (.int many), .un, .fr (.int i), .un, .un], by simp [E], rfl, (fun z => by cases z), fun _ => ⟨.val (lotD l), _, lotD l, blt_of (cons_of ea rfl) rfl rfl, rfl, ⟨l, rfl, hl⟩, ga, sa, rfl⟩⟩)
  obtain ⟨ths, rfl, hths⟩ : ∃ ths : List (List Int), acc = ths.map lotD ∧ ∀ l ∈ ths, l.Sublist (irange 0 many) := by
    refine ⟨acc.map lotOf, ?_, fun l hl => ?_⟩
    · rw [List.map_map]
      refine (List.map_id _).symm.trans (List.map_congr_left fun d hd => ?_)
      obtain ⟨l, rfl, _⟩ := hacc d hd
      show _ = lotD (lotOf (lotD l))
      rw [lotOf_lot]; rfl
    · obtain ⟨d, hd, rfl⟩ := List.mem_map.mp hl
      obtain ⟨l, rfl, h⟩ := hacc d hd
      rw [lotOf_lot]
      exact h
  rw [List.length_map, range_len] at hlen
  simp only [List.length_nil, Nat.zero_add] at hlen
  have c3 : compE [4] (rng1I (consA (bin2 addD (valF (.int 1)) (callE (some 0) f_law_take (consA (varF 0) (consA (iteV (ofV (bin2 (cmpV ltD) (varF 2) (valF (.int 6)))) (valF (.int 4)) (valF (.int 3))) (nilA))))) (nilA))) (nameT 4) (yesT) (bltE tupK (consA (compE [6] (rng1I (consA (varF 2) (nilA))) (nameT 6) (ofV (bin2 (cmpV eqK) (callE (some 0) f_law_take (consA (varF 0) (consA (valF (.int 2)) (nilA)))) (valF (.int 0)))) (varF 6)) (nilA))) (E g1 s1 .un) =
      some (.new (.lst (ths.map lotD)), E g3 s3 .un) := compE_of (own := [4]) (ρ1 := E g2 s2 .un) (rs := []) (rngI_of (cons_of e2 rfl) (by omega) (by omega)) rfl e3
  -- without the empty ones
  have c4 : compE [5] (seqI (varF 3)) (nameT 5) (ofV (bin2 (cmpV neK) (varF 5) (tupF (nilA)))) (varF 5) (E g3 s3 (.ow false false (.lst (ths.map lotD)))) = some (.new (.lst ((ths.filter fun l => !l.isEmpty).map lotD)), E g3 s3 (.ow false false (.lst (ths.map lotD)))) :=
    compE_filter (own := [5]) (rs := [.slot 3]) (xs := ths) (ρ1 := E g3 s3 (.ow false false (.lst (ths.map lotD)))) (ρb := E g3 s3 (.ow false true (.lst (ths.map lotD)))) lotD lotD (fun l => !l.isEmpty) (by simp [E]) (by simp [E, wipeE]) (by omega) (fun l hl => by
      have hne : neK (lotD l) (.tup []) = some (!l.isEmpty) := by
        have : eqD (lotD l) (.tup []) = l.isEmpty := by
          unfold lotD
          rw [eqD_tupN]
          cases l <;> rfl
        simp [neK, this]
      refine ⟨[.ow true false (boxD g3 s3), .fr (.int most), .fr (.int many), .ow false true (.lst (ths.map lotD)), .un, .fr (lotD l), .un], _, by simp [E], of_of (bin_of (r1 := .val (lotD l)) (r2 := .val (.tup [])) rfl rfl rfl rfl (by simp [cmpV, hne])), fun _ => rfl, fun _ => ⟨.val (lotD l), _, rfl, rfl, rfl⟩⟩)
  generalize hths2 : (ths.filter fun l => !l.isEmpty) = ths2 at c4
  have g2' : ∀ l ∈ ths2, GL many l := fun l hl => by
    rw [← hths2, List.mem_filter] at hl
    obtain ⟨q1, q2⟩ := sub_lot (hths l hl.1) (by omega)
    exact ⟨fun z => by rw [z] at hl; simp at hl, q1, q2, (hths l hl.1).nodup (irange_nodup _ _)⟩
  have l2n : (ths2.length : Int) ≤ n := by
    have : ths2.length ≤ ths.length := by rw [← hths2]; exact List.length_filter_le _ _
    omega
  have l2 : ths2.length ≤ 4 := by omega
  -- the lone hands
  let lone : Int → Bool := fun h => ((ths2.filter fun l => decide (h ∈ l)).map fun _ => D.int 1).isEmpty
  have c5 : compE [6] (rng1I (consA (varF 2) (nilA))) (nameT 6) (ofV (bin2 (cmpV eqK) (compE [5] (seqI (varF 3)) (nameT 5) (ofV (bin2 (cmpV inD) (varF 6) (varF 5))) (valF (.int 1))) (lstF (nilA)))) (tupF (consA (varF 6) (nilA))) (E g3 s3 (.ow false false (.lst (ths2.map lotD)))) =
      some (.new (.lst (((irange 0 many).filter lone).map fun h => lotD [h])), E g3 s3 (.ow false false (.lst (ths2.map lotD)))) :=
    compE_filter (own := [6]) (rs := []) (xs := irange 0 many) (ρ1 := E g3 s3 (.ow false false (.lst (ths2.map lotD)))) (ρb := E g3 s3 (.ow false false (.lst (ths2.map lotD)))) .int (fun h => lotD [h]) lone (by rw [rngI_of (j := many) (cons_of (r := .val (.int many)) rfl rfl) (by omega) (by omega), range_ints]) rfl (by rw [irange_len]; omega) (fun h hh => by
      have inner : compE [5] (seqI (varF 3)) (nameT 5) (ofV (bin2 (cmpV inD) (varF 6) (varF 5))) (valF (.int 1)) [.ow true false (boxD g3 s3), .fr (.int most), .fr (.int many), .ow false false (.lst (ths2.map lotD)), .un, .un, .fr (.int h)] =
          some (.new (.lst ((ths2.filter fun l => decide (h ∈ l)).map fun _ => .int 1)), [.ow true false (boxD g3 s3), .fr (.int most), .fr (.int many), .ow false false (.lst (ths2.map lotD)), .un, .un, .fr (.int h)]) :=
        compE_filter (own := [5]) (rs := [.slot 3]) (xs := ths2) (ρ1 := [.ow true false (boxD g3 s3), .fr (.int most), .fr (.int many), .ow false false (.lst (ths2.map lotD)), .un, .un, .fr (.int h)]) (ρb := [.ow true false (boxD g3 s3), .fr (.int most), .fr (.int many), .ow false true (.lst (ths2.map lotD)), .un, .un, .fr (.int h)]) lotD (fun _ => .int 1) (fun l => decide (h ∈ l)) (by simp) (by simp [wipeE]) (by omega) (fun l hl =>
          ⟨[.ow true false (boxD g3 s3), .fr (.int most), .fr (.int many), .ow false true (.lst (ths2.map lotD)), .un, .fr (lotD l), .fr (.int h)], _, by simp, of_of (bin_of (r1 := .val (.int h)) (r2 := .val (lotD l)) rfl rfl rfl rfl (by simp [cmpV])), fun _ => rfl, fun _ => ⟨.val (.int 1), _, rfl, rfl, rfl⟩⟩)
      have ok1 : (D.lst ((ths2.filter fun l => decide (h ∈ l)).map fun _ => D.int 1)).okE = true := (Gd.lst (n := 0) fun d hd => by
        obtain ⟨_, _, rfl⟩ := List.mem_map.mp hd
        exact .int 1).okE
      refine ⟨[.ow true false (boxD g3 s3), .fr (.int most), .fr (.int many), .ow false false (.lst (ths2.map lotD)), .un, .un, .fr (.int h)], _, by simp [E], of_of (bin_of inner (r2 := .new (.lst [])) rfl rfl rfl (by simp [cmpV, eqK, ok1, lone])), fun _ => rfl, fun _ => ⟨.val (lotD [h]), _, rfl, rfl, rfl⟩⟩)
  have lsmall : ((irange 0 many).filter lone).length ≤ 20 := Nat.le_trans (List.length_filter_le _ _) (by rw [irange_len]; omega)
  let ths3 := ths2 ++ ((irange 0 many).filter lone).map fun h => [h]
  have c6 : bin2 addD (varF 3) (compE [6] (rng1I (consA (varF 2) (nilA))) (nameT 6) (ofV (bin2 (cmpV eqK) (compE [5] (seqI (varF 3)) (nameT 5) (ofV (bin2 (cmpV inD) (varF 6) (varF 5))) (valF (.int 1))) (lstF (nilA)))) (tupF (consA (varF 6) (nilA)))) (E g3 s3 (.ow false false (.lst (ths2.map lotD)))) = some (.new (.lst (ths3.map lotD)), E g3 s3 (.ow false false (.lst (ths2.map lotD)))) :=
    bin_of (r1 := .slot 3) rfl c5 rfl rfl (by
      simp only [addD, List.length_map]
      rw [if_pos (by omega)]
      simp [ths3])
  have g3' : ∀ l ∈ ths3, GL many l := fun l hl => by
    rcases List.mem_append.mp hl with hl | hl
    · exact g2' l hl
    · obtain ⟨h, hh, rfl⟩ := List.mem_map.mp hl
      have := mem_ints.mp (List.mem_filter.mp hh).1
      exact GL.one this.1 this.2
  have c3' : Cov many ths3 := fun i i0 i1 => by
    by_cases h : lone i = true
    · exact ⟨[i], List.mem_append_right _ (List.mem_map.mpr ⟨i, List.mem_filter.mpr ⟨mem_ints.mpr ⟨i0, i1⟩, h⟩, rfl⟩), by simp⟩
    · have h : ((ths2.filter fun l => decide (i ∈ l)).map fun _ => D.int 1).isEmpty = false := by simpa [lone] using h
      rw [List.isEmpty_map] at h
      obtain ⟨l, hl⟩ := List.exists_mem_of_ne_nil (ths2.filter fun l => decide (i ∈ l)) (fun z => by rw [z] at h; cases h)
      rw [List.mem_filter] at hl
      exact ⟨l, List.mem_append_left _ hl.1, by simpa using hl.2⟩
  have l3 : ths3.length ≤ 24 := by
    simp only [ths3, List.length_append, List.length_map]
    omega
  have lw : Wee many ths3.length := by
    have hle : ((irange 0 many).filter lone).length ≤ (irange 0 many).length := List.length_filter_le _ _
    have hil : ((irange 0 many).length : Int) = many := by rw [irange_len]; omega
    have e3 : ths3.length = ths2.length + ((irange 0 many).filter lone).length := by simp [ths3]
    cases hc : ths2 with
    | nil =>
      rw [hc] at e3
      simp only [List.length_nil, Nat.zero_add] at e3
      exact .inr ⟨by omega, fun _ => by omega⟩
    | cons l0 lt =>
      have hl0 : l0 ∈ ths2 := by rw [hc]; exact List.mem_cons_self
      obtain ⟨q1, _, q3, _⟩ := g2' l0 hl0
      obtain ⟨i, hi⟩ := List.exists_mem_of_ne_nil l0 q1
      have nl : lone i = false := by
        have : (ths2.filter fun l => decide (i ∈ l)) ≠ [] := fun z => by
          have : l0 ∈ ths2.filter fun l => decide (i ∈ l) := List.mem_filter.mpr ⟨hl0, by simpa using hi⟩
          rw [z] at this
          cases this
        show ((ths2.filter fun l => decide (i ∈ l)).map fun _ => D.int 1).isEmpty = false
        rw [List.isEmpty_map]
        cases q : ths2.filter fun l => decide (i ∈ l) with
        | nil => exact absurd q this
        | cons a b => rfl
      have hlt : ((irange 0 many).filter lone).length < (irange 0 many).length := by
        rw [List.length_filter_lt_length_iff_exists]
        exact ⟨i, mem_ints.mpr (q3 i hi), by rw [nl]; decide⟩
      exact .inr ⟨by omega, fun h => by have := n6 h; omega⟩
  obtain ⟨ls, g4, s4, e4, ok⟩ := named_call (p := true) (g := g3) (s := s3) (many := many) (ths := ths3) (rest := [.fr (.int most), .fr (.int many), .ow false false (.lst (ths3.map lotD)), .un, .un, .un]) (fm := varF 2) (ft := varF 3) (j := 2) ⟨by omega, by omega⟩ g3' c3' (by omega) lw (fun _ _ => rfl) (fun _ _ => rfl) rfl
  exact ⟨many, ls, g4, s4, fn_run (seq_nx (ρ1 := E g1 s1 .un) (set_nx (bin_of (r1 := .val (.int 1)) rfl e1 rfl rfl rfl) (by simp [E, hM])) (seq_nx (set_nx c3 rfl) (seq_nx (set_nx c4 rfl) (seq_nx (set_nx c6 rfl) (ret_rt e4))))) rfl, ok, hmany.2⟩
end Mi

/-! Webs; the answers are alike. -/
namespace Mi
open PySem PySem.Spec
open PyProof.Rows hiding St
open L2

theorem irange_pw (lo hi : Int) : (irange lo hi).Pairwise (· < ·) := by
  unfold irange
  rw [List.pairwise_map]
  exact List.pairwise_lt_range.imp fun h => by omega
theorem web_ok (g s most : Int) (h1 : 2 ≤ most) (h2 : most ≤ 20) : ∃ m ls g' s', f_law_web [boxD g s, .int most] = some (false, webD m ls, boxD g' s') ∧ WebOk m ls ∧ (m ≤ most ∨ m ≤ 3) := by
  obtain ⟨w, g1, s1, e1, w0, w1⟩ := take_at (p := true) (g := g) (s := s) (m := 8) (rest := [.fr (.int most), .un, .un]) (fa := valF (.int 8)) rfl (by omega) (by omega)
  let E : Int → Int → En := fun g s => [.ow true false (boxD g s), .fr (.int most), .fr (.int w), .un]
  have c1 : setS 2 (callE (some 0) f_law_take (consA (varF 0) (consA (valF (.int 8)) (nilA)))) [.ow true false (boxD g s), .fr (.int most), .un, .un] = some (.nx (E g1 s1)) := set_nx e1 rfl
  by_cases h3 : w < 3
  · obtain ⟨m, ls, g2, s2, e2, ok, hm⟩ := forest_ok g1 s1 most (by omega) h2
    exact ⟨m, ls, g2, s2, fn_run (seq_nx c1 (seq_rt (if_t (of_of (bin_of (r1 := .val (.int w)) (r2 := .val (.int 3)) rfl rfl rfl rfl (by simp [cmpV, h3]))) (ret_rt (call_of (cons_of (r := .slot 0) rfl (cons_of (r := .val (.int most)) rfl rfl)) rfl e2 rfl rfl))))) rfl, ok, hm⟩
  have d1 : ifS (ofV (bin2 (cmpV ltD) (varF 2) (valF (.int 3)))) (retS (callE (some 0) f_law_forest (consA (varF 0) (consA (varF 1) (nilA))))) (skipS) (E g1 s1) = some (.nx (E g1 s1)) :=
    if_f (of_of (bin_of (r1 := .val (.int w)) (r2 := .val (.int 3)) rfl rfl rfl rfl (by simp [cmpV, h3]))) rfl
  by_cases h5 : w < 5
  · obtain ⟨m, ls, g2, s2, e2, ok, hm⟩ := ring_ok g1 s1 most (by omega) h2
    exact ⟨m, ls, g2, s2, fn_run (seq_nx c1 (seq_nx d1 (seq_rt (if_t (of_of (bin_of (r1 := .val (.int w)) (r2 := .val (.int 5)) rfl rfl rfl rfl (by simp [cmpV, h5]))) (ret_rt (call_of (cons_of (r := .slot 0) rfl (cons_of (r := .val (.int most)) rfl rfl)) rfl e2 rfl rfl)))))) rfl, ok, .inl hm⟩
  have d2 : ifS (ofV (bin2 (cmpV ltD) (varF 2) (valF (.int 5)))) (retS (callE (some 0) f_law_ring (consA (varF 0) (consA (varF 1) (nilA))))) (skipS) (E g1 s1) = some (.nx (E g1 s1)) :=
    if_f (of_of (bin_of (r1 := .val (.int w)) (r2 := .val (.int 5)) rfl rfl rfl rfl (by simp [cmpV, h5]))) rfl
  by_cases h6 : w = 5
  · obtain ⟨y, g2, s2, e2, y0, y1⟩ := take_at (p := true) (g := g1) (s := s1) (m := most - 1) (rest := [.fr (.int most), .fr (.int w), .un]) (fa := bin2 (iiD subI) (varF 1) (valF (.int 1))) (by simp) (by omega) (by omega)
    refine ⟨2 + y, [irange 0 (2 + y)], g2, s2, fn_run (seq_nx c1 (seq_nx d1 (seq_nx d2 (seq_rt (if_t (of_of (bin_of (r1 := .val (.int w)) (r2 := .val (.int 5)) rfl rfl rfl rfl (by simp [cmpV, h6]))) (seq_nx (ρ1 := [.ow true false (boxD g2 s2), .fr (.int most), .fr (.int w), .fr (.int (2 + y))]) (set_nx (bin_of (r1 := .val (.int 2)) rfl e2 rfl rfl rfl) rfl) (ret_rt (tup_of (cons_of (r := .val (.int (2 + y))) rfl (cons_of (tup_of (cons_of (rng_of (tup := true) (cons_of (r := .val (.int (2 + y))) rfl rfl) (by omega) (by omega)) rfl) rfl (by simp)) rfl)) rfl (by simp))))))))) ?_, ⟨⟨by omega, by omega⟩, fun l hl => ?_, by simp, fun l hl => ?_, by simp, fun i i0 i1 => ⟨_, List.mem_singleton.mpr rfl, mem_ints.mpr ⟨i0, i1⟩⟩, .inl (by simp)⟩, .inl (by omega)⟩
    · rw [range_ints]; rfl
    · rw [List.mem_singleton.mp hl]
      have gr := GL.range (lo := 0) (hi := 2 + y) (by omega) (by omega) (by omega)
      exact ⟨gr.1, gr.2.1, gr.2.2.1⟩
    · rw [List.mem_singleton.mp hl]
      exact irange_pw _ _
  · obtain ⟨m, ls, g2, s2, e2, ok, hm⟩ := any_web_ok g1 s1 most (by omega) h2
    exact ⟨m, ls, g2, s2, fn_run (seq_nx c1 (seq_nx d1 (seq_nx d2 (seq_nx (if_f (of_of (bin_of (r1 := .val (.int w)) (r2 := .val (.int 5)) rfl rfl rfl rfl (by simp [cmpV, h6]))) rfl) (ret_rt (call_of (cons_of (r := .slot 0) rfl (cons_of (r := .val (.int most)) rfl rfl)) rfl e2 rfl rfl)))))) rfl, ok, .inl hm⟩

/-! ### alike -/
mutual
def D.sz : D → Nat
  | .tup xs => D.szAll xs + 1
  | _ => 1
def D.szAll : List D → Nat
  | [] => 0
  | x :: xs => x.sz + D.szAll xs
end
mutual
/-- what the laws compare -/
def D.lk : D → Bool
  | .tup xs => D.lkAll xs
  | .non => true
  | .bl _ => true
  | .int _ => true
  | .str _ => true
  | _ => false
def D.lkAll : List D → Bool
  | [] => true
  | x :: xs => x.lk && D.lkAll xs
end
theorem lkAll_mem : ∀ {xs : List D}, D.lkAll xs = true → ∀ x ∈ xs, x.lk = true
  | [], _, x, h => by cases h
  | y :: ys, h, x, hx => by
    simp only [D.lkAll, Bool.and_eq_true] at h
    rcases List.mem_cons.mp hx with rfl | hx
    · exact h.1
    · exact lkAll_mem h.2 x hx
theorem gd_sub {n : Nat} {xs : List D} (h : Gd n (.tup xs)) : ∀ x ∈ xs, Gd n x := by
  have h1 : D.ndAll xs = true := by simpa [D.nd] using h.nd
  have h2 : PyData.canLayAll0 (D.pyAll xs) = true := by simpa [D.py, PyData.canLay0] using h.lay
  have h3 : PyData.depthAll (D.pyAll xs) ≤ n := by
    have := h.dp
    simp only [D.py, PyData.depth] at this
    omega
  clear h
  induction xs with
  | nil => intro x hx; cases hx
  | cons y ys ih =>
    simp only [D.ndAll, Bool.and_eq_true] at h1
    simp only [D.pyAll, PyData.canLayAll0, Bool.and_eq_true] at h2
    simp only [D.pyAll, PyData.depthAll] at h3
    intro x hx
    rcases List.mem_cons.mp hx with rfl | hx
    · exact ⟨h1.1, h2.1, by omega⟩
    · exact ih h1.2 h2.2 (by omega) x hx
theorem szAll_append : ∀ {xs ys : List D}, D.szAll (xs ++ ys) = D.szAll xs + D.szAll ys
  | [], ys => by simp [D.szAll]
  | x :: xs, ys => by
    rw [List.cons_append, D.szAll, szAll_append, D.szAll]
    omega
theorem sz_pos (d : D) : 1 ≤ d.sz := by cases d <;> simp [D.sz]
theorem len_szAll : ∀ {xs : List D}, xs.length ≤ D.szAll xs
  | [] => by simp [D.szAll]
  | x :: xs => by
    have := sz_pos x
    have := len_szAll (xs := xs)
    rw [D.szAll, List.length_cons]
    omega
mutual
theorem eqD_self : ∀ d : D, d.lk = true → eqD d d = true
  | .non, _ => by simp [eqD, D.py, PyData.eqv]
  | .bl b, _ => by simp
  | .int b, _ => by simp
  | .str b, _ => by simp [eqD, D.py, PyData.eqv]
  | .tup xs, h => by
    simp only [eqD, D.py, PyData.eqv]
    exact eqD_selfAll xs (by simpa [D.lk] using h)
  | .lst _, h => by simp [D.lk] at h
  | .dic _ _, h => by simp [D.lk] at h
  | .scr _, h => by simp [D.lk] at h
  | .kt _, h => by simp [D.lk] at h
theorem eqD_selfAll : ∀ ds : List D, D.lkAll ds = true → PyData.eqvAll (D.pyAll ds) (D.pyAll ds) = true
  | [], _ => by simp [D.pyAll, PyData.eqvAll]
  | d :: ds, h => by
    simp only [D.lkAll, Bool.and_eq_true] at h
    simp only [D.pyAll, PyData.eqvAll, Bool.and_eq_true]
    exact ⟨eqD_self d h.1, eqD_selfAll ds h.2⟩
end
def pairD (d : D) : D := .tup [d, d]
theorem zip_self : ∀ xs : List D, (xs.zip xs).map (fun p => D.tup [p.1, p.2]) = xs.map pairD
  | [] => rfl
  | x :: xs => by
    simp only [List.zip_cons_cons, List.map_cons, zip_self xs]
    rfl
def bodyLike : SS := seqS (ifS (ofV (bin2 (cmpV eqK) (varF 2) (lstF (nilA)))) (retS (valF (.bl true))) (skipS))
    (seqS (unpS (tupT [4, 5]) (popE 2))
    (ifS (ofV (bin2 (cmpV isN) (varF 5) (valF .non))) (ifS (ofV (bin2 (cmpV isNotN) (varF 4) (valF .non))) (retS (valF (.bl false))) (skipS)) (ifS (truT (isiE "bool" (varF 5))) (ifS (orT (notT (truT (isiE "bool" (varF 4)))) (ofV (bin2 (cmpV neK) (varF 4) (varF 5)))) (retS (valF (.bl false))) (skipS)) (ifS (truT (isiE "tuple" (varF 5))) (seqS (ifS (orT (notT (truT (isiE "tuple" (varF 4)))) (ofV (bin2 (cmpV neK) (bltE lenK (consA (varF 4) (nilA))) (bltE lenK (consA (varF 5) (nilA)))))) (retS (valF (.bl false))) (skipS))
    (dropS (extE 2 (zipE (consA (varF 4) (consA (varF 5) (nilA))))))) (ifS (truT (isiE "str" (varF 5))) (ifS (orT (notT (truT (isiE "str" (varF 4)))) (ofV (bin2 (cmpV neK) (varF 4) (varF 5)))) (retS (valF (.bl false))) (skipS)) (ifS (orT (notT (truT (isiE "int" (varF 4)))) (orT (truT (isiE "bool" (varF 4))) (ofV (bin2 (cmpV neK) (varF 4) (varF 5))))) (retS (valF (.bl false))) (skipS)))))))
/-- one turn -/
theorem like_turn (a b d : D) (st : List D) (t u v : Slot) (ht : free1 t = true) (hu : free1 u = true) (hv : free1 v = true) (hl : d.lk = true) (hg : Gd 60 d) (hg2 : ∀ x ∈ st, Gd 60 x) (hz : st.length + d.sz ≤ 1000000) :
    ∃ st', bodyLike [.fr a, .fr b, .ow false false (.lst ((st ++ [d]).map pairD)), t, u, v] = some (.nx [.fr a, .fr b, .ow false false (.lst (st'.map pairD)), t, .fr d, .fr d]) ∧ (st' = st ∨ ∃ xs, d = .tup xs ∧ st' = st ++ xs) := by
  have okS : (D.lst ((st ++ [d]).map pairD)).okE = true := (Gd.lst (n := 61) fun x hx => by
    obtain ⟨y, hy, rfl⟩ := List.mem_map.mp hx
    have gy : Gd 60 y := by
      rcases List.mem_append.mp hy with hy | hy
      · exact hg2 y hy
      · rw [List.mem_singleton.mp hy]; exact hg
    exact Gd.tup fun z hz => by
      simp at hz
      subst hz
      exact gy).okE
  have c1 : eqK (.lst ((st ++ [d]).map pairD)) (.lst []) = some false := by
    unfold eqK
    rw [okS, okE_nilL, eqD_lstN]
    simp
  have e1 : ifS (ofV (bin2 (cmpV eqK) (varF 2) (lstF (nilA)))) (retS (valF (.bl true))) (skipS) [.fr a, .fr b, .ow false false (.lst ((st ++ [d]).map pairD)), t, u, v] = some (.nx [.fr a, .fr b, .ow false false (.lst ((st ++ [d]).map pairD)), t, u, v]) :=
    if_f (of_of (bin_of (r1 := .slot 2) (r2 := .new (.lst [])) rfl rfl rfl rfl (by simp only [cmpV, c1, Option.map_some]))) rfl
  have e2 : unpS (tupT [4, 5]) (popE 2) [.fr a, .fr b, .ow false false (.lst ((st ++ [d]).map pairD)), t, u, v] = some (.nx [.fr a, .fr b, .ow false false (.lst (st.map pairD)), t, .fr d, .fr d]) := by
    have : ((st ++ [d]).map pairD)[((st ++ [d]).map pairD).length - 1]? = some (pairD d) := by
      simp
    have h2 : ((st ++ [d]).map pairD).dropLast = st.map pairD := by simp
    have hp : popE 2 [.fr a, .fr b, .ow false false (.lst ((st ++ [d]).map pairD)), t, u, v] = some (.val (pairD d), [.fr a, .fr b, .ow false false (.lst (st.map pairD)), t, u, v]) := by
      show (match ((st ++ [d]).map pairD)[((st ++ [d]).map pairD).length - 1]? with | some d' => some (Opd.val d', _) | none => none) = _
      rw [this, h2]
      rfl
    unfold unpS
    rw [hp]
    simp [pairD, hu, hv]
  have ne : neK d d = some false := by
    unfold neK
    rw [hg.okE, eqD_self d hl]
    rfl
  have nd := hg.nd
  suffices h : ∃ st', (ifS (ofV (bin2 (cmpV isN) (varF 5) (valF .non))) (ifS (ofV (bin2 (cmpV isNotN) (varF 4) (valF .non))) (retS (valF (.bl false))) (skipS)) (ifS (truT (isiE "bool" (varF 5))) (ifS (orT (notT (truT (isiE "bool" (varF 4)))) (ofV (bin2 (cmpV neK) (varF 4) (varF 5)))) (retS (valF (.bl false))) (skipS)) (ifS (truT (isiE "tuple" (varF 5))) (seqS (ifS (orT (notT (truT (isiE "tuple" (varF 4)))) (ofV (bin2 (cmpV neK) (bltE lenK (consA (varF 4) (nilA))) (bltE lenK (consA (varF 5) (nilA)))))) (retS (valF (.bl false))) (skipS))
    (dropS (extE 2 (zipE (consA (varF 4) (consA (varF 5) (nilA))))))) (ifS (truT (isiE "str" (varF 5))) (ifS (orT (notT (truT (isiE "str" (varF 4)))) (ofV (bin2 (cmpV neK) (varF 4) (varF 5)))) (retS (valF (.bl false))) (skipS)) (ifS (orT (notT (truT (isiE "int" (varF 4)))) (orT (truT (isiE "bool" (varF 4))) (ofV (bin2 (cmpV neK) (varF 4) (varF 5))))) (retS (valF (.bl false))) (skipS)))))) [.fr a, .fr b, .ow false false (.lst (st.map pairD)), t, .fr d, .fr d] = some (.nx [.fr a, .fr b, .ow false false (.lst (st'.map pairD)), t, .fr d, .fr d]) ∧ (st' = st ∨ ∃ xs, d = .tup xs ∧ st' = st ++ xs) by
    obtain ⟨st', h1, h2⟩ := h
    exact ⟨st', seq_nx e1 (seq_nx e2 h1), h2⟩
  cases d with
  | non => exact ⟨st, by simp, .inl rfl⟩
  | bl x => exact ⟨st, by simp [ne], .inl rfl⟩
  | int x => exact ⟨st, by simp, .inl rfl⟩
  | str x => exact ⟨st, by simp [ne], .inl rfl⟩
  | tup xs =>
    refine ⟨st ++ xs, ?_, .inr ⟨xs, rfl, rfl⟩⟩
    have hx := len_szAll (xs := xs)
    have nda : D.ndAll xs = true := by simpa [D.nd] using nd
    simp only [D.sz] at hz
    simp [nda, zip_self, show st.length + xs.length ≤ 16000000 by omega]
  | lst _ => simp [D.lk] at hl
  | dic _ _ => simp [D.lk] at hl
  | scr _ => simp [D.lk] at hl
  | kt _ => simp [D.lk] at hl
end Mi

/-! Alike, touching. -/
namespace Mi
open PySem PySem.Spec
open PyProof.Rows hiding St
open L2

theorem for_rt {it : SI} {T : D → En → Option En} {F : SS} {ρ ρ1 ρ2 : En} {rs : List Opd} {ds : List D} {r : Opd} (h : it ρ = some (rs, ds, ρ1)) (hl : loopS T F ds (lockAll (toLock ρ1 rs) ρ1) = some (.rt r ρ2)) : forS it T F ρ = some (.rt r ρ2) := by
  unfold forS
  simp only [h, hl]
theorem like_loop (a b : D) : ∀ (ds : List D) (st : List D) (t u v : Slot), free1 t = true → free1 u = true → free1 v = true → (∀ x ∈ st, x.lk = true ∧ Gd 60 x) → D.szAll st < ds.length → D.szAll st ≤ 900000 →
    ∃ ρ', loopS (nameT 3) bodyLike ds [.fr a, .fr b, .ow false false (.lst (st.map pairD)), t, u, v] = some (.rt (.val (.bl true)) ρ')
  | [], st, t, u, v, _, _, _, _, h, _ => by simp at h
  | d0 :: ds, st, t, u, v, ht, hu, hv, hst, hlt, hz => by
    have hT : nameT 3 d0 [.fr a, .fr b, .ow false false (.lst (st.map pairD)), t, u, v] = some [.fr a, .fr b, .ow false false (.lst (st.map pairD)), .fr d0, u, v] := by simp [ht]
    rcases List.eq_nil_or_concat st with rfl | ⟨init, d, rfl⟩
    · refine ⟨[.fr a, .fr b, .ow false false (.lst []), .fr d0, u, v], ?_⟩
      have hb : bodyLike [.fr a, .fr b, .ow false false (.lst []), .fr d0, u, v] = some (.rt (.val (.bl true)) [.fr a, .fr b, .ow false false (.lst []), .fr d0, u, v]) :=
        seq_rt (if_t (of_of (bin_of (r1 := .slot 2) (r2 := .new (.lst [])) rfl rfl rfl rfl (by simp [cmpV, eqK]))) rfl)
      simp only [List.map_nil] at hT ⊢
      simp only [loopS, hT, hb]
    · rw [List.concat_eq_append] at *
      have hd := hst d (by simp)
      rw [szAll_append, show D.szAll [d] = d.sz by simp [D.szAll]] at hlt hz
      have hi := len_szAll (xs := init)
      obtain ⟨st', e, h'⟩ := like_turn a b d init (.fr d0) u v rfl hu hv hd.1 hd.2 (fun x hx => (hst x (by simp [hx])).2) (by omega)
      have hs' : (∀ x ∈ st', x.lk = true ∧ Gd 60 x) ∧ D.szAll st' < D.szAll init + d.sz := by
        have := sz_pos d
        rcases h' with rfl | ⟨xs, rfl, rfl⟩
        · exact ⟨fun x hx => hst x (by simp [hx]), by omega⟩
        · refine ⟨fun x hx => ?_, by rw [szAll_append, D.sz]; omega⟩
          rcases List.mem_append.mp hx with hx | hx
          · exact hst x (by simp [hx])
          · exact ⟨lkAll_mem (by simpa [D.lk] using hd.1) x hx, gd_sub hd.2 x hx⟩
      rw [List.length_cons] at hlt
      obtain ⟨ρ', er⟩ := like_loop a b ds st' (.fr d0) (.fr d) (.fr d) rfl rfl rfl hs'.1 (by omega) (by omega)
      refine ⟨ρ', ?_⟩
      simp only [loopS, hT, e]
      exact er
theorem like_ok (d : D) (hl : d.lk = true) (hg : Gd 60 d) (hz : d.sz ≤ 900000) : f_law_like [d, d] = some (false, .bl true, .non) := by
  obtain ⟨ρ', e⟩ := like_loop d d (rangeD 0 1000000) [d] .un .un .un rfl rfl rfl (fun x hx => by rw [List.mem_singleton.mp hx]; exact ⟨hl, hg⟩) (by rw [range_len]; simp only [D.szAll]; omega) (by simp only [D.szAll]; omega)
  exact fn_run (seq_nx (ρ1 := [.fr d, .fr d, .ow false false (.lst ([d].map pairD)), .un, .un, .un]) rfl (seq_rt (for_rt (rs := []) (rngI_of (j := 1000000) rfl (by omega) (by omega)) e))) rfl
theorem lk_lot (l : List Int) : (lotD l).lk = true := by
  simp only [lotD, D.lk]
  induction l with
  | nil => rfl
  | cons a l ih => simp [D.lkAll, D.lk, ih]
theorem sz_lot (l : List Int) : (lotD l).sz = l.length + 1 := by
  simp only [lotD, D.sz]
  congr 1
  induction l with
  | nil => rfl
  | cons a l ih => simp only [List.map_cons, D.szAll, D.sz, ih, List.length_cons]; omega
theorem like_lot (l : List Int) (h : l.length ≤ 800000) : f_law_like [lotD l, lotD l] = some (false, .bl true, .non) := like_ok _ (lk_lot l) ((gd_lot l).mono (by omega)) (by rw [sz_lot]; omega)
theorem like_bl (b : Bool) : f_law_like [.bl b, .bl b] = some (false, .bl true, .non) := like_ok _ rfl (.bl b) (by simp [D.sz])

/-! ### touching -/
def tch (ls : List (List Int)) (a b : Int) : Bool := decide (a = b) || ls.any fun l => decide (a ∈ l) && decide (b ∈ l)
theorem tch_sym (ls : List (List Int)) (a b : Int) : tch ls a b = tch ls b a := by
  unfold tch
  rw [show decide (a = b) = decide (b = a) by simp [eq_comm]]
  congr 2
  funext l
  exact Bool.and_comm _ _
theorem ix_web0 {m : Int} {ls : List (List Int)} : ixD (webD m ls) (.int 0) = some (.val (.int m)) := by simp [ixD, webD]
theorem ix_web1 {m : Int} {ls : List (List Int)} : ixD (webD m ls) (.int 1) = some (.val (lotsD ls)) := by simp [ixD, webD]
theorem any_id (bs : List Bool) : bs.any id = bs.any fun b => b := rfl
theorem bl_list {α : Type} (l : List α) (f : α → Bool) : (l.map fun x => D.bl (f x)) = (l.map f).map .bl := by rw [List.map_map]; rfl
theorem touches_ok (m a b : Int) (ls : List (List Int)) (hl : ls.length ≤ 60) : f_touches [webD m ls, .int a, .int b] = some (false, .bl (tch ls a b), .non) := by
  have eq1 : bin2 (cmpV eqK) (varF 1) (varF 2) [.fr (webD m ls), .fr (.int a), .fr (.int b), .un] = some (.val (.bl (decide (a = b))), [.fr (webD m ls), .fr (.int a), .fr (.int b), .un]) := bin_of (r1 := .val (.int a)) (r2 := .val (.int b)) rfl rfl rfl rfl (by simp [cmpV])
  by_cases h : a = b
  · have e : tch ls a b = true := by simp [tch, h]
    rw [e]
    refine fn_run (ret_rt (r := .val (.bl true)) (ρ1 := [.fr (webD m ls), .fr (.int a), .fr (.int b), .un]) ?_) rfl
    show orV _ _ [.fr (webD m ls), .fr (.int a), .fr (.int b), .un] = _
    unfold orV
    rw [eq1, decide_eq_true h]
  · have comp : compE [3] (seqI (bin2 ixD (varF 0) (valF (.int 1)))) (nameT 3) (yesT) (andV (bin2 (cmpV inD) (varF 1) (varF 3)) (bin2 (cmpV inD) (varF 2) (varF 3))) [.fr (webD m ls), .fr (.int a), .fr (.int b), .un] =
        some (.new (.lst (ls.map fun l => .bl (decide (a ∈ l) && decide (b ∈ l)))), [.fr (webD m ls), .fr (.int a), .fr (.int b), .un]) :=
      compE_map (own := [3]) (rs := [.val (lotsD ls)]) (xs := ls) (ρ1 := [.fr (webD m ls), .fr (.int a), .fr (.int b), .un]) (ρb := [.fr (webD m ls), .fr (.int a), .fr (.int b), .un]) lotD (fun l => .bl (decide (a ∈ l) && decide (b ∈ l))) (by
        unfold seqI
        rw [bin_of (r1 := .val (webD m ls)) (r2 := .val (.int 1)) rfl rfl rfl rfl ix_web1]
        rfl) rfl (by omega) (fun l hl => ⟨[.fr (webD m ls), .fr (.int a), .fr (.int b), .fr (lotD l)], .val (.bl (decide (a ∈ l) && decide (b ∈ l))), [.fr (webD m ls), .fr (.int a), .fr (.int b), .fr (lotD l)], rfl, by
          have i1 : bin2 (cmpV inD) (varF 1) (varF 3) [.fr (webD m ls), .fr (.int a), .fr (.int b), .fr (lotD l)] = some (.val (.bl (decide (a ∈ l))), [.fr (webD m ls), .fr (.int a), .fr (.int b), .fr (lotD l)]) := bin_of (r1 := .val (.int a)) (r2 := .val (lotD l)) rfl rfl rfl rfl (by simp [cmpV])
          have i2 : bin2 (cmpV inD) (varF 2) (varF 3) [.fr (webD m ls), .fr (.int a), .fr (.int b), .fr (lotD l)] = some (.val (.bl (decide (b ∈ l))), [.fr (webD m ls), .fr (.int a), .fr (.int b), .fr (lotD l)]) := bin_of (r1 := .val (.int b)) (r2 := .val (lotD l)) rfl rfl rfl rfl (by simp [cmpV])
          unfold andV
          rw [i1]
          cases hd : decide (a ∈ l) with
          | true => simp only [i2, Bool.true_and]
          | false => simp only [Bool.false_and], rfl, rfl⟩)
    have e : tch ls a b = (ls.map fun l => decide (a ∈ l) && decide (b ∈ l)).any id := by
      unfold tch
      rw [decide_eq_false h, Bool.false_or, List.any_map]
      rfl
    rw [e]
    refine fn_run (ret_rt (r := .val (.bl _)) (ρ1 := [.fr (webD m ls), .fr (.int a), .fr (.int b), .un]) ?_) rfl
    show orV _ _ [.fr (webD m ls), .fr (.int a), .fr (.int b), .un] = _
    unfold orV
    rw [eq1, decide_eq_false h]
    refine blt_of (cons_of comp rfl) rfl ?_
    rw [bl_list]
    simp only [anyK, D.seqL, blsD_map, Option.map_some]
theorem isEmpty_filter {α : Type} (l : List α) (p : α → Bool) (d : D) : ((l.filter p).map fun _ => d).isEmpty = !l.any p := by
  induction l with
  | nil => rfl
  | cons a l ih =>
    by_cases h : p a = true
    · simp [h]
    · simp only [List.filter_cons_of_neg h, List.any_cons, Bool.eq_false_iff.mpr h, Bool.false_or]
      exact ih
theorem ones_ok {α : Type} (l : List α) (p : α → Bool) : neK (.lst ((l.filter p).map fun _ => .int 1)) (.lst []) = some (l.any p) := by
  have ok1 : (D.lst ((l.filter p).map fun _ => D.int 1)).okE = true := (Gd.lst (n := 0) fun d hd => by
    obtain ⟨_, _, rfl⟩ := List.mem_map.mp hd
    exact .int 1).okE
  unfold neK
  rw [ok1, okE_nilL, eqD_lstN, isEmpty_filter]
  simp
theorem ltouch_ok (m a b : Int) (ls : List (List Int)) (hl : ls.length ≤ 60) : f_law_touch [webD m ls, .int a, .int b] = some (false, .bl (tch ls a b), .non) := by
  have eq1 : bin2 (cmpV eqK) (varF 1) (varF 2) [.fr (webD m ls), .fr (.int a), .fr (.int b), .un] = some (.val (.bl (decide (a = b))), [.fr (webD m ls), .fr (.int a), .fr (.int b), .un]) := bin_of (r1 := .val (.int a)) (r2 := .val (.int b)) rfl rfl rfl rfl (by simp [cmpV])
  by_cases h : a = b
  · have e : tch ls a b = true := by simp [tch, h]
    rw [e]
    refine fn_run (ret_rt (r := .val (.bl true)) (ρ1 := [.fr (webD m ls), .fr (.int a), .fr (.int b), .un]) ?_) rfl
    show orV _ _ [.fr (webD m ls), .fr (.int a), .fr (.int b), .un] = _
    unfold orV
    rw [eq1, decide_eq_true h]
  · have comp : compE [3] (seqI (bin2 ixD (varF 0) (valF (.int 1)))) (nameT 3) (andT (ofV (bin2 (cmpV inD) (varF 1) (varF 3))) (ofV (bin2 (cmpV inD) (varF 2) (varF 3)))) (valF (.int 1)) [.fr (webD m ls), .fr (.int a), .fr (.int b), .un] =
        some (.new (.lst ((ls.filter fun l => decide (a ∈ l) && decide (b ∈ l)).map fun _ => .int 1)), [.fr (webD m ls), .fr (.int a), .fr (.int b), .un]) :=
      compE_filter (own := [3]) (rs := [.val (lotsD ls)]) (xs := ls) (ρ1 := [.fr (webD m ls), .fr (.int a), .fr (.int b), .un]) (ρb := [.fr (webD m ls), .fr (.int a), .fr (.int b), .un]) lotD (fun _ => .int 1) (fun l => decide (a ∈ l) && decide (b ∈ l)) (by
        unfold seqI
        rw [bin_of (r1 := .val (webD m ls)) (r2 := .val (.int 1)) rfl rfl rfl rfl ix_web1]
        rfl) rfl (by omega) (fun l hl => ⟨[.fr (webD m ls), .fr (.int a), .fr (.int b), .fr (lotD l)], [.fr (webD m ls), .fr (.int a), .fr (.int b), .fr (lotD l)], rfl, by
          have i1 : ofV (bin2 (cmpV inD) (varF 1) (varF 3)) [.fr (webD m ls), .fr (.int a), .fr (.int b), .fr (lotD l)] = some (decide (a ∈ l), [.fr (webD m ls), .fr (.int a), .fr (.int b), .fr (lotD l)]) := of_of (bin_of (r1 := .val (.int a)) (r2 := .val (lotD l)) rfl rfl rfl rfl (by simp [cmpV]))
          have i2 : ofV (bin2 (cmpV inD) (varF 2) (varF 3)) [.fr (webD m ls), .fr (.int a), .fr (.int b), .fr (lotD l)] = some (decide (b ∈ l), [.fr (webD m ls), .fr (.int a), .fr (.int b), .fr (lotD l)]) := of_of (bin_of (r1 := .val (.int b)) (r2 := .val (lotD l)) rfl rfl rfl rfl (by simp [cmpV]))
          unfold andT
          rw [i1]
          cases hd : decide (a ∈ l) with
          | true => simp only [i2, Bool.true_and]
          | false => simp only [Bool.false_and], fun _ => rfl, fun _ => ⟨.val (.int 1), _, rfl, rfl, rfl⟩⟩)
    have e : tch ls a b = ls.any fun l => decide (a ∈ l) && decide (b ∈ l) := by
      unfold tch
      rw [decide_eq_false h, Bool.false_or]
    rw [e]
    refine fn_run (ret_rt (r := .val (.bl _)) (ρ1 := [.fr (webD m ls), .fr (.int a), .fr (.int b), .un]) ?_) rfl
    show orV _ _ [.fr (webD m ls), .fr (.int a), .fr (.int b), .un] = _
    unfold orV
    rw [eq1, decide_eq_false h]
    exact bin_of comp (r2 := .new (.lst [])) rfl rfl rfl (by simp only [cmpV, ones_ok, Option.map_some])
end Mi

/-! Who touches, near lots. -/
namespace Mi
open PySem PySem.Spec
open PyProof.Rows hiding St
open L2

theorem tru_of {f : SE} {ρ ρ1 : En} {b : Bool} (h : f ρ = some (.val (.bl b), ρ1)) : truT f ρ = some (b, ρ1) := by
  unfold truT
  simp only [h]
  rfl
theorem rng_web {m : Int} {ls : List (List Int)} {f : SE} {ρ : En} (h : f ρ = some (.val (webD m ls), ρ)) (h0 : 0 ≤ m) (h1 : m ≤ 60) : rng1I (consA (bin2 ixD f (valF (.int 0))) nilA) ρ = some ([], (irange 0 m).map .int, ρ) := by
  rw [← range_ints]
  exact rngI_of (cons_of (bin_of (r2 := .val (.int 0)) h rfl rfl rfl ix_web0) rfl) h0 (by omega)
theorem touching_ok (m h : Int) (ls : List (List Int)) (hm : 0 ≤ m ∧ m ≤ 60) (hl : ls.length ≤ 60) : f_touching [webD m ls, .int h] = some (false, lotD ((irange 0 m).filter fun o => tch ls h o), .non) := by
  have comp : compE [2] (rng1I (consA (bin2 ixD (varF 0) (valF (.int 0))) (nilA))) (nameT 2) (truT (callE none f_touches (consA (varF 0) (consA (varF 1) (consA (varF 2) (nilA)))))) (varF 2) [.fr (webD m ls), .fr (.int h), .un] =
      some (.new (.lst (((irange 0 m).filter fun o => tch ls h o).map .int)), [.fr (webD m ls), .fr (.int h), .un]) :=
    compE_filter (own := [2]) (rs := []) (xs := irange 0 m) (ρ1 := [.fr (webD m ls), .fr (.int h), .un]) (ρb := [.fr (webD m ls), .fr (.int h), .un]) .int .int (fun o => tch ls h o) (rng_web rfl hm.1 hm.2) rfl (by rw [irange_len]; omega) (fun o ho =>
      ⟨[.fr (webD m ls), .fr (.int h), .fr (.int o)], [.fr (webD m ls), .fr (.int h), .fr (.int o)], rfl, tru_of (call_of (cons_of (r := .val (webD m ls)) rfl (cons_of (r := .val (.int h)) rfl (cons_of (r := .val (.int o)) rfl rfl))) rfl (touches_ok m h o ls hl) rfl rfl), fun _ => rfl, fun _ => ⟨.val (.int o), _, rfl, rfl, rfl⟩⟩)
  exact fn_run (ret_rt (blt_of (cons_of comp rfl) rfl rfl)) rfl
theorem near_ok (m : Int) (l : List Int) (ls : List (List Int)) (hm : 0 ≤ m ∧ m ≤ 60) (hl : ls.length ≤ 60) (hz : l.length ≤ 60) : f_near_lot [webD m ls, lotD l] = some (false, lotD ((irange 0 m).filter fun o => l.any fun h => tch ls h o), .non) := by
  have comp : compE [2] (rng1I (consA (bin2 ixD (varF 0) (valF (.int 0))) (nilA))) (nameT 2) (truT (bltE anyK (consA (compE [3] (seqI (varF 1)) (nameT 3) (yesT) (callE none f_touches (consA (varF 0) (consA (varF 3) (consA (varF 2) (nilA)))))) (nilA)))) (varF 2) [.fr (webD m ls), .fr (lotD l), .un, .un] =
      some (.new (.lst (((irange 0 m).filter fun o => l.any fun h => tch ls h o).map .int)), [.fr (webD m ls), .fr (lotD l), .un, .un]) :=
    compE_filter (own := [2]) (rs := []) (xs := irange 0 m) (ρ1 := [.fr (webD m ls), .fr (lotD l), .un, .un]) (ρb := [.fr (webD m ls), .fr (lotD l), .un, .un]) .int .int (fun o => l.any fun h => tch ls h o) (rng_web rfl hm.1 hm.2) rfl (by rw [irange_len]; omega) (fun o ho => by
      have inner : compE [3] (seqI (varF 1)) (nameT 3) (yesT) (callE none f_touches (consA (varF 0) (consA (varF 3) (consA (varF 2) (nilA))))) [.fr (webD m ls), .fr (lotD l), .fr (.int o), .un] = some (.new (.lst (l.map fun h => .bl (tch ls h o))), [.fr (webD m ls), .fr (lotD l), .fr (.int o), .un]) :=
        compE_map (own := [3]) (rs := [.val (lotD l)]) (xs := l) (ρ1 := [.fr (webD m ls), .fr (lotD l), .fr (.int o), .un]) (ρb := [.fr (webD m ls), .fr (lotD l), .fr (.int o), .un]) .int (fun h => .bl (tch ls h o)) rfl rfl (by omega) (fun h hh =>
          ⟨[.fr (webD m ls), .fr (lotD l), .fr (.int o), .fr (.int h)], .val (.bl (tch ls h o)), [.fr (webD m ls), .fr (lotD l), .fr (.int o), .fr (.int h)], rfl, call_of (cons_of (r := .val (webD m ls)) rfl (cons_of (r := .val (.int h)) rfl (cons_of (r := .val (.int o)) rfl rfl))) rfl (touches_ok m h o ls hl) rfl rfl, rfl, rfl⟩)
      have e : (l.any fun h => tch ls h o) = (l.map fun h => tch ls h o).any id := by rw [List.any_map]; rfl
      refine ⟨[.fr (webD m ls), .fr (lotD l), .fr (.int o), .un], [.fr (webD m ls), .fr (lotD l), .fr (.int o), .un], rfl, tru_of (blt_of (cons_of inner rfl) rfl ?_), fun _ => rfl, fun _ => ⟨.val (.int o), _, rfl, rfl, rfl⟩⟩
      rw [bl_list, e]
      simp only [anyK, D.seqL, blsD_map, Option.map_some])
  exact fn_run (ret_rt (blt_of (cons_of comp rfl) rfl rfl)) rfl
theorem lnear_ok (m : Int) (l : List Int) (ls : List (List Int)) (hm : 0 ≤ m ∧ m ≤ 60) (hl : ls.length ≤ 60) (hz : l.length ≤ 60) : f_law_near_lot [webD m ls, lotD l] = some (false, lotD ((irange 0 m).filter fun o => l.any fun h => tch ls h o), .non) := by
  have comp : compE [2] (rng1I (consA (bin2 ixD (varF 0) (valF (.int 0))) (nilA))) (nameT 2) (ofV (bin2 (cmpV neK) (compE [3] (seqI (varF 1)) (nameT 3) (truT (callE none f_law_touch (consA (varF 0) (consA (varF 2) (consA (varF 3) (nilA)))))) (valF (.int 1))) (lstF (nilA)))) (varF 2) [.fr (webD m ls), .fr (lotD l), .un, .un] =
      some (.new (.lst (((irange 0 m).filter fun o => l.any fun h => tch ls h o).map .int)), [.fr (webD m ls), .fr (lotD l), .un, .un]) :=
    compE_filter (own := [2]) (rs := []) (xs := irange 0 m) (ρ1 := [.fr (webD m ls), .fr (lotD l), .un, .un]) (ρb := [.fr (webD m ls), .fr (lotD l), .un, .un]) .int .int (fun o => l.any fun h => tch ls h o) (rng_web rfl hm.1 hm.2) rfl (by rw [irange_len]; omega) (fun o ho => by
      have inner : compE [3] (seqI (varF 1)) (nameT 3) (truT (callE none f_law_touch (consA (varF 0) (consA (varF 2) (consA (varF 3) (nilA)))))) (valF (.int 1)) [.fr (webD m ls), .fr (lotD l), .fr (.int o), .un] = some (.new (.lst ((l.filter fun h => tch ls o h).map fun _ => .int 1)), [.fr (webD m ls), .fr (lotD l), .fr (.int o), .un]) :=
        compE_filter (own := [3]) (rs := [.val (lotD l)]) (xs := l) (ρ1 := [.fr (webD m ls), .fr (lotD l), .fr (.int o), .un]) (ρb := [.fr (webD m ls), .fr (lotD l), .fr (.int o), .un]) .int (fun _ => .int 1) (fun h => tch ls o h) rfl rfl (by omega) (fun h hh =>
          ⟨[.fr (webD m ls), .fr (lotD l), .fr (.int o), .fr (.int h)], [.fr (webD m ls), .fr (lotD l), .fr (.int o), .fr (.int h)], rfl, tru_of (call_of (cons_of (r := .val (webD m ls)) rfl (cons_of (r := .val (.int o)) rfl (cons_of (r := .val (.int h)) rfl rfl))) rfl (ltouch_ok m o h ls hl) rfl rfl), fun _ => rfl, fun _ => ⟨.val (.int 1), _, rfl, rfl, rfl⟩⟩)
      have e : (l.any fun h => tch ls h o) = l.any fun h => tch ls o h := by
        congr 1
        funext h
        exact tch_sym ls h o
      rw [e]
      exact ⟨[.fr (webD m ls), .fr (lotD l), .fr (.int o), .un], [.fr (webD m ls), .fr (lotD l), .fr (.int o), .un], rfl, of_of (bin_of inner (r2 := .new (.lst [])) rfl rfl rfl (by simp only [cmpV, ones_ok, Option.map_some])), fun _ => rfl, fun _ => ⟨.val (.int o), _, rfl, rfl, rfl⟩⟩)
  exact fn_run (ret_rt (blt_of (cons_of comp rfl) rfl rfl)) rfl
theorem filter_len {m : Int} {p : Int → Bool} (hm : m ≤ 60) : ((irange 0 m).filter p).length ≤ 60 := Nat.le_trans (List.length_filter_le _ _) (by rw [irange_len]; omega)
theorem not_of {t : STe} {ρ ρ1 : En} {b : Bool} (h : t ρ = some (b, ρ1)) : notT t ρ = some (!b, ρ1) := by
  unfold notT
  simp only [h]
theorem app_args {F1 F2 : SA} {ρ ρ1 ρ2 : En} {rs ss : List Opd} (h : F1 ρ = some (rs, ρ1)) (h2 : F2 ρ1 = some (ss, ρ2)) : appA F1 F2 ρ = some (rs ++ ss, ρ2) := by
  unfold appA
  simp only [h, h2]
/-- a check that holds: the loop goes on -/
theorem check_ok {F1 F2 : SE} {ρ : En} {d : D} (h1 : F1 ρ = some (.val d, ρ)) (h2 : F2 ρ = some (.val d, ρ)) (hl : f_law_like [d, d] = some (false, .bl true, .non)) :
    ifS (notT (truT (callE none f_law_like (consA F1 (consA F2 nilA))))) (retS (valF (.bl false))) skipS ρ = some (.nx ρ) :=
  if_f (not_of (tru_of (call_of (cons_of h1 (cons_of h2 rfl)) rfl hl rfl rfl))) rfl
end Mi

/-! A law's end. -/
namespace Mi
open PySem PySem.Spec
open PyProof.Rows hiding St
open L2

theorem u65 {A : Around} {k : Nat} (hr : Room k A) : A.units + 65 < cLine := by have := hr.un; omega
theorem here_of {K : PySem.W.Frag} {h : Heap} {mg : Str → Option Value} {x qual : Str} {st : Stmt} {f : Addr} {oc : Value} {od an : Option Addr} {osl : Array (Option Value)} {kV doc pm cdv ct : Value} (X : K.In h) (G : h.Ns mainGlobals mg)
    (a : PySem.W.nsIn K mainGlobals x = some (some (.ref f))) (l : K.lookup f = some ⟨oc, od, .func (PySem.W.fnOf x qual (defArgs st) (defBody st) (defScope st) .none kV doc pm an cdv ct), osl⟩) (c : PySem.W.codeIn K cdv qual = true) (k : PySem.W.keepIn K (.ref f) = true) : Here K mg x qual st :=
  ⟨f, _, fun_mk l c k, PySem.W.mg_of X G a⟩
theorem DefOk.to {P : Program} {w : World} {K : PySem.W.Frag} {mg : Str → Option Value} {base : Heap} {k : Nat} {x qual : Str} {st : Stmt} {ps : List Str} {io : Option Nat} {F : Fn} (d : DefOk P w K mg base k x qual st ps io F) {f : Addr} {fd : FuncData} (Fu : L2.Fun K x qual st f fd) (m : mg x = some (.ref f)) :
    FnOk P w K mg base CX0 k f fd ps (spP K ps.length io F) := by
  obtain ⟨f', fd', F', m', ok⟩ := d.ex
  rw [m] at m'
  cases m'
  obtain ⟨_, _, _, _, _, _, _, _, _, _, l1, _⟩ := Fu.ex
  obtain ⟨_, _, _, _, _, _, _, _, _, _, l2, _⟩ := F'.ex
  rw [l1] at l2
  cases l2
  exact ok
/-- a law that is true at every script: its walk -/
theorem law_walk {l : PySem.W.OpenLaw} {k : Nat} {q : Program} {loose : List Str} {XP : (Str → Option Value) → Heap → Prop} {YP : World → Heap → Prop} {d : DefRec} {K : Params → PySem.W.Frag} {st : Stmt} {F : Fn}
    (hn : l.most = some 63) (hdf : d.params.defaults = []) (hd : d.name = "law") (hr : Room k callerA) (hY : ∀ (w : World) (h : Heap), YP w h → (K w.params).In h)
    (hb : ∀ (kV doc pm : Value) (an : Option Addr) (cdv ct u : Value), bindArgs (PySem.W.fnOf "law" "law" (defArgs st) (defBody st) (defScope st) .none kV doc pm an cdv ct) ⟨[u], []⟩ = pure [(("script" : Str), u)])
    (hF : ∀ ns : List Int, ns.length ≤ 63 → F [.scr ns] = some (false, .bl true, .non))
    (D : ∀ (w : World) (mg : Str → Option Value) (h : Heap), (K w.params).In h → h.Ns mainGlobals mg → Here (K w.params) mg "law" "law" st ∧ ∀ base : Heap, DefOk l.prog w (K w.params) mg base k "law" "law" st ["script"] none F) :
    PySem.W.WalkO q loose XP YP l.row.toRowW d [] (fun f vs => PySem.call f vs) := by
  refine walk_ofK (n := 63) (k := k) (x := "script") (CX := CX0) (sp := fun K => spP K 1 none F) hn (by decide) hdf hr hY (fun w mg fa h KX G hmg => ?_) (fun K H a ns hl hO hS => ?_) fun _ _ _ _ z => z
  · obtain ⟨⟨f, fd, Fu, m⟩, ok⟩ := D w mg h KX G
    rw [hd, m] at hmg
    cases hmg
    refine ⟨fd, fun s u => ?_, fun base _ _ => (ok base).to Fu m⟩
    obtain ⟨_, _, kV, doc, pm, an, cdv, ct, _, rfl, _, _⟩ := Fu.ex
    exact .of_eq (hb kV doc pm an cdv ct u)
  · refine ⟨rfl, NoA, [.scr ns], false, .bl true, .non, ⟨rfl, fun _ z => z.elim, fun i v dd _ hv hd => ?_, fun i dd z => by cases z⟩, hF ns hl, fun v H' g => ?_⟩
    · cases i with
      | zero =>
        cases hv
        cases hd
        refine .scr ?_
        rcases hS with (h | h) | h
        · rcases hO a with z | ⟨o, xs, z⟩
          · rw [h] at z; cases z
          · rw [h] at z; cases z
        · exact .inl h
        · exact .inr h
      | succ i => simp at hv
    · have w := g.val rfl
      cases w
      rfl
end Mi

/-! sorted(xs, key=f), f a def of the program. -/
namespace Mi
open PySem PySem.Spec
open PyProof.Rows hiding St
open L2

/-- the keys -/
def keysD (F : Fn) : List D → Option (List D)
  | [] => some []
  | d :: ds => match F [d] with
    | some (false, k, _) => (keysD F ds).map (k :: ·)
    | _ => none
theorem keysD_at {F : Fn} : ∀ {ds ks : List D}, keysD F ds = some ks → ds.length = ks.length ∧ ∀ (i : Nat) (d : D), ds[i]? = some d → ∃ k d', ks[i]? = some k ∧ F [d] = some (false, k, d')
  | [], ks, h => by cases h; exact ⟨rfl, fun i d e => by simp at e⟩
  | d :: ds, ks, h => by
    unfold keysD at h
    split at h
    · rename_i k d' e
      cases q : keysD F ds with
      | none => rw [q] at h; cases h
      | some ks' =>
        rw [q] at h
        cases h
        obtain ⟨h1, h2⟩ := keysD_at q
        refine ⟨by simp [h1], fun i x hx => ?_⟩
        cases i with
        | zero =>
          cases hx
          exact ⟨k, d', rfl, e⟩
        | succ i => simpa using h2 i x (by simpa using hx)
    · cases h
def sortBy (ds ks : List D) : List D := ((ds.zip ks).mergeSort (PySem.W.dataLe false fun p : D × D => p.2.py)).map Prod.fst
def rSortF (K : PySem.W.Frag) (f : Addr) (F : Fn) : List V → List V → Hp → VK → Prop := fun vs zs H Q => ∃ (a : Addr) (xs : List V) (ds ks : List D) (A : Addr → Prop), vs = [.ref a] ∧ zs = [.ref f] ∧ SqL K H a xs ∧ RepAll K H A xs ds ∧ D.imAll ds = true ∧ keysD F ds = some ks ∧ D.imAll ks = true ∧ sortB ks = true ∧
  ∀ (ys : List V) (p : Addr) (H1 : Hp), (∀ b o, H b = some o → H1 b = some o) → RepAll K H1 A ys (sortBy ds ks) → H1 p = none → Q (.ref p) (upd H1 p (.lst ys))
/-- an object is there no more -/
def freeAt (h : Heap) (k : Addr) : Heap := h.update k fun o => { o with data := .freed }
theorem freeAt_self {h : Heap} {k : Addr} {o : Obj} (e : h.get? k = some o) : (freeAt h k).get? k = none := by
  obtain ⟨objs, l⟩ := h
  unfold Heap.get? at e ⊢
  unfold freeAt Heap.update
  simp only at e ⊢
  have hk : k < objs.size := by
    cases q : objs[k]? with
    | none => rw [q] at e; cases e
    | some o' => exact (Array.getElem?_eq_some_iff.mp q).1
  rw [Array.getElem?_modify, if_pos rfl, Array.getElem?_eq_getElem hk]
  rfl
theorem freeAt_ne {h : Heap} {k b : Addr} (e : b ≠ k) : (freeAt h k).get? b = h.get? b := Heap.get?_update_ne _ _ _ _ e
theorem each_zip {R : Value → D → Prop} : ∀ {us : List Value} {ds ks : List D}, ds.length = ks.length → PySem.W.EachIs R us ds → PySem.W.EachIs (fun u (p : D × D) => R u p.1) us (ds.zip ks)
  | _, _, [], _, .nil => .nil
  | _, _, _ :: _, h, .nil => by simp at h
  | _, _, [], h, .cons _ _ => by simp at h
  | _, _, _ :: _, h, .cons h1 t => .cons h1 (each_zip (by simpa using h) t)
theorem each_fst {R : Value → D → Prop} : ∀ {us : List Value} {ps : List (D × D)}, PySem.W.EachIs (fun u (p : D × D) => R u p.1) us ps → PySem.W.EachIs R us (ps.map Prod.fst)
  | _, _, .nil => .nil
  | _, _, .cons h1 t => .cons h1 (each_fst t)
theorem zip_snd : ∀ {ds ks : List D}, ds.length = ks.length → (ds.zip ks).map (fun p => p.2.py) = ks.map D.py
  | [], [], _ => rfl
  | [], _ :: _, h => by simp at h
  | _ :: _, [], h => by simp at h
  | d :: ds, k :: ks, h => by
    have := zip_snd (ds := ds) (ks := ks) (by simpa using h)
    simp [this]
section
variable {X : Cx} {k : Nat} {f : Addr} {fd : FuncData} {ps : List Str} {F : Fn}
theorem cr_sortedF (hF : FnOk X.prog X.w X.K X.mg X.base CX0 k f fd ps (spP X.K 1 none F)) (hr : Room (k + 2) X.A) (hb : Binds X.K fd ps []) : CallRK X (.builtin "sorted") [Str.ofString "key"] (rSortF X.K f F) := by
  intro pins s σ H vs zs us ws Q I r rz h
  obtain ⟨a, xs, ds, ks, A, rfl, rfl, hs, w, hid, hks, hik, hB, q⟩ := h
  rw [Vals.ref1 r, Vals.ref1 rz]
  obtain ⟨its, rv, hl, hz⟩ := I.list hs
  have hzi : its.length ≤ sizeLine := by rw [← rv.length]; exact hz
  obtain ⟨hlk, hat⟩ := keysD_at hks
  obtain ⟨b1, b2, b3, b4⟩ := sortB_of hB
  have hxd := w.length
  have hxi := rv.length
  refine PySem.W.sorted_of_sort hl.isList hzi (PyProof.Rows.ksk_s1 _ _) (fun _ => PyProof.Rows.ksk_l1 _ _) fun E' => ?_
  rw [show [Str.ofString "key"].zip [Value.ref f] = [(Str.ofString "key", Value.ref f)] from rfl, ksk_t1]
  have ho := PySem.W.copyHeap_at s.heap its
  obtain ⟨e1, ho1⟩ : ∃ e1, ((PySem.W.copyHeap s.heap its).update (s.heap.objs.size + 1) (Obj.mapSeq fun _ => (#[] : Array Value))).get? (s.heap.objs.size + 1) = some (seqObj "list" #[] e1) := ⟨_, get?_update_seq ho fun _ => #[]⟩
  have hkS : (((PySem.W.copyHeap s.heap its).update (s.heap.objs.size + 1) (Obj.mapSeq fun _ => (#[] : Array Value))).push (seqObj "tuple" its.toArray 0)).objs.size = (PySem.W.copyHeap s.heap its).objs.size + 1 := by rw [size_push', Heap.size_update]
  have ha : s.heap.objs.size + 1 < (PySem.W.copyHeap s.heap its).objs.size := Heap.lt_size ho
  unfold ksk_tree
  refine wpAny_bind (listItems_at ho rfl ?_)
  refine wpAny_bind (listUpdate_at ho rfl ?_ (by rw [List.size_toArray]; exact hzi) (Nat.zero_le _))
  refine wpAny_bind (seqEpoch_at ho1 rfl ?_)
  refine wpAny_bind (wpAny_newTuple ?_ (by show its.length ≤ _; exact hzi))
  refine wpAny_bind (wpAny_newList ?_ (Nat.zero_le _))
  refine wpAny_holding ?_
  generalize hkk : (((PySem.W.copyHeap s.heap its).update (s.heap.objs.size + 1) (Obj.mapSeq fun _ => (#[] : Array Value))).push (seqObj "tuple" its.toArray 0)).objs.size = kS at *
  have hka : kS ≠ s.heap.objs.size + 1 := by omega
  have hge : s.heap.objs.size ≤ kS := by omega
  have fk : ∀ {H' : Hp}, H' kS = none → FpOk X pins H' kS := fun n => I.fpOk hge n
  have fa : ∀ {H' : Hp}, H' (s.heap.objs.size + 1) = none → FpOk X pins H' (s.heap.objs.size + 1) := fun n => I.fpOk (Nat.le_succ _) n
  let J : Nat → Shared → Prop := fun i s' => ∃ (kA : Array Value) (e : Nat) (H' : Hp) (kvs : List V), Inv X pins σ H' s' ∧ H' kS = none ∧ H' (s.heap.objs.size + 1) = none ∧ s'.heap.get? kS = some (seqObj "list" kA e) ∧ s'.heap.get? (s.heap.objs.size + 1) = some (seqObj "list" #[] e1) ∧
    (∀ b o, H b = some o → H' b = some o) ∧ Vals kvs kA.toList ∧ RepAll X.K H' A kvs (ks.take i)
  have hr2 : Room k X.A.in1.in1 := Room.in1 (Room.in1 hr)
  unfold ksk_rest
  refine wpAny_bind (wpAny_rule ?_)
  first
    | rw [List.forIn_toArray]
    | (rw [← Array.forIn_toList]; simp only [List.toList_toArray])
    | rw [← Array.forIn_toList]
  refine wpAny_bind (ksk_fold J its 0 _ ?base ?step ?done)
  case base =>
    refine ⟨#[], 0, H, [], I.kept (t' := s.toks) fun b o e => ?_, I.hok.fresh hge, I.hok.fresh (Nat.le_succ _), ?_, ?_, fun _ _ e => e, .nil, by rw [List.take_zero]; exact .nil⟩
    · exact PySem.W.sortingHeap_old (h := PySem.W.copyHeap s.heap its) (a := s.heap.objs.size + 1) (vs := its) (Nat.ne_of_lt (Nat.lt_succ_of_lt (Heap.lt_size e))) (PySem.W.copyHeap_old e)
    · rw [← hkk]
      exact Heap.get?_push_size _ rfl
    · exact Heap.get?_push_of_some _ (Heap.get?_push_of_some _ ho1)
  case step =>
    rintro j x s' hx ⟨kA, e, H', kvs, I', n1, n2, g1, g2, kp, rk, wk⟩
    simp only [Nat.zero_add] at wk ⊢
    have hj : j < its.length := (List.getElem?_eq_some_iff.mp hx).1
    have hjd : j < ds.length := by omega
    obtain ⟨key, d', hkey, eF⟩ := hat j ds[j] (List.getElem?_eq_getElem hjd)
    obtain ⟨v, hv, wv⟩ := w.get (List.getElem?_eq_getElem hjd)
    obtain ⟨u, hu, rvu⟩ := rv.get hv
    rw [hx] at hu
    cases hu
    have imd : (ds[j]).im = true := by
      have : ∀ {l : List D}, D.imAll l = true → ∀ {i : Nat} (hi : i < l.length), (l[i]).im = true := by
        intro l
        induction l with
        | nil => intro _ i hi; simp at hi
        | cons y l ih =>
          intro hl i hi
          simp only [D.imAll, Bool.and_eq_true] at hl
          cases i with
          | zero => exact hl.1
          | succ i => exact ih hl.2 (by simpa using hi)
      exact this hid hjd
    have imk : key.im = true := by
      have : ∀ {l : List D}, D.imAll l = true → ∀ {i : Nat} {y : D}, l[i]? = some y → y.im = true := by
        intro l
        induction l with
        | nil => intro _ i y hi; simp at hi
        | cons z l ih =>
          intro hl i y hi
          simp only [D.imAll, Bool.and_eq_true] at hl
          cases i with
          | zero => cases hi; exact hl.1
          | succ i => exact ih hl.2 (by simpa using hi)
      exact this hik hkey
    have imt : D.imAll (ks.take j) = true := by
      have : ∀ {l : List D} (n : Nat), D.imAll l = true → D.imAll (l.take n) = true := by
        intro l
        induction l with
        | nil => intro n _; simp [D.imAll]
        | cons z l ih =>
          intro n hl
          cases n with
          | zero => rfl
          | succ n =>
            simp only [D.imAll, Bool.and_eq_true] at hl
            simp only [List.take_succ_cons, D.imAll, Bool.and_eq_true]
            exact ⟨hl.1, ih n hl.2⟩
      exact this j hik
    have I2 : Inv X (pins ++ [(kS, seqObj "list" kA e), (s.heap.objs.size + 1, seqObj "list" #[] e1)]) σ H' s' := I'.pins_of fun p hp => by
      rcases List.mem_append.mp hp with hp | hp
      · exact I'.pin p (List.mem_append_right _ hp)
      · simp only [List.mem_cons, List.not_mem_nil, or_false] at hp
        rcases hp with rfl | rfl
        · exact ⟨g1, n1, (fk n1).2.1, (fk n1).2.2.1, fun v z => by cases z⟩
        · exact ⟨g2, n2, (fa n2).2.1, (fa n2).2.2.1, fun v z => by cases z⟩
    have spec : spP X.K 1 none F [v] H' (fun v2 H2 => (∀ b o, H' b = some o → H2 b = some o) ∧ Rep X.K H2 A v2 key) E0 := by
      have nio : ∀ {vs : List V} {c : Addr}, ¬ IoA none vs c := fun ⟨i, z, _⟩ => by cases z
      refine ⟨rfl, fun _ => False, [ds[j]], false, key, d', ⟨rfl, fun _ z => z.elim, fun i v' d _ hv' hd => ?_, fun i d z => by cases z⟩, eF, fun v2 H2 g => ⟨fun b o e => g.keep b o e nio, (g.val rfl).any (fun _ _ e _ => e) imk⟩⟩
      cases i with
      | zero =>
        cases hv'
        cases hd
        exact wv.any (fun b o e _ => kp b o e) imd
      | succ i => simp at hv'
    have hlen1 : ([x] ++ ([] : List Value)).length = ps.length := (hF.len [v] H' _ E0 spec)
    have hbx := hb s' [x] I2.kIn hlen1
    rw [List.append_nil] at hbx
    have call1 : wpAny (model X.prog X.w) X.A.in1.in1 (call (.ref f) [x]) (EP X (pins ++ [(kS, seqObj "list" kA e), (s.heap.objs.size + 1, seqObj "list" #[] e1)]) σ fun v2 H2 => (∀ b o, H' b = some o → H2 b = some o) ∧ Rep X.K H2 A v2 key) (fun _ _ => False) s' := by
      refine wpAny_call (codeAny_mono (hF.run X.A.in1.in1 X.stack s' H' ⟨[x], []⟩ [x] [v] _ E0 hr2 I2.env0.in1.in1 hbx (.cons rvu .nil) spec) fun rr s'' hq => ?_)
      cases rr with
      | error e => exact hq
      | ok fl =>
        cases fl with
        | ret u => exact I2.after hq
        | next => exact False.elim hq
        | brk => exact False.elim hq
        | cont => exact False.elim hq
    refine wpAny_bind (wpAny_attempt (wpAny_mono call1 (fun u s'' he => ?_) fun _ _ hf => hf.elim))
    obtain ⟨v2, H2, I3, r2, kp2, w2⟩ := he
    try dsimp only
    obtain ⟨g1', n1', _⟩ := I3.pin (kS, seqObj "list" kA e) (List.mem_append_right _ (List.mem_append_right _ (by simp)))
    obtain ⟨g2', n2', _⟩ := I3.pin (s.heap.objs.size + 1, seqObj "list" #[] e1) (List.mem_append_right _ (List.mem_append_right _ (by simp)))
    have hkz : kA.size ≤ its.length := by
      have h1 : kvs.length = kA.toList.length := rk.length
      have h2 := wk.length
      have h0 : kA.toList.length = kA.size := by simp
      rw [List.length_take] at h2
      omega
    have s1 := Heap.SameBut.update s''.heap kS (Obj.mapSeq (·.push u))
    obtain ⟨c2, hc2⟩ : ∃ c2, (s''.heap.update kS (Obj.mapSeq (·.push u))).get? kS = some (seqObj "list" (kA.push u) c2) := ⟨_, get?_update_seq g1' (·.push u)⟩
    refine wpAny_bind (listUpdate_at g1' rfl ?_ (Nat.le_trans hkz hzi) (Nat.le_trans (Nat.le_of_eq (Array.size_push ..)) (Nat.succ_le_succ (Nat.le_trans hkz hzi))))
    refine wpAny_pure ⟨rfl, kA.push u, c2, H2, kvs ++ [v2], ?_, n1', n2', hc2, (s1.2 _ (Ne.symm hka)).trans g2', fun b o e => kp2 b o (kp b o e), ?_, ?_⟩
    · exact I3.unpinned.turnedL (ch := [kS]) (t' := s''.toks) (fun b o hb e => (s1.2 b (by simpa using hb)).trans e) fun b hb => by
        rw [List.mem_singleton.mp hb]
        exact fk n1'
    · rw [Array.toList_push]
      exact rk.append (.cons r2 .nil)
    · rw [List.take_add_one, hkey]
      exact (RepAll.any (fun b o e _ => kp2 b o e) imt wk).append (.cons w2 .nil)
  case done =>
    rintro s' ⟨kA, e, H', kvs, I', n1, n2, g1, g2, kp, rk, wk⟩
    have etk : ks.take (0 + its.length) = ks := List.take_of_length_le (by omega)
    rw [etk] at wk
    have hk' : PySem.W.EachIs (fun v d => ∃ as, Reads s'.heap v d as) kA.toList (ks.map D.py) :=
      PySem.W.each_map (R := fun v d => ∃ as, Reads s'.heap v d as) D.py (each_reads I' (fun d hd => (b3 d hd).1) (each_of rk wk))
    have hsz : kA.size = its.length := by
      have h1 : kvs.length = kA.toList.length := rk.length
      have h2 := wk.length
      have h0 : kA.toList.length = kA.size := by simp
      omega
    try dsimp only
    refine wpAny_bind (listItems_at g1 rfl ?_)
    have hu : ∀ d, d ∈ ks.map D.py → X.A.in1.in1.units + d.depth < cLine := fun d hd => by
      obtain ⟨y, hy, rfl⟩ := List.mem_map.mp hd
      have h1 := (b3 y hy).2
      have h2 := hr2.un
      omega
    refine PySem.W.keyH_end (κ := PySem.W.dataKind s'.heap (ks.map D.py)) (h₁ := freeAt s'.heap kS) (fun b o hb q => ?_) (freeAt_self g1) g1 g2 hka (PySem.W.SortsAt.data (s := s') hk' b1 b2 hu) hsz hzi fun h3 tk3 c k3 n3 => ⟨rfl, ?_⟩
    · by_cases z : b = kS
      · subst z
        rw [freeAt_self g1] at q
        cases q
      · rwa [freeAt_ne z] at q
    have ko : PySem.W.KeyedOut false (ks.map D.py) its (PySem.W.sortVals (PySem.W.dataKind s'.heap (ks.map D.py)) false kA.toList its) := ⟨s'.heap, kA.toList, b1, rfl, hk'⟩
    have hR : PySem.W.EachIs (fun u (p : D × D) => IsD X.K H' A u p.1) its (ds.zip ks) := each_zip hlk (each_of rv (RepAll.any (fun b o e _ => kp b o e) hid w))
    have eo := PySem.W.keyedOut_each (bs := ds.zip ks) (fun p : D × D => p.2.py) (by rw [zip_snd hlk]; exact ko) hR
    obtain ⟨ys, ry, wy⟩ := of_each (each_fst eo)
    have hylen : ys.length ≤ sizeLine := by
      rw [ry.length, PySem.W.sortVals_length false (by rw [Array.length_toList]; exact hsz)]
      exact hzi
    have I4 : Inv X pins σ H' { s' with heap := h3, toks := tk3 } := I'.turnedL (ch := [kS, s.heap.objs.size + 1]) (t' := tk3) (fun b o hb e => by
        simp only [List.mem_cons, List.not_mem_nil, or_false, not_or] at hb
        exact k3 b o hb.2 ((freeAt_ne hb.1).trans e)) fun b hb => by
        simp only [List.mem_cons, List.not_mem_nil, or_false] at hb
        rcases hb with rfl | rfl
        · exact fk n1
        · exact fa n2
    have I5 := Inv.take (t' := tk3) (o := .lst ys) (h' := h3) I4 (fun _ _ _ e => e) (fa n2) ⟨hylen, _, c, ry, n3⟩
    exact ⟨.ref _, upd H' (s.heap.objs.size + 1) (.lst ys), I5, rfl, q ys _ H' kp wy n2⟩
end
def sortKK (F : Fn) : List D → Option Opd
  | [d] => match d.seqL with
    | some ds => match keysD F ds with
      | some ks => if D.imAll ds && D.imAll ks && sortB ks then some (.new (.lst (sortBy ds ks))) else none
      | none => none
    | none => none
  | _ => none
section
variable {X : Cx} {e : Expr} {p p2 pos kpos : Pos} {Fa : SA} {F : Fn} {k j : Nat} {x qual : Str} {st : Stmt} {a : Str}
theorem Ex.sortedKey (d : DefOk X.prog X.w X.K X.mg X.base k x qual st [a] none F) (hr : Room j X.A) (hkj : k + 2 ≤ j)
    (hb : ∀ (kV doc pm : Value) (an : Option Addr) (cdv ct : Value) (us : List Value), us.length = [a].length → bindArgs (PySem.W.fnOf x qual (defArgs st) (defBody st) (defScope st) .none kV doc pm an cdv ct) ⟨us, []⟩ = pure ([a].zip us))
    (hm : X.mg "sorted" = none) (ha : Ar X [e] Fa) (hg : Gl X "sorted" := by rfl) (hgx : Gl X x := by rfl) (hdb : (x == ("__debug__" : Str)) = false := by decide)
    (he : backTo pos (starEach [e] X.env) = (false, eval e X.env) :: backTo pos (starEach [] X.env) := by rfl) (hpl : (backTo pos (starEach [e] X.env)).any (·.1) = false := by rfl)
    (hall : (backToKw pos (keywordEach [⟨some "key", .Name x p2, kpos⟩] X.env)).all (·.1.isSome) = true := by rfl) (hnone : (backToKw pos (keywordEach [⟨some "key", .Name x p2, kpos⟩] X.env)).any (·.1.isNone) = false := by rfl) (hks : (backToKw pos (keywordEach [⟨some "key", .Name x p2, kpos⟩] X.env)).filterMap (·.1) = [Str.ofString "key"] := by rfl) :
    Ex X (.Call (.Name "sorted" p) [e] [⟨some "key", .Name x p2, kpos⟩] pos) (bltE (sortKK F) Fa) := by
  obtain ⟨f, fd, F', hmx, ok⟩ := d.ex
  refine PE.imp (pe_callBK (cr_sortedF ok (hr.mono hkj) (F'.binds hb)) hg hm boot_sorted ha (pk_cons (pe_glob hgx hmx (v := .ref f) rfl hdb) pk_nil) (by decide) (by decide) he hpl hall hnone hks) fun σ H Q h => ?_
  have q := blt_elim (r := fun vs H Q => rSortF X.K f F vs [.ref f] H Q) (K := X.K) (k := sortKK F) (F := Fa) (fun G ρ σ H rs vs ds o Q R w e1 e2 hQ => ?_) h
  · exact q
  · unfold sortKK at e2
    split at e2
    · obtain ⟨r, v, rfl, rfl, o, er⟩ := ops1 w e1
      split at e2
      · rename_i ds' q
        split at e2
        · rename_i ks hks
          split at e2
          · rename_i hB
            simp only [Bool.and_eq_true] at hB
            cases e2
            obtain ⟨a', xs, rfl, h, w⟩ := o.seqL R er q
            refine ⟨a', xs, ds', ks, _, rfl, rfl, h, w, hB.1.1, hks, hB.1.2, hB.2, fun ys p H1 kp wy hp => hQ _ _ ?_⟩
            have S : Step ρ σ H ρ H1 := ⟨sameK.refl _, fun b o e _ => kp b o e⟩
            have R1 : Rel X.K G ρ σ H1 := R.ext kp
            exact PostE.trans S R1 (post_lst R1 wy hp)
          · cases e2
        · cases e2
      · cases e2
    · cases e2
end
end Mi

/-! More about running. -/
namespace Mi
open PySem PySem.Spec
open PyProof.Rows hiding St
open L2
variable {ls : List (List Int)} {ws : List Int}
theorem loopS_acc {α β : Type} {T : D → En → Option En} {F : SS} (k : α → D) (L : α → List β) (P : List β → En → Prop) : ∀ (xs : List α) (acc : List β) (ρ : En), (∀ x ∈ xs, ∀ acc ρ, P acc ρ → ∃ ρ1 ρ2, T (k x) ρ = some ρ1 ∧ F ρ1 = some (.nx ρ2) ∧ P (acc ++ L x) ρ2) → P acc ρ →
    ∃ ρ', loopS T F (xs.map k) ρ = some (.nx ρ') ∧ P (acc ++ xs.flatMap L) ρ'
  | [], acc, ρ, _, h => ⟨ρ, by simp, by simpa using h⟩
  | x :: xs, acc, ρ, hs, h => by
    obtain ⟨ρ1, ρ2, e1, e2, h2⟩ := hs x List.mem_cons_self acc ρ h
    obtain ⟨ρ', e3, h3⟩ := loopS_acc k L P xs (acc ++ L x) ρ2 (fun y hy => hs y (List.mem_cons_of_mem _ hy)) h2
    refine ⟨ρ', ?_, by rw [List.flatMap_cons, ← List.append_assoc]; exact h3⟩
    rw [List.map_cons]
    simp only [loopS, e1, e2, e3]
theorem loopS_or {T : D → En → Option En} {F : SS} (I : Nat → En → Prop) (R : Opd → En → Prop) : ∀ (ds : List D) (j : Nat) (ρ : En), (∀ k d, ds[k]? = some d → ∀ ρ, I (j + k) ρ → ∃ ρ1, T d ρ = some ρ1 ∧ ((∃ ρ2, F ρ1 = some (.nx ρ2) ∧ I (j + k + 1) ρ2) ∨ ∃ r ρ2, F ρ1 = some (.rt r ρ2) ∧ R r ρ2)) → I j ρ →
    (∃ ρ', loopS T F ds ρ = some (.nx ρ') ∧ I (j + ds.length) ρ') ∨ ∃ r ρ', loopS T F ds ρ = some (.rt r ρ') ∧ R r ρ'
  | [], j, ρ, _, h => .inl ⟨ρ, by simp, h⟩
  | d :: ds, j, ρ, hs, h => by
    obtain ⟨ρ1, e1, h1⟩ := hs 0 d rfl ρ h
    rcases h1 with ⟨ρ2, e2, h2⟩ | ⟨r, ρ2, e2, h2⟩
    · rcases loopS_or I R ds (j + 1) ρ2 (fun k d' e ρ0 h0 => by
        have q := hs (k + 1) d' (by simpa using e) ρ0 (by rw [show j + (k + 1) = j + 1 + k by omega]; exact h0)
        rw [show j + (k + 1) + 1 = j + 1 + k + 1 by omega] at q
        exact q) h2 with ⟨ρ', e3, h3⟩ | ⟨r, ρ', e3, h3⟩
      · exact .inl ⟨ρ', by simp only [loopS, e1, e2, e3], by rw [List.length_cons, show j + (ds.length + 1) = j + 1 + ds.length by omega]; exact h3⟩
      · exact .inr ⟨r, ρ', by simp only [loopS, e1, e2, e3], h3⟩
    · exact .inr ⟨r, ρ2, by simp only [loopS, e1, e2], h2⟩
def frq : Slot → Bool
  | .un => true
  | .fr _ => true
  | _ => false
theorem frq_free {s : Slot} (h : frq s = true) : free1 s = true := by cases s <;> simp_all [frq, free1]
theorem frq_plain {ρ : En} {j : Nat} {s : Slot} (e : ρ[j]? = some s) (h : frq s = true) : plainAt ρ [j] = true := by
  unfold plainAt
  simp only [List.all_cons, List.all_nil, e, Bool.and_true]
  cases s <;> simp_all [frq]
def nat_at (l : List Int) (i : Int) : Nat := ((atI l i).getD 0).toNat
theorem nat_at_ok {l : List Int} (hl : ∀ x ∈ l, 0 ≤ x) {i : Int} (h0 : 0 ≤ i) (h1 : i < l.length) : atI l i = some ((nat_at l i : Nat) : Int) := by
  obtain ⟨v, e, hv⟩ := atI_some (l := l) h0 h1
  have := hl v hv
  unfold nat_at
  rw [e]
  show _ = some _
  simp only [Option.getD_some]
  rw [Int.toNat_of_nonneg this]
theorem nat_at_mem {l : List Int} (hl : ∀ x ∈ l, 0 ≤ x) {i : Int} (h0 : 0 ≤ i) (h1 : i < l.length) : ((nat_at l i : Nat) : Int) ∈ l := by
  obtain ⟨v, e, hv⟩ := atI_some (l := l) h0 h1
  have h := nat_at_ok hl h0 h1
  rw [e] at h
  rw [← Option.some.inj h]
  exact hv
theorem ix_lot {l : List Int} (hl : ∀ x ∈ l, 0 ≤ x) {i : Int} (h0 : 0 ≤ i) (h1 : i < l.length) : ixD (lotD l) (.int i) = some (.val (.int (nat_at l i : Nat))) := by
  have := nat_at_ok hl h0 h1
  simp [ixD, lotD, atI_map, this]
theorem enum_lot {l : List Int} (hl : ∀ x ∈ l, 0 ≤ x) : enumD 0 (l.map .int) = (irange 0 l.length).map fun i => .tup [.int i, .int (nat_at l i : Nat)] := by
  refine List.ext_getElem? fun j => ?_
  rw [enumD_at, List.getElem?_map, List.getElem?_map]
  unfold irange
  rw [List.getElem?_map]
  by_cases hj : j < l.length
  · have h := nat_at_ok hl (i := (j : Int)) (by omega) (by omega)
    rw [atI_nat] at h
    rw [h, List.getElem?_range (by omega)]
    simp
  · rw [List.getElem?_eq_none (by omega), List.getElem?_eq_none (by simp; omega)]
    rfl
theorem loopC_all {own : List Nat} {T : D → En → Option En} {fe : SE} (I : En → Prop) (Pd : D → Prop) : ∀ (ds acc : List D) (ρ : En), acc.length + ds.length ≤ 16000000 → I ρ → (∀ a ∈ acc, Pd a) →
    (∀ d ∈ ds, ∀ ρ, I ρ → ∃ ρ1 r ρ3 d', T d ρ = some ρ1 ∧ fe ρ1 = some (r, ρ3) ∧ keepD r = some d' ∧ Pd d' ∧ I (wipeE own ρ3)) →
    ∃ acc' ρ', loopC own T yesT fe ds acc ρ = some (acc', ρ') ∧ I ρ' ∧ (∀ a ∈ acc', Pd a) ∧ acc'.length = acc.length + ds.length
  | [], acc, ρ, _, hI, ha, _ => ⟨acc, ρ, by simp [loopC], hI, ha, by simp⟩
  | d :: ds, acc, ρ, hz, hI, ha, h => by
    rw [List.length_cons] at hz
    obtain ⟨ρ1, r, ρ3, d', e1, e3, e4, hd, e5⟩ := h d List.mem_cons_self ρ hI
    obtain ⟨acc', ρ', q1, q2, q3, q4⟩ := loopC_all I Pd ds (acc ++ [d']) _ (by rw [List.length_append, List.length_singleton]; omega) e5 (fun a h => by
      rcases List.mem_append.mp h with h | h
      · exact ha a h
      · rw [List.mem_singleton.mp h]; exact hd) fun d' hd => h d' (List.mem_cons_of_mem _ hd)
    rw [List.length_append, List.length_singleton] at q4
    refine ⟨acc', ρ', ?_, q2, q3, by rw [List.length_cons]; omega⟩
    simp only [loopC, e1, yesT, e3, e4, if_pos (show acc.length < 16000000 by omega)]
    exact q1
theorem lst_of {F : SA} {ρ ρ1 : En} {rs : List Opd} {ds : List D} (h : F ρ = some (rs, ρ1)) (h2 : keepAll rs = some ds) (h3 : ds.length ≤ 16000000) : lstF F ρ = some (.new (.lst ds), ρ1) := by
  unfold lstF
  simp only [h, h2, if_pos h3]
theorem isi_of {T : String} {f : SE} {ρ ρ1 : En} {r : Opd} {d : D} {b : Bool} (h : f ρ = some (r, ρ1)) (hr : res ρ1 r = some d) (hn : d.nd = true) (hb : isT d.ty T = b) : isiE T f ρ = some (.val (.bl b), ρ1) := by
  unfold isiE
  simp only [h, hr, hn, if_true, hb]
theorem andV_of {f g : SE} {ρ ρ1 : En} {b c : Bool} (h : f ρ = some (.val (.bl b), ρ1)) (h2 : b = true → g ρ1 = some (.val (.bl c), ρ1)) (h3 : b = false → c = false) : andV f g ρ = some (.val (.bl c), ρ1) := by
  unfold andV
  rw [h]
  cases b with
  | true => exact h2 rfl
  | false => rw [h3 rfl]
theorem ext_of {i : Nat} {f : SE} {ρ ρ1 : En} {r : Opd} {p0 l0 p : Bool} {ds0 ds es : List D} (h0 : ρ[i]? = some (.ow p0 l0 (.lst ds0))) (h : f ρ = some (r, ρ1)) (hr : res ρ1 r = some (.lst es)) (h1 : ρ1[i]? = some (.ow p false (.lst ds))) (hz : ds.length + es.length ≤ 16000000) : extE i f ρ = some (.val .non, ρ1.set i (.ow p false (.lst (ds ++ es)))) := by
  unfold extE
  simp only [h0, h, hr, h1, if_pos hz]
theorem ints_of {P : Int → Prop} {acc : List D} (h : ∀ d ∈ acc, ∃ i : Int, d = .int i ∧ P i) : ∃ l : List Int, acc = l.map .int ∧ ∀ i ∈ l, P i := by
  refine ⟨acc.map intOf, ?_, fun x hx => ?_⟩
  · rw [List.map_map]
    refine (List.map_id _).symm.trans (List.map_congr_left fun d hd => ?_)
    obtain ⟨i, rfl, _⟩ := h d hd
    rfl
  · obtain ⟨d, hd, rfl⟩ := List.mem_map.mp hx
    obtain ⟨i, rfl, q⟩ := h d hd
    exact q
theorem enumI_lot {f : SE} {ρ : En} (hw : ∀ x ∈ ws, 0 ≤ x) (h : f ρ = some (.val (lotD ws), ρ)) : enumI (consA f nilA) ρ = some ([.val (lotD ws)], (irange 0 ws.length).map fun i => .tup [.int i, .int (nat_at ws i : Nat)], ρ) := by
  unfold enumI
  simp only [consA, h, nilA, res, D.ls, lotD, enum_lot hw]
theorem rng_nat {f : SE} {ρ ρ1 : En} {n : Nat} (h : f ρ = some (.val (.int n), ρ1)) (hn : n ≤ 16000000) : rng1I (consA f nilA) ρ = some ([], (irange 0 n).map .int, ρ1) := by
  rw [rngI_of (cons_of h rfl) (by omega) (by omega), range_ints]
theorem seq_lots {f : SE} {ρ : En} (h : f ρ = some (.val (lotsD ls), ρ)) : seqI f ρ = some ([.val (lotsD ls)], ls.map lotD, ρ) := by
  simp [seqI, h, lotsD, res]
theorem seq_lot {f : SE} {ρ : En} {l : List Int} (h : f ρ = some (.val (lotD l), ρ)) : seqI f ρ = some ([.val (lotD l)], l.map .int, ρ) := by
  simp [seqI, h, lotD, res]
theorem or_t {t u : STe} {ρ ρ1 : En} (h : t ρ = some (true, ρ1)) : orT t u ρ = some (true, ρ1) := by
  unfold orT
  rw [h]
theorem or_f {t u : STe} {ρ ρ1 : En} {o : Option (Bool × En)} (h : t ρ = some (false, ρ1)) (h2 : u ρ1 = o) : orT t u ρ = o := by
  unfold orT
  rw [h]
  exact h2
end Mi

/-! Lots: all lots of a row, by size; lots apart. -/
namespace Mi
open PySem PySem.Spec
open PyProof.Rows hiding St
open L2
/-! ### all lots -/
def growR : List Int → List (List Int)
  | [] => [[]]
  | h :: t => growR t ++ (growR t).map fun l => l ++ [h]
def grow (hs : List Int) : List (List Int) := growR hs.reverse
theorem grow_nil : grow [] = [[]] := rfl
theorem grow_snoc (hs : List Int) (h : Int) : grow (hs ++ [h]) = grow hs ++ (grow hs).map fun l => l ++ [h] := by simp [grow, growR]
theorem growR_len : ∀ r : List Int, (growR r).length = 2 ^ r.length
  | [] => rfl
  | h :: t => by
    rw [growR, List.length_append, List.length_map, growR_len t, List.length_cons, Nat.pow_succ]
    omega
theorem grow_len (hs : List Int) : (grow hs).length = 2 ^ hs.length := by rw [grow, growR_len, List.length_reverse]
theorem growR_sub : ∀ {r l : List Int}, l ∈ growR r → l.Sublist r.reverse
  | [], l, h => by
    simp only [growR, List.mem_singleton] at h
    subst h
    exact List.nil_sublist _
  | h :: t, l, hl => by
    rw [growR, List.mem_append] at hl
    rw [List.reverse_cons]
    rcases hl with hl | hl
    · exact (growR_sub hl).trans (List.sublist_append_left _ _)
    · obtain ⟨l', h', rfl⟩ := List.mem_map.mp hl
      exact List.Sublist.append (growR_sub h') (List.Sublist.refl _)
theorem grow_sub {hs l : List Int} (h : l ∈ grow hs) : l.Sublist hs := by simpa using growR_sub h
/-! ### apart -/
section
variable {ls : List (List Int)}
def apt (ls : List (List Int)) (l : List Int) : Bool := !(l.any fun a => l.any fun b => decide (a < b) && tch ls a b)
theorem apt_snoc {l : List Int} {h : Int} (hl : ∀ x ∈ l, x < h) : apt ls (l ++ [h]) = (apt ls l && !(l.any fun a => tch ls h a)) := by
  unfold apt
  rw [Bool.eq_iff_iff]
  simp only [Bool.not_eq_true', Bool.and_eq_true, List.any_eq_false, List.any_eq_true, Bool.not_eq_true, List.mem_append, List.mem_singleton, decide_eq_true_eq]
  constructor
  · intro H
    refine ⟨fun a ha => fun ⟨b, hb, z⟩ => H a (.inl ha) ⟨b, .inl hb, z⟩, fun a ha => ?_⟩
    cases q : tch ls h a with
    | false => rfl
    | true =>
      rw [tch_sym] at q
      exact absurd ⟨h, .inr rfl, hl a ha, q⟩ (H a (.inl ha))
  · rintro ⟨H1, H2⟩ a ha ⟨b, hb, h1, h2⟩
    rcases ha with ha | rfl
    · rcases hb with hb | rfl
      · exact H1 a ha ⟨b, hb, h1, h2⟩
      · rw [tch_sym, H2 a ha] at h2
        cases h2
    · rcases hb with hb | rfl
      · have := hl b hb
        omega
      · omega
/-- the lots apart, as they grow -/
def aptR (ls : List (List Int)) : List Int → List (List Int)
  | [] => [[]]
  | h :: t => aptR ls t ++ ((aptR ls t).filter fun l => !(l.any fun a => tch ls h a)).map fun l => l ++ [h]
theorem aptR_eq (ls : List (List Int)) : ∀ {r : List Int}, r.Pairwise (fun a b => b < a) → (growR r).filter (apt ls) = aptR ls r
  | [], _ => rfl
  | h :: t, hr => by
    rw [List.pairwise_cons] at hr
    have ih := aptR_eq ls hr.2
    rw [growR, List.filter_append, ih, List.filter_map, aptR]
    congr 2
    rw [← ih, List.filter_filter]
    refine List.filter_congr fun l hl => ?_
    have := apt_snoc (ls := ls) (l := l) (h := h) fun x hx => hr.1 x (by simpa using (growR_sub hl).subset hx)
    show apt ls (l ++ [h]) = _
    rw [this, Bool.and_comm]
theorem aptR_len (ls : List (List Int)) : ∀ r : List Int, (aptR ls r).length ≤ 2 ^ r.length
  | [] => by simp [aptR]
  | h :: t => by
    have := aptR_len ls t
    have := List.length_filter_le (fun l : List Int => !(l.any fun a => tch ls h a)) (aptR ls t)
    rw [aptR, List.length_append, List.length_map, List.length_cons, Nat.pow_succ]
    omega
theorem aptR_sub {r l : List Int} : l ∈ aptR ls r → l.Sublist r.reverse := by
  induction r generalizing l with
  | nil => intro h; simp only [aptR, List.mem_singleton] at h; subst h; exact List.nil_sublist _
  | cons h t ih =>
    intro hl
    rw [aptR, List.mem_append] at hl
    rw [List.reverse_cons]
    rcases hl with hl | hl
    · exact (ih hl).trans (List.sublist_append_left _ _)
    · obtain ⟨l', h', rfl⟩ := List.mem_map.mp hl
      exact List.Sublist.append (ih (List.mem_filter.mp h').1) (List.Sublist.refl _)
/-- lots within a lot -/
theorem growR_in (lot : List Int) : ∀ r : List Int, (growR r).filter (fun l => l.all fun x => decide (x ∈ lot)) = growR (r.filter fun x => decide (x ∈ lot))
  | [] => rfl
  | h :: t => by
    have ih := growR_in lot t
    rw [growR, List.filter_append, ih, List.filter_map]
    by_cases hh : h ∈ lot
    · rw [List.filter_cons_of_pos (by simpa using hh), growR]
      congr 2
      rw [← ih]
      refine List.filter_congr fun l _ => ?_
      simp [hh]
    · rw [List.filter_cons_of_neg (by simpa using hh)]
      have : (growR t).filter ((fun l : List Int => l.all fun x => decide (x ∈ lot)) ∘ fun l => l ++ [h]) = [] := by
        rw [List.filter_eq_nil_iff]
        intro l _
        simp [hh]
      rw [this]
      simp
theorem filter_sub {l hs : List Int} (h : l.Sublist hs) (n : hs.Nodup) : hs.filter (fun x => decide (x ∈ l)) = l := by
  induction h with
  | slnil => rfl
  | cons a h ih =>
    rw [List.nodup_cons] at n
    rw [List.filter_cons_of_neg (by simpa using fun z => n.1 (h.subset z)), ih n.2]
  | cons_cons a h ih =>
    rename_i l1 l2
    rw [List.nodup_cons] at n
    rw [List.filter_cons_of_pos (by simp)]
    congr 1
    refine Eq.trans (List.filter_congr fun x hx => ?_) (ih n.2)
    have : x ≠ a := fun z => n.1 (z ▸ hx)
    simp [this]
/-- the program's look at a lot -/
theorem isap_eq {l : List Int} (hl : l.Pairwise (· < ·)) (h0 : ∀ x ∈ l, 0 ≤ x) :
    ((irange 0 l.length).any fun i => (l.take i.toNat).any fun b => tch ls (nat_at l i) b) = l.any fun a => l.any fun b => decide (a < b) && tch ls a b := by
  rw [Bool.eq_iff_iff]
  simp only [List.any_eq_true, Bool.and_eq_true, decide_eq_true_eq, mem_ints]
  rw [List.pairwise_iff_getElem] at hl
  have at_ : ∀ (i : Nat) (hi : i < l.length), ((nat_at l (i : Int) : Nat) : Int) = l[i] := fun i hi => by
    have h := nat_at_ok h0 (i := (i : Int)) (by omega) (by omega)
    rw [atI_nat, List.getElem?_eq_getElem hi] at h
    exact (Option.some.inj h).symm
  constructor
  · rintro ⟨i, ⟨i0, i1⟩, b, hb, ht⟩
    obtain ⟨n, rfl⟩ := Int.eq_ofNat_of_zero_le i0
    have hn : n < l.length := by omega
    obtain ⟨j, hj, rfl⟩ := List.mem_iff_getElem.mp hb
    rw [List.length_take] at hj
    rw [List.getElem_take, at_ n hn] at ht
    have hjn : j < n := by simp at hj; omega
    exact ⟨l[j], List.getElem_mem _, l[n], List.getElem_mem _, hl j n _ _ hjn, by rw [tch_sym]; exact ht⟩
  · rintro ⟨a, ha, b, hb, hab, ht⟩
    obtain ⟨j, hj, rfl⟩ := List.mem_iff_getElem.mp ha
    obtain ⟨i, hi, rfl⟩ := List.mem_iff_getElem.mp hb
    have hji : j < i := by
      rcases Nat.lt_trichotomy j i with h | h | h
      · exact h
      · subst h; omega
      · have := hl i j hi hj h
        omega
    refine ⟨(i : Int), ⟨by omega, by omega⟩, l[j], ?_, by rw [at_ i hi, tch_sym]; exact ht⟩
    rw [List.mem_iff_getElem]
    exact ⟨j, by rw [List.length_take]; simp; omega, by rw [List.getElem_take]⟩
end
/-! ### by size -/
def szD (l : List Int) : D := .tup [.int l.length, lotD l]
def leS (a b : List Int) : Prop := leD (szD a) (szD b) = true
theorem szD_py (l : List Int) : (szD l).py = .tuple [.int l.length, .tuple (l.map .int)] := by
  show PyData.tuple (D.pyAll _) = _
  simp only [D.pyAll, py_lot]
  rfl
theorem toks_ints : ∀ {a b : List Int} {r r' : List (Int ⊕ List Nat)}, PySem.W.keyToksAll (a.map .int) ++ r = PySem.W.keyToksAll (b.map .int) ++ r' → a = b
  | [], [], _, _, _ => rfl
  | [], _ :: _, _, _, h => by simp [PySem.W.keyToksAll] at h
  | _ :: _, [], _, _, h => by simp [PySem.W.keyToksAll] at h
  | x :: a, y :: b, r, r', h => by
    simp only [List.map_cons, PySem.W.keyToksAll, PySem.W.keyToks, List.cons_append, List.nil_append, List.cons.injEq, true_and] at h
    obtain ⟨h1, h2⟩ := h
    cases h1
    rw [toks_ints h2]
theorem leD_anti {a b : D} (h1 : leD a b = true) (h2 : leD b a = true) : PySem.W.keyToks a.py = PySem.W.keyToks b.py := by
  have h1' : (!(PyProof.Rows.listOrd PyProof.Rows.itemOrd).blt (PySem.W.keyToks b.py) (PySem.W.keyToks a.py)) = true := h1
  have h2' : (!(PyProof.Rows.listOrd PyProof.Rows.itemOrd).blt (PySem.W.keyToks a.py) (PySem.W.keyToks b.py)) = true := h2
  rw [Bool.not_eq_true'] at h1' h2'
  exact (PyProof.Rows.listOrd PyProof.Rows.itemOrd).total _ _ h2' h1'
theorem leS_anti {a b : List Int} (h1 : leS a b) (h2 : leS b a) : a = b := by
  have h := leD_anti h1 h2
  rw [szD_py, szD_py] at h
  simp only [PySem.W.keyToks, PySem.W.keyToksAll, List.cons_append, List.nil_append, List.cons.injEq, true_and] at h
  obtain ⟨_, h⟩ := h
  exact toks_ints h
def lot2 : D → List Int
  | .tup [_, d] => lotOf d
  | _ => []
theorem lot2_sz (l : List Int) : lot2 (szD l) = l := lotOf_lot l
/-- lots, those of fewer hands first, then ascending -/
def bySize (ls : List (List Int)) : List (List Int) := (sortL (ls.map szD)).map lot2
theorem bySize_perm (ls : List (List Int)) : (bySize ls).Perm ls := by
  have q := (sort_perm (ls.map szD)).map lot2
  rw [List.map_map, show lot2 ∘ szD = id from funext lot2_sz, List.map_id] at q
  exact q
theorem bySize_map (ls : List (List Int)) : sortL (ls.map szD) = (bySize ls).map szD := by
  unfold bySize
  rw [List.map_map]
  refine (List.map_id _).symm.trans (List.map_congr_left fun d hd => ?_)
  obtain ⟨i, _, rfl⟩ := List.mem_map.mp ((sort_perm (ls.map szD)).mem_iff.mp hd)
  show _ = szD (lot2 (szD i))
  rw [lot2_sz]; rfl
theorem bySize_pw (ls : List (List Int)) : (bySize ls).Pairwise leS := by
  have h := sort_pw (ls.map szD)
  rw [bySize_map, List.pairwise_map] at h
  exact h
theorem bySize_uniq {o ls : List (List Int)} (p : o.Perm ls) (h : o.Pairwise leS) : o = bySize ls :=
  List.Perm.eq_of_pairwise (le := leS) (fun a b _ _ h1 h2 => leS_anti h1 h2) h (bySize_pw ls) (p.trans (bySize_perm ls).symm)
theorem bySize_congr {l1 l2 : List (List Int)} (p : l1.Perm l2) : bySize l1 = bySize l2 := bySize_uniq ((bySize_perm l1).trans p) (bySize_pw l1)
theorem bySize_filter (p : List Int → Bool) (ls : List (List Int)) : (bySize ls).filter p = bySize (ls.filter p) := bySize_uniq ((bySize_perm ls).filter p) ((bySize_pw ls).sublist List.filter_sublist)
theorem sortBy_sz (ls : List (List Int)) : sortBy (ls.map lotD) (ls.map szD) = (bySize ls).map lotD := by
  unfold sortBy
  have e : (ls.map lotD).zip (ls.map szD) = ls.map fun l => (lotD l, szD l) := by
    induction ls with
    | nil => rfl
    | cons l ls ih => simp [ih]
  rw [e]
  have hle : PySem.W.TotalLe (PySem.W.dataLe false fun p : D × D => p.2.py) := PySem.W.sortLe_total (PyProof.Rows.listOrd PyProof.Rows.itemOrd) false fun b : D × D => PySem.W.keyToks b.2.py
  have perm := List.mergeSort_perm (ls.map fun l => (lotD l, szD l)) (PySem.W.dataLe false fun p : D × D => p.2.py)
  have pw := List.pairwise_mergeSort (le := PySem.W.dataLe false fun p : D × D => p.2.py) hle.trans (fun a b => Bool.or_eq_true_iff.mpr (hle.total a b)) (ls.map fun l => (lotD l, szD l))
  generalize (ls.map fun l => (lotD l, szD l)).mergeSort (PySem.W.dataLe false fun p : D × D => p.2.py) = out at perm pw ⊢
  have back : out = (out.map fun p => lotOf p.1).map fun l => (lotD l, szD l) := by
    rw [List.map_map]
    refine (List.map_id _).symm.trans (List.map_congr_left fun d hd => ?_)
    obtain ⟨i, _, rfl⟩ := List.mem_map.mp (perm.mem_iff.mp hd)
    show _ = (lotD (lotOf (lotD i)), szD (lotOf (lotD i)))
    rw [lotOf_lot]; rfl
  have p2 : (out.map fun p => lotOf p.1).Perm ls := by
    have q := perm.map fun p : D × D => lotOf p.1
    rw [List.map_map, show ((fun p : D × D => lotOf p.1) ∘ fun l => (lotD l, szD l)) = id from funext lotOf_lot, List.map_id] at q
    exact q
  have pw2 : (out.map fun p => lotOf p.1).Pairwise leS := by
    rw [back, List.pairwise_map] at pw
    exact pw
  rw [← bySize_uniq p2 pw2]
  conv => lhs; rw [back]
  rw [List.map_map, List.map_map, List.map_map]
  rfl
theorem gd_sz (l : List Int) : Gd 2 (szD l) := Gd.tup fun d h => by
  simp only [List.mem_cons, List.not_mem_nil, or_false] at h
  rcases h with rfl | rfl
  · exact (Gd.int (n := 0) _).mono (by omega)
  · exact gd_lot l
theorem sortB_sz (l : List (List Int)) (h : l.length ≤ 16000000) : sortB (l.map szD) = true := by
  unfold sortB
  simp only [Bool.and_eq_true, Bool.or_eq_true, List.all_eq_true, decide_eq_true_eq, List.length_map]
  refine ⟨⟨⟨fun a ha b hb => ?_, .inl fun a ha => ?_⟩, fun a ha => ?_⟩, h⟩
  · obtain ⟨i, _, rfl⟩ := List.mem_map.mp ha
    obtain ⟨j, _, rfl⟩ := List.mem_map.mp hb
    rw [szD_py, szD_py]
    have := PySem.W.alike_ints i j
    simp only [PySem.W.alike, PySem.W.alikeAll, this, Bool.true_and, Bool.and_true]
  · obtain ⟨i, hi, rfl⟩ := List.mem_map.mp ha
    rfl
  · obtain ⟨i, _, rfl⟩ := List.mem_map.mp ha
    have g := gd_sz i
    have := g.dp
    exact ⟨g.nd, by omega⟩
end Mi

/-! More steps. -/
namespace Mi
open PySem PySem.Spec
open PyProof.Rows hiding St
open L2
theorem cut_to {α : Type} (xs : List α) {i : Int} (h : 0 ≤ i) : cutL xs none (some i) = xs.take i.toNat := by
  unfold cutL HT.sIx
  simp only [if_neg (show ¬ i < 0 by omega), List.drop_zero, Nat.sub_zero]
  by_cases z : i.toNat ≤ xs.length
  · rw [Nat.min_eq_left z]
  · rw [Nat.min_eq_right (by omega), List.take_length, List.take_of_length_le (by omega)]
theorem any_of {α : Type} (xs : List α) (p : α → Bool) : anyK [.lst (xs.map fun x => .bl (p x))] = some (.val (.bl (xs.any p))) := by
  rw [bl_list]
  simp only [anyK, D.seqL, blsD_map, Option.map_some, List.any_map]
  rfl
theorem all_of {α : Type} (xs : List α) (p : α → Bool) : allK [.lst (xs.map fun x => .bl (p x))] = some (.val (.bl (xs.all p))) := by
  rw [bl_list]
  simp only [allK, D.seqL, blsD_map, Option.map_some, List.all_map]
  rfl
/-- no ones -/
theorem noes_ok {α : Type} (l : List α) (p : α → Bool) : eqK (.lst ((l.filter p).map fun _ => .int 1)) (.lst []) = some (!l.any p) := by
  have ok1 : (D.lst ((l.filter p).map fun _ => D.int 1)).okE = true := (Gd.lst (n := 0) fun d hd => by
    obtain ⟨_, _, rfl⟩ := List.mem_map.mp hd
    exact .int 1).okE
  unfold eqK
  rw [ok1, okE_nilL, eqD_lstN, isEmpty_filter]
  simp
theorem andT_of {t u : STe} {ρ ρ1 : En} {a b : Bool} (h : t ρ = some (a, ρ1)) (h2 : a = true → u ρ1 = some (b, ρ1)) : andT t u ρ = some (a && b, ρ1) := by
  unfold andT
  rw [h]
  cases a with
  | true => simp only [h2 rfl, Bool.true_and]
  | false => rfl
theorem orT_of {t u : STe} {ρ ρ1 : En} {a b : Bool} (h : t ρ = some (a, ρ1)) (h2 : a = false → u ρ1 = some (b, ρ1)) : orT t u ρ = some (a || b, ρ1) := by
  unfold orT
  rw [h]
  cases a with
  | false => simp only [h2 rfl, Bool.false_or]
  | true => rfl
theorem add_tup {a b : List D} (h : a.length + b.length ≤ 16000000) : addD (.tup a) (.tup b) = some (.val (.tup (a ++ b))) := by
  simp only [addD]
  rw [if_pos h]
theorem add_lst {a b : List D} (h : a.length + b.length ≤ 16000000) : addD (.lst a) (.lst b) = some (.new (.lst (a ++ b))) := by
  simp only [addD]
  rw [if_pos h]
theorem lk_lots (l : List (List Int)) : (lotsD l).lk = true := by
  simp only [lotsD, D.lk]
  induction l with
  | nil => rfl
  | cons a l ih => simp [D.lkAll, lk_lot, ih]
theorem sz_lots : ∀ (l : List (List Int)) (n : Nat), (∀ x ∈ l, x.length ≤ n) → D.szAll (l.map lotD) ≤ l.length * (n + 1)
  | [], _, _ => by simp [D.szAll]
  | a :: l, n, h => by
    have h1 := h a List.mem_cons_self
    have h2 := sz_lots l n fun x hx => h x (List.mem_cons_of_mem _ hx)
    simp only [List.map_cons, D.szAll, sz_lot, List.length_cons]
    have : (l.length + 1) * (n + 1) = l.length * (n + 1) + (n + 1) := Nat.succ_mul _ _
    omega
theorem like_lots (l : List (List Int)) (h : l.length ≤ 1000) (hl : ∀ x ∈ l, x.length ≤ 60) : f_law_like [lotsD l, lotsD l] = some (false, .bl true, .non) := by
  refine like_ok _ (lk_lots l) ((gd_lots l).mono (by omega)) ?_
  have h1 := sz_lots l 60 hl
  have h2 : (lotsD l).sz = D.szAll (l.map lotD) + 1 := by simp [lotsD, D.sz]
  omega
theorem seq_slot {i : Nat} {ρ : En} {p l : Bool} {ds : List D} (h : ρ[i]? = some (.ow p l (.lst ds))) : seqI (varF i) ρ = some ([.slot i], ds, ρ) := by
  unfold seqI varF
  simp only [h, res]
theorem seq_new {f : SE} {ρ ρ1 : En} {ds : List D} (h : f ρ = some (.new (.lst ds), ρ1)) : seqI f ρ = some ([.new (.lst ds)], ds, ρ1) := by
  unfold seqI
  simp only [h, res]
end Mi

/-! Dicts: d[k] = v, {k: v}; names op= numbers. -/
namespace Mi
open PySem PySem.Spec
open PyProof.Rows hiding St
open L2

/-! ### d[k] = v -/
/-- d[k] = e, d in the slot s -/
def itemDS (s : Nat) (fi f : SE) : SS := fun ρ => match f ρ with
  | none => none
  | some (r, ρ1) => match keepD r with
    | none => none
    | some d => match ρ1[s]? with
      | some (.ow _ _ (.dic _ _)) => (match fi ρ1 with
        | none => none
        | some (ri, ρ2) => match res ρ2 ri, ρ2[s]? with
          | some k, some (.ow p false (.dic t kvs)) => if isKey t k && decide (kvs.length < 16000000) then some (.nx (ρ2.set s (.ow p false (.dic t (putD t kvs k d))))) else none
          | _, _ => none)
      | _ => none
section
variable {K : PySem.W.Frag} {G : Fr} {ρ : En} {σ : St} {H : Hp} {i : Nat} {p l : Bool} {t : Bool} {kvs : List (D × D)} {a : Addr}
theorem Rel.dicSlot (R : Rel K G ρ σ H) (e : ρ[i]? = some (.ow p l (.dic t kvs))) : ∃ a, σ[i]? = some (some (.ref a)) := by
  obtain ⟨a, s, w⟩ := R.ow i p l _ e
  exact ⟨a, s⟩
/-- what is put into an own dict -/
theorem Rel.dicPut {k d : D} {y v : V} (R : Rel K G ρ σ H) (e : ρ[i]? = some (.ow p false (.dic t kvs))) (s : σ[i]? = some (some (.ref a))) (hk : Rep K H NoA y k) (hv : Rep K H (Av G ρ σ) v d) (ok : isKey t k = true) (hz : kvs.length < 16000000) :
    ∃ H', DPut H a y v H' ∧ PostS K G ρ σ H (ρ.set i (.ow p false (.dic t (putD t kvs k d)))) σ H' := by
  obtain ⟨a', s', w⟩ := R.ow i p false _ e
  rw [s] at s'
  cases s'
  have hl : ∀ n : Nat, n < 16000000 → n < sizeLine := fun n h => Nat.lt_of_lt_of_le h (szl (Nat.le_refl _))
  cases w with
  | dk h r =>
    rename_i kv0
    unfold isKey at ok
    obtain ⟨kk, e2⟩ := Option.isSome_iff_exists.mp ok
    have z := key_toKey e2
    subst z
    have y' := keyV_rep hk
    subst y'
    refine ⟨_, DPut.k h (by rw [r.length]; exact hl _ hz), ?_⟩
    have g : Goes H (L2.upd H a (.dK (putK kv0 kk v))) (Av G ρ σ) (Av G ρ σ) := goes_wr (.inr ⟨i, p, false, _, e, s⟩) fun u eu => by rw [h] at eu; cases eu; rfl
    obtain ⟨R2, S2⟩ := R.write (d' := .dic false (putD false kvs (keyD kk) d)) e s (.dk upd_same ((r.put hv kk).go g))
    exact S2.post R2
  | dt h r =>
    rename_i kv0
    cases k with
    | tup ds =>
      obtain ⟨kk, e2⟩ := Option.isSome_iff_exists.mp (show (toKeys ds).isSome = true from ok)
      have z := map_toKeys e2
      subst z
      cases hk with
      | tup hb wk =>
        rw [keysV_rep wk] at hb
        refine ⟨_, DPut.t h hb (by rw [r.length]; exact hl _ hz), ?_⟩
        have g : Goes H (L2.upd H a (.dT (putK kv0 kk v))) (Av G ρ σ) (Av G ρ σ) := goes_wr (.inr ⟨i, p, false, _, e, s⟩) fun u eu => by rw [h] at eu; cases eu; rfl
        obtain ⟨R2, S2⟩ := R.write (d' := .dic true (putD true kvs (.tup (kk.map keyD)) d)) e s (.dt upd_same ((r.put hv kk).go g))
        exact S2.post R2
    | _ => exact absurd ok (by simp [isKey])
end
section
variable {X : Cx} {o i e : Expr} {f fi : SE} {pos tpos : Pos}
theorem Sx.itemD {s : Nat} (hu : X.A.units + 1 < cLine) (ho : PE X o (tVar s)) (hi : Ex X i fi) (he : Ex X e f) (hs : swapsWithSole [.Subscript o i tpos] e pos.line X.env = pure false := by rfl) (hw : swappedStores [.Subscript o i tpos] e X.env = pure none := by rfl)
    (h1 : (assignEach [.Subscript o i tpos] X.env).map (·.2) = [assign (.Subscript o i tpos) X.env] := by rfl)
    (ha : ∀ v, assign (.Subscript o i tpos) X.env v = (do
      let ov ← holding [v] (eval o X.env)
      let iv ← holding [v, ov] (eval i X.env)
      standAt tpos
      holding [v, ov, iv] (setItem ov iv v)
      release [v, ov, iv] []) := by intro _; rfl) : Sx X (.Assign [.Subscript o i tpos] e pos) (itemDS s fi f) := PS.imp (ps_asg he (pg_sub ho hi (set_dict hu) ha) hs hw h1) fun D σ H ⟨G, ρ, ot, R, hf, hD⟩ => by
  unfold itemDS at hf
  split at hf
  · cases hf
  rename_i r ρ1 e1
  split at hf
  · cases hf
  rename_i d e2
  split at hf
  · rename_i p0 l0 t0 kvs0 e3
    split at hf
    · cases hf
    rename_i ri ρ2 e4
    split at hf
    · rename_i k p t kvs e5 e6
      split at hf
      · rename_i hk
        simp only [Bool.and_eq_true, decide_eq_true_eq] at hk
        cases hf
        refine ⟨G, ρ, r, ρ1, R, e1, fun v H1 P => ?_⟩
        have R1 : Rel X.K (G.plus r v) ρ1 σ H1 := P.relP
        obtain ⟨a0, s0⟩ := R1.dicSlot e3
        refine ⟨.ref a0, s0, G.plus r v, ρ1, ri, ρ2, R1, e4, fun w H2 P2 => ?_⟩
        have R2 : Rel X.K (G.plus r v) ρ2 σ H2 := P2.rel
        have wk : Rep X.K H2 NoA w k := (P2.ok R1).unplus.rep R2.unplus e5
        have wv : Rep X.K H2 (Av G ρ2 σ) v d := (P.later R P2.step).kept e2
        have S12 : Step ρ σ H ρ2 H2 := P.step.trans P2.step
        obtain ⟨H3, hp, hpost⟩ := R2.unplus.dicPut e6 s0 wk wv hk.1 hk.2
        exact ⟨a0, H3, rfl, hp, hD σ _ ((S12.post R2.unplus).trans hpost)⟩
      · cases hf
    · cases hf
  · cases hf
end

/-! ### {k: v} -/
/-- {k: v}, the key a tuple -/
def tDispT1 (tk tv : TE) : TE := fun σ H Q => ∀ p, H p = none → tPairs [(tk, tv)] σ (upd H p (.dT [])) fun ps H2 => ∃ y v b k, ps = [(y, v)] ∧ y = .ref b ∧ H2 b = some (.tup (k.map kV)) ∧ H2 p = some (.dT []) ∧ Q (.ref p) (upd H2 p (.dT (putK [] k v)))
theorem pe_dispT1 {X : Cx} {pos : Pos} {ke ve : Expr} {tk tv : TE} (hu : X.A.units + 1 < cLine) (hk : PE X ke tk) (hv : PE X ve tv) : PE X (.Dict [some ke] [ve] pos) (tDispT1 tk tv) := by
  refine ⟨fun pins s σ H Q I q => ?_⟩
  have hn := I.hok.fresh (Nat.le_refl s.heap.objs.size)
  have I1 := I.laid (a := s.heap.objs.size) (o := .dT []) (h' := s.heap.push { cls := .type "dict", data := .dict #[] }) (t' := s.toks) (fun _ _ q => Heap.get?_push_of_some _ q) (Nat.le_refl _) (dt_empty s.heap I.big)
  refine wpAny_Dict_any rfl rfl (by simp) (by simp) ?_
  refine wpAny_mono ((pps_cons hk hv pps_nil : PPs X pos [some ke] [ve] [(tk, tv)]).run pins _ σ _ _ I1 (q _ hn)) (fun ws s2 h2 => ?_) fun _ _ z => z
  obtain ⟨ps, H2, I2, rel, y, v, b, k, rfl, rfl, eb, ep, q2⟩ := h2
  cases rel with
  | cons h t =>
    cases t
    rename_i pr
    obtain ⟨u, r⟩ := pr
    obtain ⟨ry, rv⟩ := h
    cases (show u = Value.ref b from ry)
    obtain ⟨z, hd, xs, rel, dd⟩ := dt_of I2.hok ep
    have hz : xs.length ≤ sizeLine := by rw [← Paired.length rel]; exact z
    have hl : (putK ([] : List (List Key × V)) k v).length ≤ sizeLine := by
      have := length_putK ([] : List (List Key × V)) k v
      rw [sizeLine_eq]
      simp at this
      omega
    unfold storeAll
    rw [List.forIn_cons]
    refine wpAny_bind (wpAny_bind (wpAny_dictSet_heap (hsz := hz) (Nat.lt_of_succ_lt hu) (key_of I2.hok eb) dd fun h' dd' hs => wpAny_pure ?_))
    show wpAny _ _ (forIn [] PUnit.unit _) _ _ _
    rw [List.forIn_nil]
    refine wpAny_pure ⟨.ref _, _, ?_, rfl, q2⟩
    obtain ⟨qo, es, epo, hq, h2, h3, h4, _, h5⟩ := dd'
    refine d_write I2 (by rw [ep]; exact True.intro) hs ⟨qo, hq⟩ ⟨hl, hd, _, (rel.put k eb rv).keeps fun c ys ec => ?_, qo, es, epo, hq, h2, h3, h4, h5⟩
    rw [upd_ne (ne_of ec ep (fun z => nomatch z))]
    exact ec

/-! ### a name, made more -/
def augS (k : Int → Int → Int) (i : Nat) (f : SE) : SS := fun ρ => match ρ[i]? with
  | some (.fr (.int a)) => (match f ρ with
    | some (r, ρ1) => match res ρ1 r with
      | some (.int b) => (asgn i (.val (.int (k a b))) ρ1).map .nx
      | _ => none
    | none => none)
  | _ => none
theorem Sx.aug {X : Cx} {i : Nat} {x : Str} {e : Expr} {f : SE} {op : Operator} {k : Int → Int → Int} {pos pos' : Pos} (hN : X.N.Nodup) (hi : X.N[i]? = some x) (hx : Loc X.env.scope x) (he : Ex X e f) (ho : PIp X op (ipI k)) (hf : X.fn x = true ∨ X.env.scope.names.lookup x = some .local := by first | exact .inl rfl | exact .inr rfl | assumption) :
    Sx X (.AugAssign (.Name x pos') op e pos) (augS k i f) := PS.imp (ps_aug hN hi hx he ho hf) fun D σ H ⟨G, ρ, o, R, h, hD⟩ => by
  unfold augS at h
  split at h
  · rename_i a e0
    split at h
    · rename_i r ρ1 e1
      split at h
      · rename_i b e2
        obtain ⟨v, hv, wv⟩ := R.fr i _ e0
        cases wv
        refine ⟨_, hv, G, ρ, r, ρ1, R, e1, fun y H1 P => ?_⟩
        have ey := (P.ok R).int P.rel e2
        subst ey
        refine ⟨a, b, rfl, rfl, ?_⟩
        cases q : asgn i (.val (.int (k a b))) ρ1 with
        | none => rw [q] at h; cases h
        | some ρ' =>
          rw [q] at h
          cases h
          obtain ⟨h1, h2, h3⟩ := Rel.asgn (r := .val (.int (k a b))) (v := .int (k a b)) P.rel (fun p ⟨d', e⟩ => by cases e) (.int _) q
          have S := P.step.post P.rel
          exact hD _ H1 ⟨h1, S.keep, fun a z => (h2 a z).elim (S.own a) (fun y => by obtain ⟨⟨d', e⟩, _⟩ := y; cases e), fun a z => (h3 a z).elim (S.wr a) (fun y => by obtain ⟨⟨d', e⟩, _⟩ := y; cases e), S.dom⟩
      · cases h
    · cases h
  · cases h
end Mi

/-! {k: v}, the key a tuple; a module's constants. -/
namespace Mi
open PySem PySem.Spec
open PyProof.Rows hiding St
open L2
section
variable {K : PySem.W.Frag} {G : Fr} {ρ : En} {σ : St} {H : Hp} {p : Addr}
/-- what is avoided may change -/
theorem Rel.updO {u o : HO} (R : Rel K (G.add p) ρ σ H) (hn : ∀ (i : Nat) (q l : Bool) (d : D), ρ[i]? = some (.ow q l d) → σ[i]? ≠ some (some (.ref p))) (e : H p = some u) (nt : tupO u = false) : Rel K (G.add p) ρ σ (L2.upd H p o) := by
  have g : Goes H (L2.upd H p o) (Av (G.add p) ρ σ) (Av (G.add p) ρ σ) := goes_wr (.inl (.inr rfl)) fun u' eu => by rw [e] at eu; cases eu; exact nt
  refine ⟨R.len, fun i d e1 => ?_, fun i q l d e1 => ?_, R.inj, R.pin, fun a z => ?_, R.dj⟩
  · obtain ⟨v, s, r⟩ := R.fr i d e1
    exact ⟨v, s, r.go g⟩
  · obtain ⟨a, s, r⟩ := R.ow i q l d e1
    have ha : a ≠ p := fun z => hn i q l d e1 (by rw [s, z])
    exact ⟨a, s, r.go g fun u' eu => by rw [upd_ne ha]; exact eu⟩
  · by_cases z2 : a = p
    · rw [z2, upd_same]; simp
    · rw [upd_ne z2]; exact R.dom a z
end
/-- {k: v} -/
def disp1 (fk fv : SE) : SE := two fk fv fun r1 r2 ρ => match res ρ r1, keepD r2 with
  | some k, some d => if isKey true k then some (.new (.dic true [(k, d)]), ρ) else none
  | _, _ => none
theorem Ex.disp1 {X : Cx} {pos : Pos} {ke ve : Expr} {fk fv : SE} (hu : X.A.units + 1 < cLine) (hk : Ex X ke fk) (hv : Ex X ve fv) : Ex X (.Dict [some ke] [ve] pos) (disp1 fk fv) :=
  PE.imp (pe_dispT1 hu hk hv) fun σ H Q ⟨G, ρ, r, ρ', R, hf, hQ⟩ => by
    intro p hp
    have R0 : Rel X.K (G.add p) ρ σ (upd H p (.dT [])) := R.updA hp
    refine two_elim (R := fun x y H2 => (fun ps H2 => ∃ y v b k, ps = [(y, v)] ∧ y = V.ref b ∧ H2 b = some (.tup (k.map kV)) ∧ H2 p = some (.dT []) ∧ Q (.ref p) (upd H2 p (.dT (putK [] k v)))) [(x, y)] H2) R0 hf fun r1 r2 ρ2 x y H2 e S R2 o1 o2 => ?_
    split at e
    · rename_i k d e1 e2
      split at e
      · rename_i hkey
        cases e
        have wk := o1.rep R2 e1
        have wv := o2.kept e2
        cases k with
        | tup ds =>
          obtain ⟨kk, e3⟩ := Option.isSome_iff_exists.mp (show (toKeys ds).isSome = true from hkey)
          have z := map_toKeys e3
          subst z
          cases wk with
          | tup hb w =>
            rename_i b xs
            rw [keysV_rep w] at hb
            have nO : ¬ Owned ρ σ p := fun z => by
              obtain ⟨o, e, _⟩ := R.owned z
              rw [hp] at e; cases e
            have ep : H2 p = some (.dT []) := S.keep p _ upd_same fun z => nO z.owned
            refine ⟨_, y, b, kk, rfl, rfl, hb, ep, hQ _ _ ?_⟩
            have hno : ∀ (i : Nat) (q l : Bool) (d : D), ρ'[i]? = some (.ow q l d) → σ[i]? ≠ some (some (.ref p)) := fun i q l d e1 e2 => by
              obtain ⟨d0, e0⟩ := S.sk.wo e1
              exact nO ⟨i, q, l, d0, e0, e2⟩
            have R3 : Rel X.K (G.add p) ρ' σ (upd H2 p (.dT (putK [] kk y))) := R2.updO hno ep rfl
            refine ⟨⟨S.sk, fun b' o eb n => ?_⟩, p, rfl, hp, R3, ?_⟩
            · have hb' : b' ≠ p := fun z => by rw [z, hp] at eb; cases eb
              rw [upd_ne hb']
              exact S.keep b' o (by rw [upd_ne hb']; exact eb) n
            · have g : Goes H2 (upd H2 p (.dT (putK [] kk y))) (Av (G.add p) ρ' σ) (Av (G.add p) ρ' σ) := goes_wr (.inl (.inr rfl)) fun u' eu => by rw [ep] at eu; cases eu; rfl
              exact .dt upd_same (RepT.cons (wv.go g) .nil)
        | _ => exact absurd hkey (by simp [isKey])
      · cases e
    · cases e
/-- a module's number, a module's row of numbers -/
theorem globI {K : PySem.W.Frag} {h : Heap} {mg : Str → Option Value} {x : Str} {i : Int} {t : Tok} (X : K.In h) (G : h.Ns mainGlobals mg) (a : PySem.W.nsIn K mainGlobals x = some (some (.int i t))) : GlobC K mg x (.int i) :=
  ⟨.int i, .int i t, PySem.W.mg_of X G a, ⟨t, rfl⟩, fun _ _ => .int i⟩
theorem globT2 {K : PySem.W.Frag} {h : Heap} {mg : Str → Option Value} {x : Str} {i j : Int} {t u : Tok} {p : Addr} {od : Option Addr} {n : Nat} {sl : Array (Option Value)} (X : K.In h) (G : h.Ns mainGlobals mg)
    (a : PySem.W.nsIn K mainGlobals x = some (some (.ref p))) (l : K.lookup p = some ⟨.type "tuple", od, .seq #[.int i t, .int j u] n, sl⟩) : GlobC K mg x (.kt [.int i, .int j]) :=
  ⟨.ref p, .ref p, PySem.W.mg_of X G a, rfl, fun _ _ => .kt (xs := [V.int i, V.int j]) ⟨_, #[.int i t, .int j u], n, l, rfl, rfl, by simp [sizeLine_eq], show Vals [V.int i, V.int j] [.int i t, .int j u] from .cons (show RelV (.int i) (.int i t) from ⟨t, rfl⟩) (.cons (show RelV (.int j) (.int j u) from ⟨u, rfl⟩) .nil)⟩ (.cons (.int i) (.cons (.int j) .nil))⟩
end Mi

/-! What the defs of the sums mean. -/
namespace Mi
open PySem PySem.Spec
open PyProof.Rows hiding St
open L2
def n_common_divisor_1 : En → Nat := fun ρ => match (ρ[1]? : Option Slot) with
  | some (Slot.fr (D.int j)) => j.natAbs + 1
  | _ => 0
def b_common_divisor : SS :=
    seqS (whileS n_common_divisor_1 (ofV (bin2 (cmpV neK) (varF 1) (valF (.int 0)))) (parS [0, 1] (consA (varF 1) (consA (bin2 (iiD modI) (varF 0) (varF 1)) (nilA)))))
    (retS (varF 0))
def f_common_divisor : Fn := fnD 2 none b_common_divisor
def b_lowest : SS :=
    seqS (ifS (ofV (bin2 (cmpV eqK) (varF 1) (valF (.int 0)))) (neverS) (skipS))
    (seqS (setS 2 (callE none f_common_divisor (consA (bltE absK (consA (varF 0) (nilA))) (consA (bltE absK (consA (varF 1) (nilA))) (nilA)))))
    (seqS (ifS (ofV (bin2 (cmpV ltD) (varF 1) (valF (.int 0)))) (setS 2 (bin2 (iiD subI) (valF (.int 0)) (varF 2))) (skipS))
    (retS (tupF (consA (bin2 (iiD divI) (varF 0) (varF 2)) (consA (bin2 (iiD divI) (varF 1) (varF 2)) (nilA)))))))
def f_lowest : Fn := fnD 3 none b_lowest
def b_minus : SS :=
    retS (callE none f_lowest (consA (bin2 (iiD subI) (bin2 (iiD mulI) (bin2 ixD (varF 0) (valF (.int 0))) (bin2 ixD (varF 1) (valF (.int 1)))) (bin2 (iiD mulI) (bin2 ixD (varF 1) (valF (.int 0))) (bin2 ixD (varF 0) (valF (.int 1))))) (consA (bin2 (iiD mulI) (bin2 ixD (varF 0) (valF (.int 1))) (bin2 ixD (varF 1) (valF (.int 1)))) (nilA))))
def f_minus : Fn := fnD 2 none b_minus
def b_times : SS :=
    retS (callE none f_lowest (consA (bin2 (iiD mulI) (bin2 ixD (varF 0) (valF (.int 0))) (bin2 ixD (varF 1) (valF (.int 0)))) (consA (bin2 (iiD mulI) (bin2 ixD (varF 0) (valF (.int 1))) (bin2 ixD (varF 1) (valF (.int 1)))) (nilA))))
def f_times : Fn := fnD 2 none b_times
def b_chances_of : SS :=
    retS (bltE tupK (consA (compE [1] (seqI (varF 0)) (nameT 1) (yesT) (tupF (consA (valF (.int 1)) (consA (varF 1) (nilA))))) (nilA)))
def f_chances_of : Fn := fnD 2 none b_chances_of
def b_lot_order : SS :=
    retS (tupF (consA (bltE lenK (consA (varF 0) (nilA))) (consA (varF 0) (nilA))))
def f_lot_order : Fn := fnD 1 none b_lot_order
def b_lots_of : SS :=
    seqS (setS 1 (lstF (consA (tupF (nilA)) (nilA))))
    (seqS (forS (rng1I (consA (varF 0) (nilA))) (nameT 2) (dropS (extE 1 (compE [3] (seqI (varF 1)) (nameT 3) (yesT) (bin2 addD (varF 3) (tupF (consA (varF 2) (nilA))))))))
    (retS (bltE tupK (consA (bltE (sortKK f_lot_order) (consA (varF 1) (nilA))) (nilA)))))
def f_lots_of : Fn := fnD 4 none b_lots_of
def b_without : SS :=
    retS (bltE tupK (consA (compE [2] (seqI (varF 0)) (nameT 2) (ofV (bin2 (cmpV notInD) (varF 2) (varF 1))) (varF 2)) (nilA)))
def f_without : Fn := fnD 3 none b_without
def b_sums_within : SS :=
    seqS (parS [2, 3] (consA (compE [5] (rng1I (consA (bin2 ixD (varF 0) (valF (.int 0))) (nilA))) (nameT 5) (yesT) (callE none f_touching (consA (varF 0) (consA (varF 5) (nilA))))) (consA (disp1 (tupF (nilA)) (valF (.kt [.int 1, .int 1]))) (nilA))))
    (seqS (forS (seqI (slF (callE none f_lots_of (consA (bin2 ixD (varF 0) (valF (.int 0))) (nilA))) (some (valF (.int 1))) none)) (nameT 4) (seqS (setS 5 (bin2 ixD (varF 4) (valF (.int 0))))
    (seqS (setS 6 (callE none f_times (consA (bin2 ixD (varF 1) (varF 5)) (consA (bin2 ixD (varF 3) (callE none f_without (consA (varF 4) (consA (bin2 ixD (varF 2) (varF 5)) (nilA))))) (nilA)))))
    (itemDS 3 (varF 4) (callE none f_minus (consA (bin2 ixD (varF 3) (slF (varF 4) (some (valF (.int 1))) none)) (consA (varF 6) (nilA))))))))
    (retS (varF 3)))
def f_sums_within : Fn := fnD 7 none b_sums_within
def b_alt_sum : SS :=
    retS (bin2 ixD (callE none f_sums_within (consA (varF 0) (consA (varF 1) (nilA)))) (varF 2))
def f_alt_sum : Fn := fnD 3 none b_alt_sum
def b_law_pick : SS :=
    retS (bin2 ixD (varF 1) (callE (some 0) f_law_take (consA (varF 0) (consA (bltE lenK (consA (varF 1) (nilA))) (nilA)))))
def f_law_pick : Fn := fnD 2 (some 0) b_law_pick
def b_law_lots : SS :=
    seqS (setS 1 (lstF (consA (tupF (nilA)) (nilA))))
    (seqS (forS (rng1I (consA (varF 0) (nilA))) (nameT 2) (setS 1 (bin2 addD (varF 1) (compE [4] (seqI (varF 1)) (nameT 4) (yesT) (bin2 addD (varF 4) (tupF (consA (varF 2) (nilA))))))))
    (retS (compE [3] (seqI (bltE sortK (consA (compE [4] (seqI (varF 1)) (nameT 4) (yesT) (tupF (consA (bltE lenK (consA (varF 4) (nilA))) (consA (varF 4) (nilA))))) (nilA)))) (nameT 3) (yesT) (bin2 ixD (varF 3) (valF (.int 1))))))
def f_law_lots : Fn := fnD 5 none b_law_lots
def b_law_apart : SS :=
    retS (bin2 (cmpV eqK) (compE [2] (seqI (varF 1)) (nameT 2) (ofV (bin2 (cmpV neK) (compE [3] (seqI (varF 1)) (nameT 3) (andT (ofV (bin2 (cmpV ltD) (varF 2) (varF 3))) (truT (callE none f_law_touch (consA (varF 0) (consA (varF 2) (consA (varF 3) (nilA))))))) (valF (.int 1))) (lstF (nilA)))) (valF (.int 1))) (lstF (nilA)))
def f_law_apart : Fn := fnD 4 none b_law_apart
def n_law_gcd_1 : En → Nat := fun ρ => match (ρ[1]? : Option Slot) with
  | some (Slot.fr (D.int j)) => j.natAbs + 1
  | _ => 0
def b_law_gcd : SS :=
    seqS (whileS n_law_gcd_1 (ofV (bin2 (cmpV neK) (varF 1) (valF (.int 0)))) (parS [0, 1] (consA (varF 1) (consA (bin2 (iiD modI) (bltE intK (consA (varF 0) (nilA))) (varF 1)) (nilA)))))
    (retS (varF 0))
def f_law_gcd : Fn := fnD 2 none b_law_gcd
def b_law_part : SS :=
    seqS (ifS (ofV (bin2 (cmpV ltD) (varF 1) (valF (.int 0)))) (parS [0, 1] (consA (bin2 (iiD subI) (valF (.int 0)) (varF 0)) (consA (bin2 (iiD subI) (valF (.int 0)) (varF 1)) (nilA)))) (skipS))
    (seqS (setS 2 (callE none f_law_gcd (consA (bltE absK (consA (varF 0) (nilA))) (consA (varF 1) (nilA)))))
    (retS (tupF (consA (bin2 (iiD divI) (varF 0) (varF 2)) (consA (bin2 (iiD divI) (varF 1) (varF 2)) (nilA))))))
def f_law_part : Fn := fnD 3 none b_law_part
def b_law_plus : SS :=
    retS (callE none f_law_part (consA (bin2 addD (bin2 (iiD mulI) (bin2 ixD (varF 0) (valF (.int 0))) (bin2 ixD (varF 1) (valF (.int 1)))) (bin2 (iiD mulI) (bin2 ixD (varF 1) (valF (.int 0))) (bin2 ixD (varF 0) (valF (.int 1))))) (consA (bin2 (iiD mulI) (bin2 ixD (varF 0) (valF (.int 1))) (bin2 ixD (varF 1) (valF (.int 1)))) (nilA))))
def f_law_plus : Fn := fnD 2 none b_law_plus
def b_law_times : SS :=
    retS (callE none f_law_part (consA (bin2 (iiD mulI) (bin2 ixD (varF 0) (valF (.int 0))) (bin2 ixD (varF 1) (valF (.int 0)))) (consA (bin2 (iiD mulI) (bin2 ixD (varF 0) (valF (.int 1))) (bin2 ixD (varF 1) (valF (.int 1)))) (nilA))))
def f_law_times : Fn := fnD 2 none b_law_times
def b_law_chances : SS :=
    retS (bltE tupK (consA (compE [1] (seqI (varF 0)) (nameT 1) (yesT) (tupF (consA (valF (.int 1)) (consA (varF 1) (nilA))))) (nilA)))
def f_law_chances : Fn := fnD 2 none b_law_chances
def b_law_sum_of : SS :=
    seqS (setS 3 (tupF (consA (valF (.int 0)) (consA (valF (.int 1)) (nilA)))))
    (seqS (forS (rng1I (consA (bin2 (iiD shlI) (valF (.int 1)) (bltE lenK (consA (varF 2) (nilA)))) (nilA))) (nameT 4) (seqS (setS 5 (bltE tupK (consA (compE [8, 7] (enumI (consA (varF 2) (nilA))) (tupT [8, 7]) (ofV (bin2 (cmpV eqK) (bin2 (iiD andI) (bin2 (iiD shrI) (varF 4) (varF 8)) (valF (.int 1))) (valF (.int 1)))) (varF 7)) (nilA))))
    (ifS (truT (callE none f_law_apart (consA (varF 0) (consA (varF 5) (nilA))))) (seqS (setS 6 (tupF (consA (valF (.int 1)) (consA (valF (.int 1)) (nilA)))))
    (seqS (forS (seqI (varF 5)) (nameT 7) (setS 6 (callE none f_law_times (consA (varF 6) (consA (tupF (consA (bin2 (iiD subI) (valF (.int 0)) (bin2 ixD (bin2 ixD (varF 1) (varF 7)) (valF (.int 0)))) (consA (bin2 ixD (bin2 ixD (varF 1) (varF 7)) (valF (.int 1))) (nilA)))) (nilA))))))
    (setS 3 (callE none f_law_plus (consA (varF 3) (consA (varF 6) (nilA))))))) (skipS))))
    (retS (varF 3)))
def f_law_sum_of : Fn := fnD 9 none b_law_sum_of
def b_law_fault : SS :=
    seqS (forS (seqI (callE none f_law_lots (consA (bin2 ixD (varF 0) (valF (.int 0))) (nilA)))) (nameT 2) (ifS (ofV (bin2 (cmpV ltD) (bin2 ixD (callE none f_law_sum_of (consA (varF 0) (consA (varF 1) (consA (varF 2) (nilA))))) (valF (.int 0))) (valF (.int 0)))) (retS (varF 2)) (skipS)))
    (retS (valF .non))
def f_law_fault : Fn := fnD 3 none b_law_fault
def b_law_enough_for : SS :=
    seqS (forS (rng2I (consA (valF (.int 1)) (consA (valF (.int 201)) (nilA)))) (nameT 3) (ifS (ofV (bin2 (cmpV isN) (callE none f_law_fault (consA (varF 0) (consA (callE none f_law_chances (consA (bin2 addD (bin2 addD (slF (varF 1) none (some (varF 2))) (tupF (consA (varF 3) (nilA)))) (slF (varF 1) (some (bin2 addD (varF 2) (valF (.int 1)))) none)) (nilA))) (nilA)))) (valF .non))) (retS (varF 3)) (skipS)))
    (retS (valF .non))
def f_law_enough_for : Fn := fnD 4 none b_law_enough_for
def b_law_marks : SS :=
    seqS (setS 3 (bltE tupK (consA (compE [5] (rng1I (consA (bin2 ixD (varF 1) (valF (.int 0))) (nilA))) (nameT 5) (yesT) (callE (some 0) f_law_pick (consA (varF 0) (consA (iteV (ofV (bin2 (cmpV neK) (varF 2) (valF (.int 1)))) (lstF (consA (valF (.int 2)) (consA (valF (.int 2)) (consA (valF (.int 3)) (consA (valF (.int 3)) (consA (valF (.int 4)) (consA (valF (.int 5)) (consA (valF (.int 6)) (consA (valF (.int 8)) (nilA)))))))))) (lstF (consA (valF (.int 4)) (consA (valF (.int 5)) (consA (valF (.int 6)) (consA (valF (.int 8)) (consA (valF (.int 9)) (consA (valF (.int 12)) (nilA))))))))) (nilA))))) (nilA))))
    (seqS (ifS (ofV (bin2 (cmpV eqK) (varF 2) (valF (.int 3)))) (retS (bltE tupK (consA (compE [7] (seqI (varF 3)) (nameT 7) (yesT) (bltE max2K (consA (valF (.int 1)) (consA (bin2 (iiD subI) (varF 7) (callE (some 0) f_law_take (consA (varF 0) (consA (valF (.int 3)) (nilA))))) (nilA))))) (nilA)))) (skipS))
    (seqS (ifS (ofV (bin2 (cmpV eqK) (varF 2) (valF (.int 0)))) (retS (varF 3)) (skipS))
    (seqS (forS (rng1I (consA (valF (.int 12)) (nilA))) (nameT 4) (seqS (ifS (ofV (bin2 (cmpV isN) (callE none f_law_fault (consA (varF 1) (consA (callE none f_law_chances (consA (varF 3) (nilA))) (nilA)))) (valF .non))) (brS) (skipS))
    (setS 3 (bltE tupK (consA (compE [7] (seqI (varF 3)) (nameT 7) (yesT) (bin2 addD (bin2 addD (varF 7) (valF (.int 1))) (bin2 (iiD divI) (varF 7) (valF (.int 2))))) (nilA))))))
    (seqS (ifS (ofV (bin2 (cmpV eqK) (varF 2) (valF (.int 2)))) (seqS (setS 5 (callE (some 0) f_law_take (consA (varF 0) (consA (bin2 ixD (varF 1) (valF (.int 0))) (nilA)))))
    (seqS (setS 6 (callE none f_law_enough_for (consA (varF 1) (consA (varF 3) (consA (varF 5) (nilA))))))
    (setS 3 (bin2 addD (bin2 addD (slF (varF 3) none (some (varF 5))) (tupF (consA (iteV (ofV (bin2 (cmpV isNotN) (varF 6) (valF .non))) (varF 6) (bin2 ixD (varF 3) (varF 5))) (nilA)))) (slF (varF 3) (some (bin2 addD (varF 5) (valF (.int 1)))) none))))) (skipS))
    (retS (varF 3))))))
def f_law_marks : Fn := fnD 8 (some 0) b_law_marks
def b_law_drawn_chances : SS :=
    seqS (ifS (ofV (bin2 (cmpV eqK) (callE (some 0) f_law_take (consA (varF 0) (consA (valF (.int 2)) (nilA)))) (valF (.int 0)))) (retS (callE none f_law_chances (consA (callE (some 0) f_law_marks (consA (varF 0) (consA (varF 1) (consA (callE (some 0) f_law_take (consA (varF 0) (consA (valF (.int 4)) (nilA)))) (nilA))))) (nilA)))) (skipS))
    (seqS (setS 2 (lstF (nilA)))
    (seqS (forS (rng1I (consA (bin2 ixD (varF 1) (valF (.int 0))) (nilA))) (nameT 3) (seqS (setS 4 (bin2 addD (valF (.int 1)) (callE (some 0) f_law_take (consA (varF 0) (consA (valF (.int 12)) (nilA))))))
    (dropS (appE 2 (callE none f_law_part (consA (bltE min2K (consA (varF 4) (consA (callE (some 0) f_law_take (consA (varF 0) (consA (bin2 addD (bin2 addD (valF (.int 1)) (bin2 (iiD divI) (varF 4) (valF (.int 2)))) (callE (some 0) f_law_take (consA (varF 0) (consA (valF (.int 2)) (nilA))))) (nilA)))) (nilA)))) (consA (varF 4) (nilA))))))))
    (retS (bltE tupK (consA (varF 2) (nilA))))))
def f_law_drawn_chances : Fn := fnD 5 (some 0) b_law_drawn_chances
def b_law_slim : SS :=
    seqS (setS 1 (sortSetE (bin2 ixD (varF 0) (valF (.int 1)))))
    (seqS (setS 2 (compE [3] (seqI (varF 1)) (nameT 3) (ofV (bin2 (cmpV eqK) (compE [4] (seqI (varF 1)) (nameT 4) (andT (ofV (bin2 (cmpV neK) (varF 4) (varF 3))) (ofV (bin2 (cmpV eqK) (compE [5] (seqI (varF 3)) (nameT 5) (ofV (bin2 (cmpV notInD) (varF 5) (varF 4))) (valF (.int 1))) (lstF (nilA))))) (valF (.int 1))) (lstF (nilA)))) (varF 3)))
    (retS (tupF (consA (bin2 ixD (varF 0) (valF (.int 0))) (consA (bltE tupK (consA (varF 2) (nilA))) (nilA))))))
def f_law_slim : Fn := fnD 6 none b_law_slim
def b_law_court : SS :=
    seqS (setS 2 (callE (some 0) f_law_web (consA (varF 0) (consA (varF 1) (nilA)))))
    (retS (iteV (ofV (bin2 (cmpV ltD) (bltE lenK (consA (bin2 ixD (varF 2) (valF (.int 1))) (nilA))) (valF (.int 9)))) (varF 2) (callE none f_law_slim (consA (varF 2) (nilA)))))
def f_law_court : Fn := fnD 3 (some 0) b_law_court
end Mi

/-! Fractions. -/
namespace Mi
open PySem PySem.Spec
open PyProof.Rows hiding St
open L2
def frQ (q : Rat) : D := .tup [.int q.num, .int q.den]
/-- a fraction of so many bits -/
def Bt (q : Rat) (k : Nat) : Prop := q.num.natAbs ≤ 2 ^ k ∧ q.den ≤ 2 ^ k
theorem Bt.mono {q : Rat} {i j : Nat} (h : Bt q i) (hij : i ≤ j) : Bt q j :=
  ⟨Nat.le_trans h.1 (Nat.pow_le_pow_right (by omega) hij), Nat.le_trans h.2 (Nat.pow_le_pow_right (by omega) hij)⟩
/-- a pair of so many bits -/
def Bp (x : Int) (d k : Nat) : Prop := x.natAbs ≤ 2 ^ k ∧ d ≤ 2 ^ k
theorem mkRat_num {x : Int} {d : Nat} (h : 0 < d) : (mkRat x d).num = x / ((Nat.gcd x.natAbs d : Nat) : Int) := by
  unfold mkRat
  rw [dif_neg (by omega), Rat.normalize_eq]
theorem mkRat_den {x : Int} {d : Nat} (h : 0 < d) : (mkRat x d).den = d / Nat.gcd x.natAbs d := by
  unfold mkRat
  rw [dif_neg (by omega), Rat.normalize_eq]
theorem Bp.bt {x : Int} {d k : Nat} (h : Bp x d k) (hd : 0 < d) : Bt (mkRat x d) k := by
  have hg : 0 < Nat.gcd x.natAbs d := Nat.gcd_pos_of_pos_right _ hd
  refine ⟨?_, ?_⟩
  · rw [mkRat_num hd, Int.natAbs_ediv_of_dvd (Int.ofNat_dvd_left.mpr (Nat.gcd_dvd_left _ _))]
    exact Nat.le_trans (Nat.div_le_self _ _) h.1
  · rw [mkRat_den hd]
    exact Nat.le_trans (Nat.div_le_self _ _) h.2
theorem log2_le {n k : Nat} (h : n ≤ 2 ^ k) : n.log2 ≤ k := by
  by_cases z : n = 0
  · subst z; simp
  · rw [← Nat.lt_succ_iff, Nat.log2_lt z]
    exact Nat.lt_of_le_of_lt h (Nat.pow_lt_pow_right (by omega) (Nat.lt_succ_self _))
theorem mulI_ok {x y : Int} {i j : Nat} (hx : x.natAbs ≤ 2 ^ i) (hy : y.natAbs ≤ 2 ^ j) (h : i + j ≤ 900000) : mulI x y = some (.int (x * y)) := by
  have h1 := log2_le hx
  have h2 := log2_le hy
  unfold mulI
  rw [if_pos (.inr (by omega))]
/-! ### the greatest common divisor -/
theorem cd_loop : ∀ (n x y : Nat), y < n → whileL (ofV (bin2 (cmpV neK) (varF 1) (valF (.int 0)))) (parS [0, 1] (consA (varF 1) (consA (bin2 (iiD modI) (varF 0) (varF 1)) (nilA)))) n [.fr (.int x), .fr (.int y)] = some (.nx [.fr (.int (Nat.gcd x y : Nat)), .fr (.int 0)])
  | 0, _, _, h => absurd h (Nat.not_lt_zero _)
  | n + 1, x, y, h => by
    by_cases hy : y = 0
    · subst hy
      simp [whileL]
    · have ih := cd_loop n y (x % y) (by have := Nat.mod_lt x (show 0 < y by omega); omega)
      have hb : parS [0, 1] (consA (varF 1) (consA (bin2 (iiD modI) (varF 0) (varF 1)) (nilA))) [.fr (.int x), .fr (.int y)] = some (.nx [.fr (.int y), .fr (.int ((x % y : Nat) : Int))]) := by
        have : 0 < y := by omega
        simp [this]
      have ht : ofV (bin2 (cmpV neK) (varF 1) (valF (.int 0))) [.fr (.int x), .fr (.int y)] = some (true, [.fr (.int x), .fr (.int y)]) := by
        simp [hy]
      simp only [whileL, ht, hb]
      rw [ih, Nat.gcd_comm x y, Nat.gcd_rec y x, Nat.gcd_comm]
theorem cd_ok (x y : Nat) : f_common_divisor [.int x, .int y] = some (false, .int (Nat.gcd x y : Nat), .non) := by
  refine fn_run (seq_nx (ρ1 := [.fr (.int (Nat.gcd x y : Nat)), .fr (.int 0)]) ?_ (ret_rt rfl)) rfl
  show whileL _ _ _ _ = _
  exact cd_loop _ x y (by simp [n_common_divisor_1, startE, parE])
theorem gcd_loop : ∀ (n x y : Nat), y < n → whileL (ofV (bin2 (cmpV neK) (varF 1) (valF (.int 0)))) (parS [0, 1] (consA (varF 1) (consA (bin2 (iiD modI) (bltE intK (consA (varF 0) (nilA))) (varF 1)) (nilA)))) n [.fr (.int x), .fr (.int y)] = some (.nx [.fr (.int (Nat.gcd x y : Nat)), .fr (.int 0)])
  | 0, _, _, h => absurd h (Nat.not_lt_zero _)
  | n + 1, x, y, h => by
    by_cases hy : y = 0
    · subst hy
      simp [whileL]
    · have ih := gcd_loop n y (x % y) (by have := Nat.mod_lt x (show 0 < y by omega); omega)
      have hb : parS [0, 1] (consA (varF 1) (consA (bin2 (iiD modI) (bltE intK (consA (varF 0) (nilA))) (varF 1)) (nilA))) [.fr (.int x), .fr (.int y)] = some (.nx [.fr (.int y), .fr (.int ((x % y : Nat) : Int))]) := by
        have : 0 < y := by omega
        simp [this]
      have ht : ofV (bin2 (cmpV neK) (varF 1) (valF (.int 0))) [.fr (.int x), .fr (.int y)] = some (true, [.fr (.int x), .fr (.int y)]) := by
        simp [hy]
      simp only [whileL, ht, hb]
      rw [ih, Nat.gcd_comm x y, Nat.gcd_rec y x, Nat.gcd_comm]
theorem gcd_ok (x y : Nat) : f_law_gcd [.int x, .int y] = some (false, .int (Nat.gcd x y : Nat), .non) := by
  refine fn_run (seq_nx (ρ1 := [.fr (.int (Nat.gcd x y : Nat)), .fr (.int 0)]) ?_ (ret_rt rfl)) rfl
  show whileL _ _ _ _ = _
  exact gcd_loop _ x y (by simp [n_law_gcd_1, startE, parE])
theorem gcd_bits {x : Int} {d k : Nat} (h : Bp x d k) (hd : 0 < d) : (Nat.gcd x.natAbs d).log2 ≤ k := log2_le (Nat.le_trans (Nat.gcd_le_right _ hd) h.2)
theorem abs_nat (x : Int) : absK [.int x] = some (.val (.int (x.natAbs : Nat))) := by
  simp only [absK]
  split <;> (congr 3; omega)
theorem div_gcd (z : Int) {x : Int} {d k : Nat} (h : Bp x d k) (hd : 0 < d) (hk : k < 8000) : iiD divI (.int z) (.int (Nat.gcd x.natAbs d : Nat)) = some (.val (.int (z / ((Nat.gcd x.natAbs d : Nat) : Int)))) := by
  have hg : 0 < Nat.gcd x.natAbs d := Nat.gcd_pos_of_pos_right _ hd
  have hb := gcd_bits h hd
  have : 0 < ((Nat.gcd x.natAbs d : Nat) : Int) ∧ ((Nat.gcd x.natAbs d : Nat) : Int).natAbs.log2 < 9000 := ⟨by omega, by simpa using (by omega : (Nat.gcd x.natAbs d).log2 < 9000)⟩
  simp only [iiD, divI, if_pos this]
  rfl
theorem frQ_mk {x : Int} {d : Nat} (h : 0 < d) : frQ (mkRat x d) = .tup [.int (x / ((Nat.gcd x.natAbs d : Nat) : Int)), .int ((d : Int) / ((Nat.gcd x.natAbs d : Nat) : Int))] := by
  unfold frQ
  rw [mkRat_num h, mkRat_den h, Int.natCast_ediv]
/-- the program's least terms -/
theorem lowest_ok {x : Int} {d k : Nat} (hd : 0 < d) (h : Bp x d k) (hk : k < 8000) : f_lowest [.int x, .int d] = some (false, frQ (mkRat x d), .non) := by
  let E : Slot → En := fun s => [.fr (.int x), .fr (.int d), s]
  have c0 : ifS (ofV (bin2 (cmpV eqK) (varF 1) (valF (.int 0)))) (neverS) (skipS) (E .un) = some (.nx (E .un)) :=
    if_f (of_of (bin_of (r1 := .val (.int d)) (r2 := .val (.int 0)) (o := .val (.bl false)) rfl rfl rfl rfl (by simp [cmpV]; omega))) rfl
  have c1 : setS 2 (callE none f_common_divisor (consA (bltE absK (consA (varF 0) (nilA))) (consA (bltE absK (consA (varF 1) (nilA))) (nilA)))) (E .un) = some (.nx (E (.fr (.int (Nat.gcd x.natAbs d : Nat))))) :=
    set_nx (call_of (cons_of (blt_of (cons_of (r := .val (.int x)) rfl rfl) rfl (abs_nat x)) (cons_of (blt_of (cons_of (r := .val (.int d)) rfl rfl) rfl (abs_nat d)) rfl)) rfl (cd_ok x.natAbs _) rfl rfl) (by simp [E])
  have c2 : ifS (ofV (bin2 (cmpV ltD) (varF 1) (valF (.int 0)))) (setS 2 (bin2 (iiD subI) (valF (.int 0)) (varF 2))) (skipS) (E (.fr (.int (Nat.gcd x.natAbs d : Nat)))) = some (.nx (E (.fr (.int (Nat.gcd x.natAbs d : Nat))))) :=
    if_f (of_of (bin_of (r1 := .val (.int d)) (r2 := .val (.int 0)) (o := .val (.bl false)) rfl rfl rfl rfl (by simp [cmpV, show ¬ (d : Int) < 0 by omega]))) rfl
  rw [frQ_mk hd]
  exact fn_run (seq_nx c0 (seq_nx c1 (seq_nx c2 (ret_rt (tup_of (cons_of (bin_of (r1 := .val (.int x)) (r2 := .val (.int (Nat.gcd x.natAbs d : Nat))) rfl rfl rfl rfl (div_gcd x h hd hk)) (cons_of (bin_of (r1 := .val (.int d)) (r2 := .val (.int (Nat.gcd x.natAbs d : Nat))) rfl rfl rfl rfl (div_gcd d h hd hk)) rfl)) rfl (by simp)))))) rfl
/-- the law's -/
theorem part_ok {x : Int} {d k : Nat} (hd : 0 < d) (h : Bp x d k) (hk : k < 8000) : f_law_part [.int x, .int d] = some (false, frQ (mkRat x d), .non) := by
  let E : Slot → En := fun s => [.fr (.int x), .fr (.int d), s]
  have c0 : ifS (ofV (bin2 (cmpV ltD) (varF 1) (valF (.int 0)))) (parS [0, 1] (consA (bin2 (iiD subI) (valF (.int 0)) (varF 0)) (consA (bin2 (iiD subI) (valF (.int 0)) (varF 1)) (nilA)))) (skipS) (E .un) = some (.nx (E .un)) :=
    if_f (of_of (bin_of (r1 := .val (.int d)) (r2 := .val (.int 0)) (o := .val (.bl false)) rfl rfl rfl rfl (by simp [cmpV, show ¬ (d : Int) < 0 by omega]))) rfl
  have c1 : setS 2 (callE none f_law_gcd (consA (bltE absK (consA (varF 0) (nilA))) (consA (varF 1) (nilA)))) (E .un) = some (.nx (E (.fr (.int (Nat.gcd x.natAbs d : Nat))))) :=
    set_nx (call_of (cons_of (blt_of (cons_of (r := .val (.int x)) rfl rfl) rfl (abs_nat x)) (cons_of (r := .val (.int d)) rfl rfl)) rfl (gcd_ok x.natAbs d) rfl rfl) rfl
  rw [frQ_mk hd]
  exact fn_run (seq_nx c0 (seq_nx c1 (ret_rt (tup_of (cons_of (bin_of (r1 := .val (.int x)) (r2 := .val (.int (Nat.gcd x.natAbs d : Nat))) rfl rfl rfl rfl (div_gcd x h hd hk)) (cons_of (bin_of (r1 := .val (.int d)) (r2 := .val (.int (Nat.gcd x.natAbs d : Nat))) rfl rfl rfl rfl (div_gcd d h hd hk)) rfl)) rfl (by simp))))) rfl
end Mi

/-! Fractions: sums, differences, products. -/
namespace Mi
open PySem PySem.Spec
open PyProof.Rows hiding St
open L2
/-- data that is a fraction -/
structure Fq (d : D) (q : Rat) : Prop where
  top : ixD d (.int 0) = some (.val (.int q.num))
  bot : ixD d (.int 1) = some (.val (.int q.den))
theorem Fq.fr (q : Rat) : Fq (frQ q) q := ⟨by simp [ixD, frQ], by simp [ixD, frQ]⟩
def oneK : D := .kt [.int 1, .int 1]
theorem Fq.one : Fq oneK 1 := ⟨by simp [ixD, oneK], by simp [ixD, oneK]⟩
theorem Bp.mul {p q : Rat} {i j : Nat} (hp : Bt p i) (hq : Bt q j) : Bp (p.num * q.num) (p.den * q.den) (i + j) := by
  refine ⟨?_, ?_⟩
  · rw [Int.natAbs_mul, Nat.pow_add]
    exact Nat.mul_le_mul hp.1 hq.1
  · rw [Nat.pow_add]
    exact Nat.mul_le_mul hp.2 hq.2
theorem two_pow (n : Nat) : 2 ^ (n + 1) = 2 ^ n + 2 ^ n := by rw [Nat.pow_succ]; omega
theorem Bp.add {p q : Rat} {i j : Nat} (hp : Bt p i) (hq : Bt q j) : Bp (p.num * q.den + q.num * p.den) (p.den * q.den) (i + j + 1) := by
  have a1 : (p.num * (q.den : Int)).natAbs ≤ 2 ^ (i + j) := by
    rw [Int.natAbs_mul, Nat.pow_add]
    exact Nat.mul_le_mul hp.1 (by simpa using hq.2)
  have a2 : (q.num * (p.den : Int)).natAbs ≤ 2 ^ (i + j) := by
    rw [Int.natAbs_mul, Nat.pow_add, Nat.mul_comm]
    exact Nat.mul_le_mul (by simpa using hp.2) hq.1
  refine ⟨?_, ?_⟩
  · have := Int.natAbs_add_le (p.num * (q.den : Int)) (q.num * (p.den : Int))
    rw [two_pow]
    omega
  · have : p.den * q.den ≤ 2 ^ (i + j) := by
      rw [Nat.pow_add]
      exact Nat.mul_le_mul hp.2 hq.2
    rw [two_pow]
    omega
theorem Bp.sub {p q : Rat} {i j : Nat} (hp : Bt p i) (hq : Bt q j) : Bp (p.num * q.den - q.num * p.den) (p.den * q.den) (i + j + 1) := by
  have h := Bp.add (q := -q) hp (show Bt (-q) j from ⟨by rw [Rat.neg_num, Int.natAbs_neg]; exact hq.1, by rw [Rat.neg_den]; exact hq.2⟩)
  rw [Rat.neg_num, Rat.neg_den, Int.neg_mul] at h
  exact h
theorem den_mul_pos (p q : Rat) : 0 < p.den * q.den := Nat.mul_pos p.den_pos q.den_pos
theorem Bt.mul {p q : Rat} {i j : Nat} (hp : Bt p i) (hq : Bt q j) : Bt (p * q) (i + j) := by
  rw [Rat.mul_def']
  exact (Bp.mul hp hq).bt (den_mul_pos p q)
theorem Bt.add {p q : Rat} {i j : Nat} (hp : Bt p i) (hq : Bt q j) : Bt (p + q) (i + j + 1) := by
  rw [Rat.add_def']
  exact (Bp.add hp hq).bt (den_mul_pos p q)
theorem Bt.sub {p q : Rat} {i j : Nat} (hp : Bt p i) (hq : Bt q j) : Bt (p - q) (i + j + 1) := by
  rw [Rat.sub_def']
  exact (Bp.sub hp hq).bt (den_mul_pos p q)
theorem Bt.neg {q : Rat} {j : Nat} (hq : Bt q j) : Bt (-q) j := ⟨by rw [Rat.neg_num, Int.natAbs_neg]; exact hq.1, by rw [Rat.neg_den]; exact hq.2⟩
theorem Bt.one : Bt 1 0 := ⟨by simp, by simp⟩
theorem Bt.zero : Bt 0 0 := ⟨by simp, by simp⟩
section
variable {a b : D} {p q : Rat} {i j : Nat} {rest : En}
abbrev m2 (x y z w : SE) : SE := bin2 (iiD mulI) (bin2 ixD x y) (bin2 ixD z w)
/-- a product of two parts -/
theorem prod_of {x y : Int} {n k : Nat} {f g : SE} {ρ : En} (hf : f ρ = some (.val (.int x), ρ)) (hg : g ρ = some (.val (.int y), ρ)) (hx : x.natAbs ≤ 2 ^ n) (hy : y.natAbs ≤ 2 ^ k) (h : n + k ≤ 900000) : bin2 (iiD mulI) f g ρ = some (.val (.int (x * y)), ρ) :=
  bin_of hf hg rfl rfl (by simp only [iiD, mulI_ok hx hy h]; rfl)
theorem parts_of (ha : Fq a p) (hb : Fq b q) : bin2 ixD (varF 0) (valF (.int 0)) [.fr a, .fr b] = some (.val (.int p.num), [.fr a, .fr b]) ∧ bin2 ixD (varF 0) (valF (.int 1)) [.fr a, .fr b] = some (.val (.int p.den), [.fr a, .fr b]) ∧
    bin2 ixD (varF 1) (valF (.int 0)) [.fr a, .fr b] = some (.val (.int q.num), [.fr a, .fr b]) ∧ bin2 ixD (varF 1) (valF (.int 1)) [.fr a, .fr b] = some (.val (.int q.den), [.fr a, .fr b]) :=
  ⟨bin_of (r1 := .val a) (r2 := .val (.int 0)) rfl rfl rfl rfl ha.top, bin_of (r1 := .val a) (r2 := .val (.int 1)) rfl rfl rfl rfl ha.bot, bin_of (r1 := .val b) (r2 := .val (.int 0)) rfl rfl rfl rfl hb.top, bin_of (r1 := .val b) (r2 := .val (.int 1)) rfl rfl rfl rfl hb.bot⟩
theorem nat_abs_le {n k : Nat} (h : n ≤ 2 ^ k) : ((n : Int)).natAbs ≤ 2 ^ k := by simpa using h
theorem times_ok (ha : Fq a p) (hb : Fq b q) (hp : Bt p i) (hq : Bt q j) (h : i + j < 8000) : f_times [a, b] = some (false, frQ (p * q), .non) := by
  obtain ⟨a0, a1, b0, b1⟩ := parts_of ha hb
  rw [Rat.mul_def']
  exact fn_run (ret_rt (call_of (cons_of (prod_of a0 b0 hp.1 hq.1 (by omega)) (cons_of (prod_of a1 b1 (nat_abs_le hp.2) (nat_abs_le hq.2) (by omega)) rfl)) rfl (by
    have := lowest_ok (den_mul_pos p q) (Bp.mul hp hq) h
    rwa [Int.natCast_mul] at this) rfl rfl)) rfl
theorem ltimes_ok (ha : Fq a p) (hb : Fq b q) (hp : Bt p i) (hq : Bt q j) (h : i + j < 8000) : f_law_times [a, b] = some (false, frQ (p * q), .non) := by
  obtain ⟨a0, a1, b0, b1⟩ := parts_of ha hb
  rw [Rat.mul_def']
  exact fn_run (ret_rt (call_of (cons_of (prod_of a0 b0 hp.1 hq.1 (by omega)) (cons_of (prod_of a1 b1 (nat_abs_le hp.2) (nat_abs_le hq.2) (by omega)) rfl)) rfl (by
    have := part_ok (den_mul_pos p q) (Bp.mul hp hq) h
    rwa [Int.natCast_mul] at this) rfl rfl)) rfl
theorem minus_ok (ha : Fq a p) (hb : Fq b q) (hp : Bt p i) (hq : Bt q j) (h : i + j < 7000) : f_minus [a, b] = some (false, frQ (p - q), .non) := by
  obtain ⟨a0, a1, b0, b1⟩ := parts_of ha hb
  rw [Rat.sub_def']
  exact fn_run (ret_rt (call_of (cons_of (bin_of (prod_of a0 b1 hp.1 (nat_abs_le hq.2) (by omega)) (prod_of b0 a1 hq.1 (nat_abs_le hp.2) (by omega)) rfl rfl (o := .val (.int (p.num * q.den - q.num * p.den))) (by simp [iiD, subI])) (cons_of (prod_of a1 b1 (nat_abs_le hp.2) (nat_abs_le hq.2) (by omega)) rfl)) rfl (by
    have := lowest_ok (den_mul_pos p q) (Bp.sub hp hq) (by omega)
    rwa [Int.natCast_mul] at this) rfl rfl)) rfl
theorem lplus_ok (ha : Fq a p) (hb : Fq b q) (hp : Bt p i) (hq : Bt q j) (h : i + j < 7000) : f_law_plus [a, b] = some (false, frQ (p + q), .non) := by
  obtain ⟨a0, a1, b0, b1⟩ := parts_of ha hb
  rw [Rat.add_def']
  exact fn_run (ret_rt (call_of (cons_of (bin_of (prod_of a0 b1 hp.1 (nat_abs_le hq.2) (by omega)) (prod_of b0 a1 hq.1 (nat_abs_le hp.2) (by omega)) rfl rfl (o := .val (.int (p.num * q.den + q.num * p.den))) (by simp [addD])) (cons_of (prod_of a1 b1 (nat_abs_le hp.2) (nat_abs_le hq.2) (by omega)) rfl)) rfl (by
    have := part_ok (den_mul_pos p q) (Bp.add hp hq) (by omega)
    rwa [Int.natCast_mul] at this) rfl rfl)) rfl
end
end Mi

/-! Sums with signs. -/
namespace Mi
open PySem PySem.Spec
open PyProof.Rows hiding St
open L2
/-! ### sums of fractions -/
def rsum : List Rat → Rat
  | [] => 0
  | a :: l => a + rsum l
theorem rsum_append : ∀ (l k : List Rat), rsum (l ++ k) = rsum l + rsum k
  | [], k => by rw [List.nil_append, rsum]; grind
  | a :: l, k => by rw [List.cons_append, rsum, rsum, rsum_append l k, Rat.add_assoc]
theorem rsum_perm {l k : List Rat} (h : l.Perm k) : rsum l = rsum k := by
  induction h with
  | nil => rfl
  | cons a _ ih => rw [rsum, rsum, ih]
  | swap a b l => simp only [rsum]; grind
  | trans _ _ h1 h2 => exact h1.trans h2
theorem rsum_mul (a : Rat) : ∀ l : List Rat, rsum (l.map fun x => a * x) = a * rsum l
  | [] => by simp [rsum]
  | b :: l => by rw [List.map_cons, rsum, rsum, rsum_mul a l, Rat.mul_add]
theorem foldl_rsum (l : List Rat) : ∀ a : Rat, l.foldl (fun x y => x + y) a = a + rsum l := by
  induction l with
  | nil => intro a; rw [List.foldl_nil, rsum]; grind
  | cons b l ih => intro a; rw [List.foldl_cons, ih, rsum, Rat.add_assoc]
/-! ### a lot's part, a lot's sum -/
def term (c : Int → Rat) : List Int → Rat
  | [] => 1
  | h :: t => -c h * term c t
theorem foldl_term (c : Int → Rat) (l : List Int) : ∀ a : Rat, l.foldl (fun x h => x * -c h) a = a * term c l := by
  induction l with
  | nil => intro a; simp [term]
  | cons h l ih => intro a; rw [List.foldl_cons, ih, term, Rat.mul_assoc]
theorem term_snoc (c : Int → Rat) (l : List Int) (h : Int) : term c (l ++ [h]) = term c l * -c h := by
  have e := foldl_term c (l ++ [h]) 1
  have e2 := foldl_term c l 1
  rw [Rat.one_mul] at e e2
  rw [← e, ← e2, List.foldl_append]
  rfl
/-- the sum with signs -/
def altS (c : Int → Rat) (ls : List (List Int)) (l : List Int) : Rat := rsum (((grow l).filter (apt ls)).map (term c))
theorem altS_nil (c : Int → Rat) (ls : List (List Int)) : altS c ls [] = 1 := by
  show (1 : Rat) + 0 = 1
  grind
theorem growR_all (p : Int → Bool) : ∀ r : List Int, (growR r).filter (fun l => l.all p) = growR (r.filter p)
  | [] => rfl
  | h :: t => by
    have ih := growR_all p t
    rw [growR, List.filter_append, ih, List.filter_map]
    by_cases hh : p h = true
    · rw [List.filter_cons_of_pos hh, growR]
      congr 2
      rw [← ih]
      refine List.filter_congr fun l _ => ?_
      simp [hh]
    · rw [List.filter_cons_of_neg hh]
      have : (growR t).filter ((fun l : List Int => l.all p) ∘ fun l => l ++ [h]) = [] := by
        rw [List.filter_eq_nil_iff]
        intro l _
        simp [hh]
      rw [this]
      simp
theorem grow_all (p : Int → Bool) (l : List Int) : (grow l).filter (fun l => l.all p) = grow (l.filter p) := by
  unfold grow
  rw [growR_all, List.filter_reverse]
theorem apt_cons {ls : List (List Int)} {h : Int} {t : List Int} (ht : ∀ x ∈ t, h < x) : apt ls (h :: t) = (apt ls t && t.all fun x => !tch ls h x) := by
  unfold apt
  rw [Bool.eq_iff_iff]
  simp only [Bool.not_eq_true', Bool.and_eq_true, List.any_eq_false, List.any_eq_true, Bool.not_eq_true, List.mem_cons, decide_eq_true_eq, List.all_eq_true]
  constructor
  · intro H
    refine ⟨fun a ha => fun ⟨b, hb, z⟩ => H a (.inr ha) ⟨b, .inr hb, z⟩, fun x hx => ?_⟩
    cases q : tch ls h x with
    | false => rfl
    | true => exact absurd ⟨x, .inr hx, ht x hx, q⟩ (H h (.inl rfl))
  · rintro ⟨H1, H2⟩ a ha ⟨b, hb, h1, h2⟩
    rcases ha with rfl | ha
    · rcases hb with rfl | hb
      · omega
      · rw [H2 b hb] at h2
        cases h2
    · rcases hb with rfl | hb
      · have := ht a ha
        omega
      · exact H1 a ha ⟨b, hb, h1, h2⟩
theorem perm_mid {α : Type} (a b c d : List α) : ((a ++ b) ++ (c ++ d)).Perm ((a ++ c) ++ (b ++ d)) := by
  rw [List.append_assoc, List.append_assoc]
  refine List.Perm.append_left a ?_
  rw [← List.append_assoc, ← List.append_assoc]
  exact List.Perm.append_right d List.perm_append_comm
theorem growR_snoc (h : Int) : ∀ r : List Int, (growR (r ++ [h])).Perm (growR r ++ (growR r).map fun l => h :: l)
  | [] => by simp [growR]
  | x :: r => by
    have ih := growR_snoc h r
    rw [List.cons_append, growR, growR]
    have e : ((growR r).map fun l => h :: l).map (fun l => l ++ [x]) = ((growR r).map fun l => l ++ [x]).map fun l => h :: l := by
      rw [List.map_map, List.map_map]
      rfl
    refine (List.Perm.append ih (ih.map _)).trans ?_
    rw [List.map_append, e, List.map_append]
    exact perm_mid _ _ _ _
theorem grow_cons (h : Int) (l : List Int) : (grow (h :: l)).Perm (grow l ++ (grow l).map fun t => h :: t) := by
  unfold grow
  rw [List.reverse_cons]
  exact growR_snoc h l.reverse
/-- the sum by less -/
theorem altS_cons {c : Int → Rat} {ls : List (List Int)} {h : Int} {l : List Int} (hl : (h :: l).Pairwise (· < ·)) : altS c ls (h :: l) = altS c ls l - c h * altS c ls (l.filter fun x => !tch ls h x) := by
  rw [List.pairwise_cons] at hl
  unfold altS
  rw [rsum_perm (((grow_cons h l).filter (apt ls)).map (term c)), List.filter_append, List.map_append, rsum_append, List.filter_map, List.map_map]
  have e1 : (grow l).filter ((apt ls) ∘ fun t => h :: t) = (grow (l.filter fun x => !tch ls h x)).filter (apt ls) := by
    rw [← grow_all, List.filter_filter]
    refine List.filter_congr fun t ht => ?_
    exact apt_cons fun x hx => hl.1 x ((grow_sub ht).subset hx)
  rw [e1]
  have e2 : (((grow (l.filter fun x => !tch ls h x)).filter (apt ls)).map (term c ∘ fun t => h :: t)) = ((((grow (l.filter fun x => !tch ls h x)).filter (apt ls)).map (term c)).map fun x => -c h * x) := by
    rw [List.map_map]
    rfl
  rw [e2, rsum_mul]
  grind
/-! ### bits -/
theorem Bt.term {c : Int → Rat} {k : Nat} : ∀ {l : List Int}, (∀ h ∈ l, Bt (c h) k) → Bt (term c l) (k * l.length)
  | [], _ => by rw [Mi.term]; simpa using Bt.one
  | h :: l, H => by
    have h1 := (H h List.mem_cons_self).neg
    have h2 := Bt.term fun x hx => H x (List.mem_cons_of_mem _ hx)
    have := h1.mul h2
    rw [List.length_cons, Nat.mul_succ, Nat.add_comm]
    exact this
theorem altS_bits {c : Int → Rat} {ls : List (List Int)} {k : Nat} : ∀ (n : Nat) {l : List Int}, l.length ≤ n → l.Pairwise (· < ·) → (∀ h ∈ l, Bt (c h) k) → Bt (altS c ls l) ((k + 1) * (2 ^ l.length - 1))
  | _, [], _, _, _ => by rw [altS_nil]; simpa using Bt.one
  | 0, _ :: _, h, _, _ => by simp at h
  | n + 1, h :: l, hn, hp, H => by
    rw [altS_cons hp]
    rw [List.pairwise_cons] at hp
    rw [List.length_cons] at hn
    have h1 := altS_bits (ls := ls) n (by omega) hp.2 fun x hx => H x (List.mem_cons_of_mem _ hx)
    have hf : (l.filter fun x => !tch ls h x).length ≤ l.length := List.length_filter_le _ _
    have h2 := altS_bits (ls := ls) (l := l.filter fun x => !tch ls h x) n (by omega) (hp.2.sublist List.filter_sublist) fun x hx => H x (List.mem_cons_of_mem _ (List.mem_filter.mp hx).1)
    have h3 := h1.sub ((H h List.mem_cons_self).mul h2)
    refine h3.mono ?_
    have hpw : 2 ^ (l.filter fun x => !tch ls h x).length ≤ 2 ^ l.length := Nat.pow_le_pow_right (by omega) hf
    have h0 : 1 ≤ 2 ^ l.length := Nat.one_le_two_pow
    have e : 2 ^ (h :: l).length = 2 * 2 ^ l.length := by rw [List.length_cons, Nat.pow_succ, Nat.mul_comm]
    rw [e]
    have m1 : (k + 1) * (2 ^ (l.filter fun x => !tch ls h x).length - 1) ≤ (k + 1) * (2 ^ l.length - 1) := Nat.mul_le_mul_left _ (by omega)
    have m2 : (k + 1) * (2 * 2 ^ l.length - 1) = (k + 1) * (2 ^ l.length - 1) + ((k + 1) * (2 ^ l.length - 1) + (k + 1)) := by
      rw [← Nat.mul_succ, ← Nat.mul_add]
      congr 1
      omega
    rw [m2]
    omega
theorem Bt.rsum {k : Nat} : ∀ {l : List Rat}, (∀ x ∈ l, Bt x k) → Bt (rsum l) ((k + 1) * l.length)
  | [], _ => by simpa [Mi.rsum] using Bt.zero
  | a :: l, H => by
    have h1 := H a List.mem_cons_self
    have h2 := Bt.rsum fun x hx => H x (List.mem_cons_of_mem _ hx)
    have := h1.add h2
    rw [List.length_cons, Nat.mul_succ]
    exact this.mono (by omega)
end Mi

/-! The law's own sum of a lot. -/
namespace Mi
open PySem PySem.Spec
open PyProof.Rows hiding St
open L2
/-! ### lots by bits -/
def pickR (p : Nat) : List Int → List Int
  | [] => []
  | x :: r => pickR p r ++ if p / 2 ^ r.length % 2 = 1 then [x] else []
theorem pickR_add (n q : Nat) : ∀ r : List Int, r.length ≤ n → pickR (2 ^ n + q) r = pickR q r
  | [], _ => rfl
  | x :: r, h => by
    rw [List.length_cons] at h
    have e : (2 ^ n + q) / 2 ^ r.length % 2 = q / 2 ^ r.length % 2 := by
      obtain ⟨k, rfl⟩ : ∃ k, n = r.length + 1 + k := ⟨n - (r.length + 1), by omega⟩
      have : 2 ^ (r.length + 1 + k) = 2 ^ r.length * (2 * 2 ^ k) := by
        rw [Nat.pow_add, Nat.pow_succ, Nat.mul_assoc]
      rw [this, Nat.mul_add_div (Nat.two_pow_pos _)]
      omega
    rw [pickR, pickR, pickR_add n q r (by omega), e]
theorem growR_pick : ∀ r : List Int, growR r = (List.range (2 ^ r.length)).map fun p => pickR p r
  | [] => rfl
  | x :: t => by
    rw [growR, growR_pick t, List.length_cons, show 2 ^ (t.length + 1) = 2 ^ t.length + 2 ^ t.length by rw [Nat.pow_succ]; omega, List.range_add, List.map_append, List.map_map, List.map_map]
    congr 1
    · refine List.map_congr_left fun p hp => ?_
      rw [List.mem_range] at hp
      rw [pickR, Nat.div_eq_of_lt hp]
      simp
    · refine List.map_congr_left fun p hp => ?_
      rw [List.mem_range] at hp
      show pickR p t ++ [x] = pickR (2 ^ t.length + p) (x :: t)
      rw [pickR, pickR_add _ _ _ (Nat.le_refl _)]
      have : (2 ^ t.length + p) / 2 ^ t.length % 2 = 1 := by
        rw [Nat.add_div_left _ (Nat.two_pow_pos _), Nat.div_eq_of_lt hp]
      rw [if_pos this]
def bitB (p : Nat) (i : Int) : Bool := decide (p / 2 ^ i.toNat % 2 = 1)
theorem nat_at_left {l : List Int} {x i : Int} (h0 : 0 ≤ i) (h1 : i < l.length) : nat_at (l ++ [x]) i = nat_at l i := by
  obtain ⟨n, rfl⟩ := Int.eq_ofNat_of_zero_le h0
  unfold nat_at
  rw [atI_nat, atI_nat, List.getElem?_append_left (by omega)]
theorem nat_at_last {l : List Int} {x : Int} (h : 0 ≤ x) : ((nat_at (l ++ [x]) l.length : Nat) : Int) = x := by
  unfold nat_at
  rw [atI_nat, List.getElem?_append_right (Nat.le_refl _)]
  simp
  omega
theorem irange_succ (n : Nat) : irange 0 ((n + 1 : Nat) : Int) = irange 0 n ++ [(n : Int)] := by
  unfold irange
  rw [show (((n + 1 : Nat) : Int) - 0).toNat = n + 1 by omega, show ((n : Int) - 0).toNat = n by omega, List.range_succ, List.map_append]
  simp
theorem pick_comp (p : Nat) : ∀ {r : List Int}, (∀ x ∈ r, 0 ≤ x) → ((irange 0 r.reverse.length).filter (bitB p)).map (fun i => ((nat_at r.reverse i : Nat) : Int)) = pickR p r
  | [], _ => rfl
  | x :: r, h => by
    have ih := pick_comp p (r := r) fun y hy => h y (List.mem_cons_of_mem _ hy)
    have hl : (x :: r).reverse.length = r.reverse.length + 1 := by simp
    rw [hl, irange_succ, List.filter_append, List.map_append, pickR, ← ih, List.reverse_cons]
    congr 1
    · refine List.map_congr_left fun i hi => ?_
      have := mem_ints.mp (List.mem_filter.mp hi).1
      rw [nat_at_left this.1 this.2]
    · have e : bitB p (r.reverse.length : Int) = decide (p / 2 ^ r.length % 2 = 1) := by
        unfold bitB
        rw [Int.toNat_natCast, List.length_reverse]
      by_cases hb : p / 2 ^ r.length % 2 = 1
      · rw [List.filter_cons_of_pos (by rw [e, decide_eq_true hb]), if_pos hb]
        simp only [List.filter_nil, List.map_cons, List.map_nil]
        rw [nat_at_last (h x List.mem_cons_self)]
      · rw [List.filter_cons_of_neg (by rw [e]; simpa using hb), if_neg hb]
        rfl
theorem grow_pick {l : List Int} (h : ∀ x ∈ l, 0 ≤ x) : grow l = (List.range (2 ^ l.length)).map fun p => ((irange 0 l.length).filter (bitB p)).map fun i => ((nat_at l i : Nat) : Int) := by
  unfold grow
  rw [growR_pick, List.length_reverse]
  refine List.map_congr_left fun p _ => ?_
  have := pick_comp p (r := l.reverse) fun x hx => h x (List.mem_reverse.mp hx)
  rw [List.reverse_reverse] at this
  exact this.symm
/-! ### chances -/
def chD (cs : List Rat) : D := .tup (cs.map frQ)
def cAt (cs : List Rat) (h : Int) : Rat := (atI cs h).getD 0
def dprod : List Rat → Nat
  | [] => 1
  | q :: l => q.den * dprod l
structure Ch (m : Int) (cs : List Rat) : Prop where
  len : (cs.length : Int) = m
  pos : ∀ q ∈ cs, 0 ≤ q ∧ q ≤ 1
  den : dprod cs ≤ 2 ^ 1500
/-- at most so much -/
def Ab (k : Nat) (q : Rat) : Prop := q.num.natAbs ≤ k * q.den
theorem Ab.mk {N : Int} {D k : Nat} (hD : 0 < D) (h : N.natAbs ≤ k * D) : Ab k (mkRat N D) := by
  unfold Ab
  rw [mkRat_num hD, mkRat_den hD, Int.natAbs_ediv_of_dvd (Int.ofNat_dvd_left.mpr (Nat.gcd_dvd_left _ _))]
  show N.natAbs / Nat.gcd N.natAbs D ≤ k * (D / Nat.gcd N.natAbs D)
  rw [← Nat.mul_div_assoc _ (Nat.gcd_dvd_right _ _)]
  exact Nat.div_le_div_right h
theorem Ab.mono {j k : Nat} {q : Rat} (h : Ab j q) (hjk : j ≤ k) : Ab k q := Nat.le_trans h (Nat.mul_le_mul_right _ hjk)
theorem Ab.mul {j k : Nat} {p q : Rat} (hp : Ab j p) (hq : Ab k q) : Ab (j * k) (p * q) := by
  rw [Rat.mul_def']
  refine Ab.mk (den_mul_pos p q) ?_
  rw [Int.natAbs_mul]
  refine Nat.le_trans (Nat.mul_le_mul hp hq) (Nat.le_of_eq ?_)
  rw [Nat.mul_mul_mul_comm]
theorem Ab.add {j k : Nat} {p q : Rat} (hp : Ab j p) (hq : Ab k q) : Ab (j + k) (p + q) := by
  rw [Rat.add_def']
  refine Ab.mk (den_mul_pos p q) ?_
  have h1 := Int.natAbs_add_le (p.num * (q.den : Int)) (q.num * (p.den : Int))
  have h2 : (p.num * (q.den : Int)).natAbs ≤ j * (p.den * q.den) := by
    rw [Int.natAbs_mul, Int.natAbs_natCast, ← Nat.mul_assoc]
    exact Nat.mul_le_mul_right _ hp
  have h3 : (q.num * (p.den : Int)).natAbs ≤ k * (p.den * q.den) := by
    rw [Int.natAbs_mul, Int.natAbs_natCast, Nat.mul_comm p.den, ← Nat.mul_assoc]
    exact Nat.mul_le_mul_right _ hq
  rw [Nat.add_mul]
  omega
theorem Ab.neg {k : Nat} {q : Rat} (h : Ab k q) : Ab k (-q) := by
  unfold Ab
  rw [Rat.neg_num, Rat.neg_den, Int.natAbs_neg]
  exact h
theorem Ab.of01 {q : Rat} (h : 0 ≤ q ∧ q ≤ 1) : Ab 1 q := by
  have h0 := Rat.num_nonneg.mpr h.1
  have h1 := (Rat.le_iff q 1).mp h.2
  unfold Ab
  simp at h1
  omega
theorem den_mk {N : Int} {D : Nat} (hD : 0 < D) : (mkRat N D).den ∣ D := by
  rw [mkRat_den hD]
  exact Nat.div_dvd_of_dvd (Nat.gcd_dvd_right _ _)
theorem den_mul (p q : Rat) : (p * q).den ∣ p.den * q.den := by
  rw [Rat.mul_def']
  exact den_mk (den_mul_pos p q)
theorem over_of {q : Rat} {P : Nat} (h : q.den ∣ P) (hP : 0 < P) : ∃ x : Int, q = mkRat x P := by
  obtain ⟨k, rfl⟩ := h
  have hk : k ≠ 0 := fun z => by subst z; simp at hP
  exact ⟨q.num * k, by rw [Rat.mkRat_mul_right hk, Rat.mkRat_self]⟩
theorem den_add {p q : Rat} {P : Nat} (hp : p.den ∣ P) (hq : q.den ∣ P) (hP : 0 < P) : (p + q).den ∣ P := by
  obtain ⟨x, rfl⟩ := over_of hp hP
  obtain ⟨y, rfl⟩ := over_of hq hP
  have h0 : P ≠ 0 := by omega
  rw [Rat.mkRat_add_mkRat _ _ h0 h0, ← Int.add_mul, Rat.mkRat_mul_right h0]
  exact den_mk hP
def dterm (c : Int → Rat) : List Int → Nat
  | [] => 1
  | h :: t => (c h).den * dterm c t
theorem den_term (c : Int → Rat) : ∀ l : List Int, (term c l).den ∣ dterm c l
  | [] => by simp [term, dterm]
  | h :: t => by
    rw [term, dterm]
    refine Nat.dvd_trans (den_mul _ _) ?_
    rw [Rat.neg_den]
    exact Nat.mul_dvd_mul_left _ (den_term c t)
theorem dterm_sub (c : Int → Rat) {k l : List Int} (h : k.Sublist l) : dterm c k ∣ dterm c l := by
  induction h with
  | slnil => exact Nat.dvd_refl _
  | cons a _ ih => exact Nat.dvd_trans ih (Nat.dvd_mul_left _ _)
  | cons_cons a _ ih => exact Nat.mul_dvd_mul_left _ ih
theorem ab_term {c : Int → Rat} : ∀ {l : List Int}, (∀ x ∈ l, Ab 1 (c x)) → Ab 1 (term c l)
  | [], _ => by simp [term, Ab]
  | h :: t, H => by
    rw [term]
    exact (H h List.mem_cons_self).neg.mul (ab_term fun x hx => H x (List.mem_cons_of_mem _ hx))
theorem ab_rsum : ∀ {l : List Rat}, (∀ x ∈ l, Ab 1 x) → Ab l.length (rsum l)
  | [], _ => by simp [rsum, Ab]
  | a :: l, H => by
    rw [rsum, List.length_cons, Nat.add_comm]
    exact (H a List.mem_cons_self).add (ab_rsum fun x hx => H x (List.mem_cons_of_mem _ hx))
theorem den_rsum {P : Nat} (hP : 0 < P) : ∀ {l : List Rat}, (∀ x ∈ l, x.den ∣ P) → (rsum l).den ∣ P
  | [], _ => by simp [rsum]
  | a :: l, H => by
    rw [rsum]
    exact den_add (H a List.mem_cons_self) (den_rsum hP fun x hx => H x (List.mem_cons_of_mem _ hx)) hP
theorem Bt.of {q : Rat} {P k p a : Nat} (hd : q.den ∣ P) (hP : 0 < P) (hp : P ≤ 2 ^ p) (ha : Ab k q) (hk : k ≤ 2 ^ a) : Bt q (p + a) := by
  have h1 := Nat.le_of_dvd hP hd
  refine ⟨Nat.le_trans ha ?_, Nat.le_trans (Nat.le_trans h1 hp) (Nat.pow_le_pow_right (by omega) (by omega))⟩
  rw [Nat.pow_add, Nat.mul_comm]
  exact Nat.mul_le_mul (Nat.le_trans h1 hp) hk
theorem dprod_eq (c : Int → Rat) : ∀ l : List Int, dprod (l.map c) = dterm c l
  | [] => rfl
  | h :: t => by rw [List.map_cons, dprod, dterm, dprod_eq c t]
theorem cs_eq {m : Int} {cs : List Rat} (hl : (cs.length : Int) = m) : (irange 0 m).map (cAt cs) = cs := by
  refine List.ext_getElem? fun i => ?_
  unfold irange
  rw [List.map_map, List.getElem?_map]
  by_cases h : i < cs.length
  · rw [List.getElem?_range (by omega), List.getElem?_eq_getElem h]
    simp [cAt, atI_nat, List.getElem?_eq_getElem h]
  · rw [List.getElem?_eq_none (by simp; omega), List.getElem?_eq_none (by omega)]
    rfl
theorem dprod_pos : ∀ l : List Rat, 0 < dprod l
  | [] => by simp [dprod]
  | q :: l => Nat.mul_pos q.den_pos (dprod_pos l)
theorem Ch.ix {m : Int} {cs : List Rat} (C : Ch m cs) {h : Int} (h0 : 0 ≤ h) (h1 : h < m) : ixD (chD cs) (.int h) = some (.val (frQ (cAt cs h))) := by
  obtain ⟨v, e, _⟩ := atI_some (l := cs) h0 (by rw [C.len]; exact h1)
  simp [ixD, chD, cAt, atI_map, e]
theorem Ch.at {m : Int} {cs : List Rat} (C : Ch m cs) {h : Int} (h0 : 0 ≤ h) (h1 : h < m) : cAt cs h ∈ cs := by
  obtain ⟨v, e, hv⟩ := atI_some (l := cs) h0 (by rw [C.len]; exact h1)
  unfold cAt
  rw [e]
  exact hv
theorem den_dvd {q : Rat} : ∀ {l : List Rat}, q ∈ l → q.den ∣ dprod l
  | a :: l, h => by
    rcases List.mem_cons.mp h with rfl | h
    · exact Nat.dvd_mul_right _ _
    · exact Nat.dvd_trans (den_dvd h) (Nat.dvd_mul_left _ _)
theorem Ch.bit {m : Int} {cs : List Rat} (C : Ch m cs) (h : Int) (h0 : 0 ≤ h) (h1 : h < m) : Bt (cAt cs h) 1500 :=
  Bt.of (a := 0) (den_dvd (C.at h0 h1)) (dprod_pos cs) C.den (Ab.of01 (C.pos _ (C.at h0 h1))) (by decide)
/-- a lot of a web -/
structure Lt (m : Int) (l : List Int) : Prop where
  asc : l.Pairwise (· < ·)
  mem : ∀ x ∈ l, 0 ≤ x ∧ x < m
  few : l.length ≤ 6
theorem Lt.sub {m : Int} {l k : List Int} (h : Lt m l) (s : k.Sublist l) : Lt m k := ⟨h.asc.sublist s, fun x hx => h.mem x (s.subset hx), Nat.le_trans s.length_le h.few⟩
theorem Lt.of {m : Int} (hm : 0 ≤ m ∧ m ≤ 6) {l : List Int} (s : l.Sublist (irange 0 m)) : Lt m l := by
  refine ⟨(irange_pw 0 m).sublist s, fun x hx => mem_ints.mp (s.subset hx), ?_⟩
  have := s.length_le
  rw [irange_len] at this
  omega
/-- bits of parts and of sums -/
theorem Ch.bsum {m : Int} {cs : List Rat} (C : Ch m cs) {Ts : List (List Int)} (h : ∀ T ∈ Ts, T.Sublist (irange 0 m)) (hl : Ts.length ≤ 64) : Bt (rsum (Ts.map (term (cAt cs)))) 1506 := by
  have hP : dprod cs = dterm (cAt cs) (irange 0 m) := by
    rw [← dprod_eq, cs_eq C.len]
  refine Bt.of (a := 6) (den_rsum (dprod_pos cs) fun x hx => ?_) (dprod_pos cs) C.den ((ab_rsum fun x hx => ?_).mono (by rw [List.length_map]; exact hl)) (by decide)
  · obtain ⟨T, hT, rfl⟩ := List.mem_map.mp hx
    rw [hP]
    exact Nat.dvd_trans (den_term _ T) (dterm_sub _ (h T hT))
  · obtain ⟨T, hT, rfl⟩ := List.mem_map.mp hx
    exact ab_term fun x hx => Ab.of01 (C.pos _ (C.at (mem_ints.mp ((h T hT).subset hx)).1 (mem_ints.mp ((h T hT).subset hx)).2))
theorem Ch.bterm {m : Int} {cs : List Rat} (C : Ch m cs) {T : List Int} (h : T.Sublist (irange 0 m)) : Bt (term (cAt cs) T) 1506 := by
  have := C.bsum (Ts := [T]) (fun _ z => by rw [List.mem_singleton.mp z]; exact h) (by simp)
  simp only [List.map_cons, List.map_nil, rsum] at this
  rwa [Rat.add_zero] at this
theorem Ch.balt {m : Int} {cs : List Rat} (C : Ch m cs) {ls : List (List Int)} {l : List Int} (h : l.Sublist (irange 0 m)) (hl : l.length ≤ 6) : Bt (altS (cAt cs) ls l) 1506 := by
  refine C.bsum (fun T hT => (grow_sub (List.mem_filter.mp hT).1).trans h) (Nat.le_trans (List.length_filter_le _ _) ?_)
  rw [grow_len]
  exact Nat.le_trans (Nat.pow_le_pow_right (by omega) hl) (by decide)
theorem asc_sub {m : Int} : ∀ {l : List Int} {lo : Int}, l.Pairwise (· < ·) → (∀ x ∈ l, lo ≤ x ∧ x < m) → l.Sublist (irange lo m)
  | [], _, _, _ => List.nil_sublist _
  | a :: l, lo, hp, hm => by
    rw [List.pairwise_cons] at hp
    have ha := hm a List.mem_cons_self
    have ih := asc_sub (lo := a + 1) hp.2 fun x hx => ⟨by have := hp.1 x hx; omega, (hm x (List.mem_cons_of_mem _ hx)).2⟩
    have e : irange lo m = irange lo a ++ a :: irange (a + 1) m := by
      unfold irange
      have e1 : (m - lo).toNat = (a - lo).toNat + ((m - (a + 1)).toNat + 1) := by omega
      rw [e1, List.range_add, List.map_append]
      congr 1
      rw [List.range_succ_eq_map, List.map_map, List.map_cons, List.map_map]
      congr 1
      · show lo + (((a - lo).toNat + 0 : Nat) : Int) = a
        omega
      · refine List.map_congr_left fun i _ => ?_
        show lo + (((a - lo).toNat + (i + 1) : Nat) : Int) = a + 1 + (i : Int)
        omega
    rw [e]
    exact (List.Sublist.cons_cons a ih).trans (List.sublist_append_right _ _)
theorem Lt.rng {m : Int} {l : List Int} (L : Lt m l) : l.Sublist (irange 0 m) := asc_sub L.asc L.mem
end Mi

/-! Lots, the law's sum of a lot. -/
namespace Mi
open PySem PySem.Spec
open PyProof.Rows hiding St
open L2
theorem lot_order_ok (l : List Int) : f_lot_order [lotD l] = some (false, szD l, .non) :=
  fn_run (ret_rt (r := .val (szD l)) (tup_of (cons_of (r := .val (.int l.length)) (blt_of (cons_of (r := .val (lotD l)) rfl rfl) rfl (by simp [lenK, D.seq, lotD])) (cons_of (r := .val (lotD l)) rfl rfl)) rfl (by simp))) rfl
theorem keys_ok : ∀ L : List (List Int), keysD f_lot_order (L.map lotD) = some (L.map szD)
  | [] => rfl
  | l :: L => by simp only [List.map_cons, keysD, lot_order_ok, keys_ok L, Option.map_some]
theorem im_szs (L : List (List Int)) : D.imAll (L.map szD) = true := by
  induction L with
  | nil => rfl
  | cons l L ih => simp [D.imAll, szD, D.im, ih]
theorem sortKK_ok (L : List (List Int)) (h : L.length ≤ 16000000) : sortKK f_lot_order [.lst (L.map lotD)] = some (.new (.lst ((bySize L).map lotD))) := by
  unfold sortKK
  simp only [D.seqL, keys_ok, im_lotAll, im_szs, sortB_sz L h, Bool.and_self, if_true, sortBy_sz]
/-- the law's lots -/
theorem lots_ok (m : Int) (hm : 0 ≤ m ∧ m ≤ 6) : f_law_lots [.int m] = some (true, .lst ((bySize (grow (irange 0 m))).map lotD), .non) := by
  let E : List (List Int) → Slot → En := fun acc x => [.fr (.int m), .ow false false (.lst (acc.map lotD)), x, .un, .un]
  have hil : (irange 0 m).length ≤ 6 := by rw [irange_len]; omega
  have hgl : ∀ j, (grow ((irange 0 m).take j)).length ≤ 64 := fun j => by
    rw [grow_len]
    have h1 : ((irange 0 m).take j).length ≤ 6 := by rw [List.length_take]; omega
    exact Nat.le_trans (Nat.pow_le_pow_right (by omega) h1) (by decide)
  obtain ⟨ρ', e, x, rfl, fx⟩ := loopS_inv (T := nameT 2) (F := setS 1 (bin2 addD (varF 1) (compE [4] (seqI (varF 1)) (nameT 4) (yesT) (bin2 addD (varF 4) (tupF (consA (varF 2) (nilA)))))))
    (fun j ρ => ∃ x, ρ = E (grow ((irange 0 m).take j)) x ∧ frq x = true) (rangeD 0 m) 0 (E (grow []) .un) (fun j d hd ρ ⟨x, hρ, fx⟩ => by
      subst hρ
      rw [range_ints, List.getElem?_map] at hd
      cases q : (irange 0 m)[j]? with
      | none => rw [q] at hd; cases hd
      | some h =>
        rw [q] at hd
        cases hd
        rw [Nat.zero_add]
        have et : (irange 0 m).take (j + 1) = (irange 0 m).take j ++ [h] := by rw [List.take_add_one, q]; rfl
        have hl := hgl j
        generalize hG : grow ((irange 0 m).take j) = G at *
        refine ⟨E G (.fr (.int h)), E (grow ((irange 0 m).take (j + 1))) (.fr (.int h)), by simp [E, frq_free fx], .inl ?_, .fr (.int h), rfl, rfl⟩
        have c : compE [4] (seqI (varF 1)) (nameT 4) (yesT) (bin2 addD (varF 4) (tupF (consA (varF 2) (nilA)))) (E G (.fr (.int h))) = some (.new (.lst (G.map fun l => lotD (l ++ [h]))), E G (.fr (.int h))) :=
          compE_map (ρ1 := E G (.fr (.int h))) (ρb := [.fr (.int m), .ow false true (.lst (G.map lotD)), .fr (.int h), .un, .un]) (rs := [.slot 1]) (xs := G) lotD (fun l => lotD (l ++ [h])) (seq_slot rfl) rfl (by omega) (fun l _ => ⟨[.fr (.int m), .ow false true (.lst (G.map lotD)), .fr (.int h), .un, .fr (lotD l)], .val (lotD (l ++ [h])), [.fr (.int m), .ow false true (.lst (G.map lotD)), .fr (.int h), .un, .fr (lotD l)], rfl,
            bin_of (r1 := .val (lotD l)) (r2 := .val (lotD [h])) rfl rfl rfl rfl (by
              have hll : l.length ≤ 100 := by
                have := (grow_sub (hs := (irange 0 m).take j) (l := l) (by rw [hG]; assumption)).length_le
                rw [List.length_take] at this
                omega
              rw [lotD, lotD, add_tup (by simp; omega)]
              simp [lotD]), rfl, rfl⟩)
        refine set_nx (bin_of (r1 := .slot 1) (r2 := .new (.lst (G.map fun l => lotD (l ++ [h])))) (o := .new (.lst (G.map lotD ++ G.map fun l => lotD (l ++ [h])))) rfl c rfl rfl (add_lst (by simp; omega))) ?_
        rw [et, grow_snoc, hG]
        simp [E]) ⟨.un, rfl, rfl⟩
  rw [Nat.zero_add, range_len, show (irange 0 m).take (m - 0).toNat = irange 0 m from List.take_of_length_le (by rw [irange_len]; omega)] at e
  have hl : (grow (irange 0 m)).length ≤ 64 := by
    have := hgl (irange 0 m).length
    rwa [List.take_length] at this
  generalize hG : grow (irange 0 m) = G at *
  have hll : ∀ l ∈ G, l.length ≤ 6 := fun l hl => by
    subst hG
    exact Nat.le_trans (grow_sub hl).length_le hil
  have c1 : compE [4] (seqI (varF 1)) (nameT 4) (yesT) (tupF (consA (bltE lenK (consA (varF 4) (nilA))) (consA (varF 4) (nilA)))) (E G x) = some (.new (.lst (G.map szD)), E G x) :=
    compE_map (ρ1 := E G x) (ρb := [.fr (.int m), .ow false true (.lst (G.map lotD)), x, .un, .un]) (rs := [.slot 1]) (xs := G) lotD szD (seq_slot rfl) rfl (by omega) (fun l _ => ⟨[.fr (.int m), .ow false true (.lst (G.map lotD)), x, .un, .fr (lotD l)], .val (szD l), [.fr (.int m), .ow false true (.lst (G.map lotD)), x, .un, .fr (lotD l)], rfl,
      tup_of (cons_of (r := .val (.int l.length)) (blt_of (cons_of (r := .val (lotD l)) rfl rfl) rfl (by simp [lenK, D.seq, lotD])) (cons_of (r := .val (lotD l)) rfl rfl)) rfl (by simp), rfl, rfl⟩)
  have c2 : bltE sortK (consA (compE [4] (seqI (varF 1)) (nameT 4) (yesT) (tupF (consA (bltE lenK (consA (varF 4) (nilA))) (consA (varF 4) (nilA))))) (nilA)) (E G x) = some (.new (.lst ((bySize G).map szD)), E G x) :=
    blt_of (cons_of c1 rfl) rfl (by simp only [sortK, D.seqL, sortB_sz G (by omega), if_true, bySize_map])
  have hbl : (bySize G).length ≤ 64 := by rw [(bySize_perm G).length_eq]; exact hl
  have c3 : compE [3] (seqI (bltE sortK (consA (compE [4] (seqI (varF 1)) (nameT 4) (yesT) (tupF (consA (bltE lenK (consA (varF 4) (nilA))) (consA (varF 4) (nilA))))) (nilA)))) (nameT 3) (yesT) (bin2 ixD (varF 3) (valF (.int 1))) (E G x) = some (.new (.lst ((bySize G).map lotD)), E G x) :=
    compE_map (ρ1 := E G x) (ρb := E G x) (rs := [.new (.lst ((bySize G).map szD))]) (xs := bySize G) szD lotD (seq_new c2) rfl (by omega) (fun l _ => ⟨[.fr (.int m), .ow false false (.lst (G.map lotD)), x, .fr (szD l), .un], .val (lotD l), [.fr (.int m), .ow false false (.lst (G.map lotD)), x, .fr (szD l), .un], rfl,
      bin_of (r1 := .val (szD l)) (r2 := .val (.int 1)) rfl rfl rfl rfl (by simp [ixD, szD]), rfl, rfl⟩)
  exact fn_run (seq_nx (ρ1 := E (grow []) .un) rfl (seq_nx (for_nx (rs := []) (rngI_of (j := m) rfl hm.1 (by omega)) e rfl) (ret_rt c3))) rfl
theorem lapart_ok {m : Int} {ls : List (List Int)} (hls : ls.length ≤ 60) {l : List Int} (hl : l.length ≤ 60) : f_law_apart [webD m ls, lotD l] = some (false, .bl (apt ls l), .non) := by
  let ρ0 : En := [.fr (webD m ls), .fr (lotD l), .un, .un]
  have c : compE [2] (seqI (varF 1)) (nameT 2) (ofV (bin2 (cmpV neK) (compE [3] (seqI (varF 1)) (nameT 3) (andT (ofV (bin2 (cmpV ltD) (varF 2) (varF 3))) (truT (callE none f_law_touch (consA (varF 0) (consA (varF 2) (consA (varF 3) (nilA))))))) (valF (.int 1))) (lstF (nilA)))) (valF (.int 1)) ρ0 =
      some (.new (.lst ((l.filter fun a => l.any fun b => decide (a < b) && tch ls a b).map fun _ => .int 1)), ρ0) :=
    compE_filter (ρ1 := ρ0) (ρb := ρ0) (rs := [.val (lotD l)]) (xs := l) D.int (fun _ => .int 1) (fun a => l.any fun b => decide (a < b) && tch ls a b) (seq_lot rfl) rfl (by omega) (fun a _ => by
      let ρ1 : En := [.fr (webD m ls), .fr (lotD l), .fr (.int a), .un]
      have c2 : compE [3] (seqI (varF 1)) (nameT 3) (andT (ofV (bin2 (cmpV ltD) (varF 2) (varF 3))) (truT (callE none f_law_touch (consA (varF 0) (consA (varF 2) (consA (varF 3) (nilA))))))) (valF (.int 1)) ρ1 = some (.new (.lst ((l.filter fun b => decide (a < b) && tch ls a b).map fun _ => .int 1)), ρ1) :=
        compE_filter (ρ1 := ρ1) (ρb := ρ1) (rs := [.val (lotD l)]) (xs := l) D.int (fun _ => .int 1) (fun b => decide (a < b) && tch ls a b) (seq_lot rfl) rfl (by omega) (fun b _ => ⟨[.fr (webD m ls), .fr (lotD l), .fr (.int a), .fr (.int b)], [.fr (webD m ls), .fr (lotD l), .fr (.int a), .fr (.int b)], rfl,
          andT_of (of_of (bin_of (r1 := .val (.int a)) (r2 := .val (.int b)) (o := .val (.bl (decide (a < b)))) rfl rfl rfl rfl (by simp [cmpV]))) (fun _ => tru_of (call_of (cons_of (r := .val (webD m ls)) rfl (cons_of (r := .val (.int a)) rfl (cons_of (r := .val (.int b)) rfl rfl))) rfl (ltouch_ok m a b ls hls) rfl rfl)), fun _ => rfl, fun _ => ⟨_, _, rfl, rfl, rfl⟩⟩)
      exact ⟨ρ1, ρ1, rfl, of_of (bin_of c2 (r2 := .new (.lst [])) rfl rfl rfl (by simp only [cmpV, ones_ok]; rfl)), fun _ => rfl, fun _ => ⟨_, ρ1, rfl, rfl, rfl⟩⟩)
  exact fn_run (ret_rt (bin_of c (r2 := .new (.lst [])) (o := .val (.bl (apt ls l))) rfl rfl rfl (by simp only [cmpV, noes_ok]; rfl))) rfl

/-- the program's lots -/
theorem lots_of_ok (m : Int) (hm : 0 ≤ m ∧ m ≤ 6) : f_lots_of [.int m] = some (false, lotsD (bySize (grow (irange 0 m))), .non) := by
  let E : List (List Int) → Slot → En := fun acc x => [.fr (.int m), .ow false false (.lst (acc.map lotD)), x, .un]
  have hil : (irange 0 m).length ≤ 6 := by rw [irange_len]; omega
  have hgl : ∀ j, (grow ((irange 0 m).take j)).length ≤ 64 := fun j => by
    rw [grow_len]
    have h1 : ((irange 0 m).take j).length ≤ 6 := by rw [List.length_take]; omega
    exact Nat.le_trans (Nat.pow_le_pow_right (by omega) h1) (by decide)
  obtain ⟨ρ', e, x, rfl, fx⟩ := loopS_inv (T := nameT 2) (F := dropS (extE 1 (compE [3] (seqI (varF 1)) (nameT 3) (yesT) (bin2 addD (varF 3) (tupF (consA (varF 2) (nilA)))))))
    (fun j ρ => ∃ x, ρ = E (grow ((irange 0 m).take j)) x ∧ frq x = true) (rangeD 0 m) 0 (E (grow []) .un) (fun j d hd ρ ⟨x, hρ, fx⟩ => by
      subst hρ
      rw [range_ints, List.getElem?_map] at hd
      cases q : (irange 0 m)[j]? with
      | none => rw [q] at hd; cases hd
      | some h =>
        rw [q] at hd
        cases hd
        rw [Nat.zero_add]
        have et : (irange 0 m).take (j + 1) = (irange 0 m).take j ++ [h] := by rw [List.take_add_one, q]; rfl
        have hl := hgl j
        generalize hG : grow ((irange 0 m).take j) = G at *
        refine ⟨E G (.fr (.int h)), E (grow ((irange 0 m).take (j + 1))) (.fr (.int h)), by simp [E, frq_free fx], .inl ?_, .fr (.int h), rfl, rfl⟩
        have c : compE [3] (seqI (varF 1)) (nameT 3) (yesT) (bin2 addD (varF 3) (tupF (consA (varF 2) (nilA)))) (E G (.fr (.int h))) = some (.new (.lst (G.map fun l => lotD (l ++ [h]))), E G (.fr (.int h))) :=
          compE_map (ρ1 := E G (.fr (.int h))) (ρb := [.fr (.int m), .ow false true (.lst (G.map lotD)), .fr (.int h), .un]) (rs := [.slot 1]) (xs := G) lotD (fun l => lotD (l ++ [h])) (seq_slot rfl) rfl (by omega) (fun l _ => ⟨[.fr (.int m), .ow false true (.lst (G.map lotD)), .fr (.int h), .fr (lotD l)], .val (lotD (l ++ [h])), [.fr (.int m), .ow false true (.lst (G.map lotD)), .fr (.int h), .fr (lotD l)], rfl,
            bin_of (r1 := .val (lotD l)) (r2 := .val (lotD [h])) rfl rfl rfl rfl (by
              have hll : l.length ≤ 100 := by
                have := (grow_sub (hs := (irange 0 m).take j) (l := l) (by rw [hG]; assumption)).length_le
                rw [List.length_take] at this
                omega
              rw [lotD, lotD, add_tup (by simp; omega)]
              simp [lotD]), rfl, rfl⟩)
        refine drop_of (r := .val .non) ?_
        rw [ext_of (p0 := false) (l0 := false) (p := false) (ds0 := G.map lotD) (ds := G.map lotD) rfl c rfl rfl (by simp; omega), et, grow_snoc, hG]
        simp [E]) ⟨.un, rfl, rfl⟩
  rw [Nat.zero_add, range_len, show (irange 0 m).take (m - 0).toNat = irange 0 m from List.take_of_length_le (by rw [irange_len]; omega)] at e
  have hl : (grow (irange 0 m)).length ≤ 64 := by
    have := hgl (irange 0 m).length
    rwa [List.take_length] at this
  generalize hG : grow (irange 0 m) = G at *
  have c : bltE tupK (consA (bltE (sortKK f_lot_order) (consA (varF 1) (nilA))) (nilA)) (E G x) = some (.val (lotsD (bySize G)), E G x) :=
    blt_of (cons_of (blt_of (cons_of (r := .slot 1) rfl rfl) rfl (sortKK_ok G (by omega))) rfl) rfl rfl
  exact fn_run (seq_nx (ρ1 := E (grow []) .un) rfl (seq_nx (for_nx (rs := []) (rngI_of (j := m) rfl hm.1 (by omega)) e rfl) (ret_rt c))) rfl
end Mi

/-! The law's own sum of a lot, run. -/
namespace Mi
open PySem PySem.Spec
open PyProof.Rows hiding St
open L2
theorem bit1 (p : Nat) (i : Int) (h0 : 0 ≤ i) : bin2 (cmpV eqK) (bin2 (iiD andI) (bin2 (iiD shrI) (valF (.int p)) (valF (.int i))) (valF (.int 1))) (valF (.int 1)) = fun ρ => some (.val (.bl (bitB p i)), ρ) := by
  funext ρ
  have e1 : iiD shrI (.int p) (.int i) = some (.val (.int ((p / 2 ^ i.toNat : Nat) : Int))) := by
    simp only [iiD, shrI, if_pos h0, Option.map_some]
    simp
  have e2 : iiD andI (.int ((p / 2 ^ i.toNat : Nat) : Int)) (.int 1) = some (.val (.int ((p / 2 ^ i.toNat % 2 : Nat) : Int))) := by
    generalize p / 2 ^ i.toNat = n
    have := Bits.bitAnd_mask (x := (n : Int)) 1 (Int.natCast_nonneg _)
    have e : Builtin.bitAnd (n : Int) 1 = ((n % 2 : Nat) : Int) := by
      rw [show ((1 : Int)) = 2 ^ 1 - 1 from rfl, this]
      omega
    simp only [iiD, andI, Option.map_some, e]
  refine bin_of (r1 := .val (.int ((p / 2 ^ i.toNat % 2 : Nat) : Int))) (r2 := .val (.int 1)) (bin_of (r1 := .val (.int ((p / 2 ^ i.toNat : Nat) : Int))) (r2 := .val (.int 1)) (bin_of (r1 := .val (.int p)) (r2 := .val (.int i)) rfl rfl rfl rfl e1) rfl rfl rfl e2) rfl rfl rfl ?_
  have e3 : decide (((p / 2 ^ i.toNat % 2 : Nat) : Int) = 1) = bitB p i := decide_eq_decide.mpr (by omega)
  simp only [cmpV, eqK_int, e3]
  rfl
abbrev bitT : STe := ofV (bin2 (cmpV eqK) (bin2 (iiD andI) (bin2 (iiD shrI) (varF 4) (varF 8)) (valF (.int 1))) (valF (.int 1)))
abbrev someE : SE := bltE tupK (consA (compE [8, 7] (enumI (consA (varF 2) (nilA))) (tupT [8, 7]) bitT (varF 7)) (nilA))
abbrev partS : SS := setS 6 (callE none f_law_times (consA (varF 6) (consA (tupF (consA (bin2 (iiD subI) (valF (.int 0)) (bin2 ixD (bin2 ixD (varF 1) (varF 7)) (valF (.int 0)))) (consA (bin2 ixD (bin2 ixD (varF 1) (varF 7)) (valF (.int 1))) (nilA)))) (nilA))))
section
variable {m : Int} {ls : List (List Int)} {cs : List Rat} {l : List Int}
abbrev Es (m : Int) (ls : List (List Int)) (cs : List Rat) (l : List Int) (t : Rat) (a4 a5 a6 a7 : Slot) : En := [.fr (webD m ls), .fr (chD cs), .fr (lotD l), .fr (frQ t), a4, a5, a6, a7, .un]
def lotAt (l : List Int) (p : Nat) : List Int := ((irange 0 l.length).filter (bitB p)).map fun i => ((nat_at l i : Nat) : Int)
theorem some_ok {t : Rat} {p : Nat} {a5 a6 a7 : Slot} (h0 : ∀ x ∈ l, 0 ≤ x) (hl : l.length ≤ 60) (f7 : frq a7 = true) : someE (Es m ls cs l t (.fr (.int p)) a5 a6 a7) = some (.val (lotD (lotAt l p)), Es m ls cs l t (.fr (.int p)) a5 a6 a7) := by
  have pl : plainAt (Es m ls cs l t (.fr (.int p)) a5 a6 a7) [8, 7] = true := by cases a7 <;> first | rfl | cases f7
  have c := compE_filter (own := [8, 7]) (it := enumI (consA (varF 2) (nilA))) (T := tupT [8, 7]) (t := bitT) (fe := varF 7) (ρ := Es m ls cs l t (.fr (.int p)) a5 a6 a7) (ρ1 := Es m ls cs l t (.fr (.int p)) a5 a6 a7) (ρb := Es m ls cs l t (.fr (.int p)) a5 a6 .un) (rs := [.val (lotD l)]) (xs := irange 0 l.length)
    (fun i => .tup [.int i, .int (nat_at l i)]) (fun i => .int (nat_at l i)) (bitB p) (enumI_lot h0 rfl) rfl (by rw [irange_len]; omega) (fun i hi => by
      have hi := mem_ints.mp hi
      let ρ1 : En := [.fr (webD m ls), .fr (chD cs), .fr (lotD l), .fr (frQ t), .fr (.int p), a5, a6, .fr (.int (nat_at l i)), .fr (.int i)]
      refine ⟨ρ1, ρ1, rfl, ?_, fun _ => rfl, fun _ => ⟨.val (.int (nat_at l i)), ρ1, rfl, rfl, rfl⟩⟩
      have := congrFun (bit1 p i hi.1) ρ1
      exact of_of this) pl
  refine blt_of (cons_of c rfl) rfl ?_
  unfold lotAt lotD
  rw [List.map_map]
  rfl
theorem part_loop (C : Ch m cs) {T : List Int} (hT : Lt m T) {t : Rat} {a4 a5 a7 : Slot} (f7 : frq a7 = true) : ∃ a7', loopS (nameT 7) partS (T.map .int) (Es m ls cs l t a4 a5 (.fr (frQ 1)) a7) = some (.nx (Es m ls cs l t a4 a5 (.fr (frQ (term (cAt cs) T))) a7')) ∧ frq a7' = true := by
  obtain ⟨ρ', e, x, rfl, fx⟩ := loopS_inv (T := nameT 7) (F := partS) (fun j ρ => ∃ x, ρ = Es m ls cs l t a4 a5 (.fr (frQ (term (cAt cs) (T.take j)))) x ∧ frq x = true) (T.map .int) 0 (Es m ls cs l t a4 a5 (.fr (frQ 1)) a7) (fun j d hd ρ ⟨x, hρ, fx⟩ => by
    subst hρ
    rw [List.getElem?_map] at hd
    cases q : T[j]? with
    | none => rw [q] at hd; cases hd
    | some h =>
      rw [q] at hd
      cases hd
      rw [Nat.zero_add]
      have hm := hT.mem h (List.mem_of_getElem? q)
      have et : T.take (j + 1) = T.take j ++ [h] := by rw [List.take_add_one, q]; rfl
      have S : Lt m (T.take j) := hT.sub (List.take_sublist _ _)
      have b1 : Bt (term (cAt cs) (T.take j)) 1506 := C.bterm S.rng
      let ρ1 : En := Es m ls cs l t a4 a5 (.fr (frQ (term (cAt cs) (T.take j)))) (.fr (.int h))
      have ix : bin2 ixD (varF 1) (varF 7) ρ1 = some (.val (frQ (cAt cs h)), ρ1) := bin_of (r1 := .val (chD cs)) (r2 := .val (.int h)) rfl rfl rfl rfl (C.ix hm.1 hm.2)
      have tp : tupF (consA (bin2 (iiD subI) (valF (.int 0)) (bin2 ixD (bin2 ixD (varF 1) (varF 7)) (valF (.int 0)))) (consA (bin2 ixD (bin2 ixD (varF 1) (varF 7)) (valF (.int 1))) (nilA))) ρ1 = some (.val (frQ (-cAt cs h)), ρ1) := by
        have := tup_of (ρ := ρ1) (cons_of (bin_of (k := iiD subI) (f := valF (.int 0)) (r1 := .val (.int 0)) (r2 := .val (.int (cAt cs h).num)) rfl (bin_of (g := valF (.int 0)) ix (r2 := .val (.int 0)) rfl rfl rfl (Fq.fr _).top) rfl rfl (o := .val (.int (0 - (cAt cs h).num))) rfl) (cons_of (bin_of (g := valF (.int 1)) ix (r2 := .val (.int 1)) rfl rfl rfl (Fq.fr _).bot) (F := nilA) rfl)) rfl (by simp)
        rw [this]
        unfold frQ
        rw [Rat.neg_num, Rat.neg_den, Int.zero_sub]
      refine ⟨ρ1, _, by simp [frq_free fx, ρ1], .inl (set_nx (call_of (cons_of (r := .val (frQ (term (cAt cs) (T.take j)))) rfl (cons_of tp rfl)) rfl (ltimes_ok (Fq.fr _) (Fq.fr _) b1 (C.bit h hm.1 hm.2).neg (by omega)) rfl rfl) rfl), .fr (.int h), ?_, rfl⟩
      rw [et, term_snoc]
      rfl) ⟨a7, rfl, f7⟩
  rw [Nat.zero_add, List.length_map, List.take_length] at e
  exact ⟨x, e, fx⟩
/-- the sum so far -/
def sumTo (c : Int → Rat) (ls : List (List Int)) (l : List Int) (j : Nat) : Rat := rsum ((((grow l).take j).filter (apt ls)).map (term c))
theorem sumTo_succ {c : Int → Rat} {j : Nat} {T : List Int} (e : (grow l)[j]? = some T) : sumTo c ls l (j + 1) = if apt ls T then sumTo c ls l j + term c T else sumTo c ls l j := by
  unfold sumTo
  rw [List.take_add_one, e, List.filter_append, List.map_append, rsum_append]
  by_cases h : apt ls T = true
  · simp only [Option.toList, List.filter_cons_of_pos h, List.filter_nil, List.map_cons, List.map_nil, rsum, if_pos h]
    grind
  · simp only [Option.toList, List.filter_cons_of_neg h, List.filter_nil, List.map_nil, rsum, if_neg h]
    grind
theorem sum_of_ok (C : Ch m cs) (hls : ls.length ≤ 60) (L : Lt m l) : f_law_sum_of [webD m ls, chD cs, lotD l] = some (false, frQ (altS (cAt cs) ls l), .non) := by
  have h0 : ∀ x ∈ l, 0 ≤ x := fun x hx => (L.mem x hx).1
  have hl6 := L.few
  have hgl : (grow l).length ≤ 64 := by
    rw [grow_len]
    exact Nat.le_trans (Nat.pow_le_pow_right (by omega) L.few) (by decide)
  have bits : ∀ j, Bt (sumTo (cAt cs) ls l j) 1506 := fun j => C.bsum (fun T hT => (grow_sub (List.mem_of_mem_take (List.mem_filter.mp hT).1)).trans L.rng) (by
    have h1 := List.length_filter_le (apt ls) ((grow l).take j)
    have h2 : ((grow l).take j).length ≤ 64 := by rw [List.length_take]; omega
    omega)
  have rng : rng1I (consA (bin2 (iiD shlI) (valF (.int 1)) (bltE lenK (consA (varF 2) (nilA)))) (nilA)) (Es m ls cs l 0 .un .un .un .un) = some ([], rangeD 0 ((2 ^ l.length : Nat) : Int), Es m ls cs l 0 .un .un .un .un) := by
    refine rngI_of (cons_of (bin_of (r1 := .val (.int 1)) (r2 := .val (.int l.length)) rfl (blt_of (cons_of (r := .val (lotD l)) rfl rfl) rfl (by simp [lenK, D.seq, lotD])) rfl rfl ?_) rfl) (Int.natCast_nonneg _) (by rw [← grow_len]; omega)
    have : (0 : Int) ≤ (l.length : Int) ∧ (l.length : Int) ≤ 1000000 ∧ (1 : Int).natAbs < 2 ^ 64 := ⟨by omega, by omega, by decide⟩
    simp only [iiD, shlI, if_pos this, Option.map_some]
    simp
  obtain ⟨ρ', e, a4, a5, a6, a7, rfl, _⟩ := loopS_inv (T := nameT 4) (F := seqS (setS 5 someE)
    (ifS (truT (callE none f_law_apart (consA (varF 0) (consA (varF 5) (nilA))))) (seqS (setS 6 (tupF (consA (valF (.int 1)) (consA (valF (.int 1)) (nilA)))))
    (seqS (forS (seqI (varF 5)) (nameT 7) partS) (setS 3 (callE none f_law_plus (consA (varF 3) (consA (varF 6) (nilA))))))) (skipS)))
    (fun j ρ => ∃ a4 a5 a6 a7, ρ = Es m ls cs l (sumTo (cAt cs) ls l j) a4 a5 a6 a7 ∧ frq a4 = true ∧ frq a5 = true ∧ frq a6 = true ∧ frq a7 = true) (rangeD 0 ((2 ^ l.length : Nat) : Int)) 0 (Es m ls cs l 0 .un .un .un .un) (fun j d hd ρ ⟨a4, a5, a6, a7, hρ, f4, f5, f6, f7⟩ => by
      subst hρ
      obtain ⟨rfl, hj⟩ := range_at hd
      rw [Nat.zero_add]
      have hj' : j < 2 ^ l.length := by omega
      have eT : (grow l)[j]? = some (lotAt l j) := by
        rw [grow_pick h0, List.getElem?_map, List.getElem?_range hj']
        rfl
      have sT := grow_sub (List.mem_of_getElem? eT)
      have LT := L.sub sT
      have e0 : (0 : Int) + (j : Int) = ((j : Nat) : Int) := by omega
      rw [e0]
      have c5 := some_ok (m := m) (ls := ls) (cs := cs) (t := sumTo (cAt cs) ls l j) (p := j) (a5 := a5) (a6 := a6) (a7 := a7) h0 (by omega) f7
      generalize lotAt l j = T at *
      have s5 : setS 5 someE (Es m ls cs l (sumTo (cAt cs) ls l j) (.fr (.int j)) a5 a6 a7) = some (.nx (Es m ls cs l (sumTo (cAt cs) ls l j) (.fr (.int j)) (.fr (lotD T)) a6 a7)) := set_nx c5 (by simp [frq_free f5])
      have ap : truT (callE none f_law_apart (consA (varF 0) (consA (varF 5) (nilA)))) (Es m ls cs l (sumTo (cAt cs) ls l j) (.fr (.int j)) (.fr (lotD T)) a6 a7) = some (apt ls T, Es m ls cs l (sumTo (cAt cs) ls l j) (.fr (.int j)) (.fr (lotD T)) a6 a7) :=
        tru_of (call_of (cons_of (r := .val (webD m ls)) rfl (cons_of (r := .val (lotD T)) rfl rfl)) rfl (lapart_ok hls (by have := LT.few; omega)) rfl rfl)
      rw [sumTo_succ eT]
      by_cases h : apt ls T = true
      · rw [h] at ap
        rw [if_pos h]
        obtain ⟨a7', e7, f7'⟩ := part_loop (m := m) (ls := ls) (cs := cs) (l := l) C LT (t := sumTo (cAt cs) ls l j) (a4 := .fr (.int j)) (a5 := .fr (lotD T)) (a7 := a7) f7
        have bT : Bt (term (cAt cs) T) 1506 := C.bterm LT.rng
        refine ⟨Es m ls cs l (sumTo (cAt cs) ls l j) (.fr (.int j)) a5 a6 a7, _, by simp [frq_free f4], .inl (seq_nx s5 (if_t ap (seq_nx (ρ1 := Es m ls cs l (sumTo (cAt cs) ls l j) (.fr (.int j)) (.fr (lotD T)) (.fr (frQ 1)) a7) (set_nx (r := .val (frQ 1)) rfl (by simp [frq_free f6])) (seq_nx (for_nx (rs := [.val (lotD T)]) (seq_lot rfl) e7 rfl)
          (set_nx (call_of (cons_of (r := .val (frQ (sumTo (cAt cs) ls l j))) rfl (cons_of (r := .val (frQ (term (cAt cs) T))) rfl rfl)) rfl (lplus_ok (Fq.fr _) (Fq.fr _) (bits j) bT (by omega)) rfl rfl) rfl))))), _, _, _, _, rfl, rfl, rfl, rfl, f7'⟩
      · rw [if_neg h]
        rw [Bool.not_eq_true] at h
        rw [h] at ap
        exact ⟨Es m ls cs l (sumTo (cAt cs) ls l j) (.fr (.int j)) a5 a6 a7, _, by simp [frq_free f4], .inl (seq_nx s5 (if_f ap rfl)), _, _, _, _, rfl, rfl, rfl, f6, f7⟩) ⟨.un, .un, .un, .un, by simp [sumTo, rsum], rfl, rfl, rfl, rfl⟩
  have el : sumTo (cAt cs) ls l (0 + (rangeD 0 ((2 ^ l.length : Nat) : Int)).length) = altS (cAt cs) ls l := by
    unfold sumTo altS
    rw [List.take_of_length_le]
    rw [range_len, grow_len]
    omega
  rw [el] at e
  exact fn_run (seq_nx (ρ1 := Es m ls cs l 0 .un .un .un .un) rfl (seq_nx (for_nx (rs := []) rng e rfl) (ret_rt (r := .val (frQ (altS (cAt cs) ls l))) rfl))) rfl
end
end Mi

/-! The program's sums of all lots. -/
namespace Mi
open PySem PySem.Spec
open PyProof.Rows hiding St
open L2
/-! ### lots as keys -/
theorem toKeys_ints : ∀ l : List Int, toKeys (l.map .int) = some (l.map .inl)
  | [] => rfl
  | x :: l => by simp [toKeys, toKeys_ints l, toKey]
theorem isKey_lot (l : List Int) : isKey true (lotD l) = true := by
  show (toKeys (l.map .int)).isSome = true
  rw [toKeys_ints]; rfl
theorem kEq_lot (a b : List Int) : kEq true (lotD a) (lotD b) = decide (a = b) := by
  have h : ∀ l : List Int, lotD l = .tup ((l.map Sum.inl : List Key).map keyD) := fun l => by
    unfold lotD
    rw [List.map_map]
    rfl
  rw [h a, h b, kEq_true]
  refine decide_eq_decide.mpr ⟨fun e => ?_, fun e => by rw [e]⟩
  exact (List.map_inj_right (fun i j e => Sum.inl.inj e)).mp e
def pairs (v : List Int → D) (L : List (List Int)) : List (D × D) := L.map fun l => (lotD l, v l)
theorem look_pairs (v : List Int → D) : ∀ (L : List (List Int)) (x : List Int), lookD true (pairs v L) (lotD x) = if x ∈ L then some (v x) else none
  | [], x => by simp [lookD, pairs]
  | l :: L, x => by
    have ih := look_pairs v L x
    unfold lookD pairs at ih ⊢
    rw [List.map_cons]
    by_cases h : l = x
    · subst h
      rw [List.find?_cons_of_pos (by show kEq true (lotD l) (lotD l) = true; rw [kEq_lot]; simp)]
      simp
    · rw [List.find?_cons_of_neg (by show ¬ kEq true (lotD l) (lotD x) = true; rw [kEq_lot]; simp [h]), ih]
      simp [Ne.symm h]
theorem put_pairs (v : List Int → D) {L : List (List Int)} {x : List Int} (h : x ∉ L) : putD true (pairs v L) (lotD x) (v x) = pairs v (L ++ [x]) := by
  unfold putD
  rw [look_pairs, if_neg h]
  simp [pairs]
theorem ix_pairs {v : List Int → D} {L : List (List Int)} {x : List Int} (h : x ∈ L) : ixD (.dic true (pairs v L)) (lotD x) = some (.val (v x)) := by
  have : ixD (.dic true (pairs v L)) (lotD x) = if isKey true (lotD x) then (lookD true (pairs v L) (lotD x)).map .val else none := rfl
  rw [this, isKey_lot, if_pos rfl, look_pairs, if_pos h]
  rfl
/-! ### lots by size -/
theorem leS_len {a b : List Int} (h : leS a b) : a.length ≤ b.length := by
  have h1 : (!(PyProof.Rows.listOrd PyProof.Rows.itemOrd).blt (PySem.W.keyToks (szD b).py) (PySem.W.keyToks (szD a).py)) = true := h
  rw [Bool.not_eq_true'] at h1
  by_cases z : a.length ≤ b.length
  · exact z
  · exfalso
    rw [szD_py, szD_py] at h1
    simp only [PySem.W.keyToks, PySem.W.keyToksAll, List.cons_append, List.nil_append] at h1
    have : PyProof.Rows.lexLt PyProof.Rows.itemOrd (Sum.inl 1 :: Sum.inl (b.length : Int) :: Sum.inl 1 :: (PySem.W.keyToksAll (b.map PyData.int) ++ [Sum.inl 0])) (Sum.inl 1 :: Sum.inl (a.length : Int) :: Sum.inl 1 :: (PySem.W.keyToksAll (a.map PyData.int) ++ [Sum.inl 0])) = true := by
      have hlt : (b.length : Int) < (a.length : Int) := by omega
      simp [PyProof.Rows.lexLt, PyProof.Rows.itemOrd, PyProof.Rows.itemLt, hlt]
    exact Bool.noConfusion (this.symm.trans h1)
theorem growR_nodup : ∀ {r : List Int}, r.Nodup → (growR r).Nodup
  | [], _ => by simp [growR]
  | h :: t, n => by
    rw [List.nodup_cons] at n
    have ih := growR_nodup n.2
    rw [growR, List.nodup_append]
    refine ⟨ih, nodup_map_on (fun a _ b _ e => by simpa using e) ih, fun a ha b hb e => ?_⟩
    subst e
    obtain ⟨c, _, rfl⟩ := List.mem_map.mp hb
    have := (growR_sub ha).subset (show h ∈ c ++ [h] by simp)
    exact n.1 (by simpa using this)
def allLots (m : Int) : List (List Int) := bySize (grow (irange 0 m))
theorem allLots_nodup (m : Int) : (allLots m).Nodup := by
  refine (bySize_perm _).nodup_iff.mpr ?_
  exact growR_nodup ((List.reverse_perm _).nodup_iff.mpr (irange_nodup 0 m))
theorem growR_has : ∀ {r l : List Int}, l.Sublist r.reverse → l ∈ growR r
  | [], l, h => by
    simp only [List.reverse_nil, List.sublist_nil] at h
    subst h
    simp [growR]
  | x :: t, l, h => by
    rw [List.reverse_cons] at h
    obtain ⟨a, b, rfl, ha, hb⟩ := List.sublist_append_iff.mp h
    have hA := growR_has ha
    rw [growR, List.mem_append]
    cases b with
    | nil => exact .inl (by simpa using hA)
    | cons y b =>
      have hl := hb.length_le
      simp at hl
      subst hl
      have : y = x := by
        have := hb.subset (List.mem_singleton.mpr rfl)
        simpa using this
      subst this
      exact .inr (List.mem_map.mpr ⟨a, hA, rfl⟩)
theorem allLots_mem {m : Int} {l : List Int} : l ∈ allLots m ↔ l.Sublist (irange 0 m) :=
  ⟨fun h => grow_sub ((bySize_perm _).mem_iff.mp h), fun h => (bySize_perm _).mem_iff.mpr (growR_has (by simpa using h))⟩
/-- fewer hands, ahead -/
theorem ahead {m : Int} {j : Nat} {l x : List Int} (hj : (allLots m)[j]? = some l) (hx : x.Sublist (irange 0 m)) (hl : x.length < l.length) : x ∈ (allLots m).take j := by
  obtain ⟨i, hi⟩ := List.mem_iff_getElem?.mp (allLots_mem.mpr hx)
  have pw : (allLots m).Pairwise leS := bySize_pw (grow (irange 0 m))
  rw [List.pairwise_iff_getElem] at pw
  obtain ⟨hj1, hj2⟩ := List.getElem?_eq_some_iff.mp hj
  obtain ⟨hi1, hi2⟩ := List.getElem?_eq_some_iff.mp hi
  rcases Nat.lt_trichotomy i j with h | h | h
  · refine List.mem_iff_getElem?.mpr ⟨i, ?_⟩
    rw [List.getElem?_take, if_pos h]
    exact hi
  · subst h
    rw [hi] at hj
    cases hj
    omega
  · have := leS_len (pw j i hj1 hi1 h)
    rw [hj2, hi2] at this
    omega
theorem allLots_first (m : Int) : (allLots m)[0]? = some [] := by
  have h0 : ([] : List Int) ∈ allLots m := allLots_mem.mpr (List.nil_sublist _)
  cases q : (allLots m)[0]? with
  | none =>
    rw [List.getElem?_eq_none_iff] at q
    have : allLots m = [] := List.length_eq_zero_iff.mp (by omega)
    rw [this] at h0
    cases h0
  | some l =>
    by_cases hl : l = []
    · rw [hl]
    · have := ahead q (List.nil_sublist (irange 0 m)) (by cases l with | nil => exact absurd rfl hl | cons x l => simp)
      simp at this
theorem allLots_later {m : Int} {j : Nat} {l : List Int} (h : (allLots m)[j + 1]? = some l) : l ≠ [] ∧ l ∉ (allLots m).take (j + 1) := by
  have nd := allLots_nodup m
  refine ⟨fun e => ?_, fun e => ?_⟩
  · subst e
    have := (List.getElem?_inj (i := 0) (j := j + 1) (by obtain ⟨h1, _⟩ := List.getElem?_eq_some_iff.mp (allLots_first m); exact h1) nd).mp (by rw [allLots_first, h])
    omega
  · obtain ⟨i, hi⟩ := List.mem_iff_getElem?.mp e
    rw [List.getElem?_take] at hi
    split at hi
    · rename_i hlt
      obtain ⟨h1, _⟩ := List.getElem?_eq_some_iff.mp hi
      have := (List.getElem?_inj (i := i) (j := j + 1) h1 nd).mp (by rw [hi, h])
      omega
    · cases hi
theorem allLots_len {m : Int} (hm : 0 ≤ m ∧ m ≤ 6) : (allLots m).length ≤ 64 := by
  rw [allLots, (bySize_perm _).length_eq, grow_len]
  exact Nat.le_trans (Nat.pow_le_pow_right (by omega) (show (irange 0 m).length ≤ 6 by rw [irange_len]; omega)) (by decide)
end Mi

/-! The program's sums of all lots, run. -/
namespace Mi
open PySem PySem.Spec
open PyProof.Rows hiding St
open L2
theorem cut_from {α : Type} (xs : List α) {i : Int} (h : 0 ≤ i) : cutL xs (some i) none = xs.drop i.toNat := by
  unfold cutL HT.sIx
  simp only [if_neg (show ¬ i < 0 by omega)]
  by_cases z : i.toNat ≤ xs.length
  · rw [Nat.min_eq_left z, List.take_of_length_le (by simp)]
  · rw [Nat.min_eq_right (by omega), List.drop_eq_nil_of_le (Nat.le_refl _), List.drop_eq_nil_of_le (by omega)]
    simp
theorem itemD_of {s : Nat} {fi f : SE} {ρ ρ1 ρ2 : En} {r ri : Opd} {d k : D} {p p0 l0 t t0 : Bool} {kvs kvs0 : List (D × D)} (h : f ρ = some (r, ρ1)) (hk : keepD r = some d) (h0 : ρ1[s]? = some (.ow p0 l0 (.dic t0 kvs0))) (hi : fi ρ1 = some (ri, ρ2)) (hr : res ρ2 ri = some k)
    (h1 : ρ2[s]? = some (.ow p false (.dic t kvs))) (ok : isKey t k = true) (hz : kvs.length < 16000000) : itemDS s fi f ρ = some (.nx (ρ2.set s (.ow p false (.dic t (putD t kvs k d))))) := by
  unfold itemDS
  simp only [h, hk, h0, hi, hr, h1, ok, decide_eq_true hz, Bool.and_self, if_true]
section
variable {m : Int} {ls : List (List Int)} {cs : List Rat} {l : List Int}
/-- a sum as the program tells it -/
def sumD (c : Int → Rat) (ls : List (List Int)) (l : List Int) : D := if l = [] then oneK else frQ (altS c ls l)
theorem sumD_fq (c : Int → Rat) (ls : List (List Int)) (l : List Int) : Fq (sumD c ls l) (altS c ls l) := by
  unfold sumD
  split
  · rename_i h
    rw [h, altS_nil]
    exact Fq.one
  · exact Fq.fr _
def nearL (m : Int) (ls : List (List Int)) (h : Int) : List Int := (irange 0 m).filter fun o => tch ls h o
theorem without_ok {l k : List Int} (hl : l.length ≤ 100) : f_without [lotD l, lotD k] = some (false, lotD (l.filter fun x => !decide (x ∈ k)), .non) := by
  let ρ0 : En := [.fr (lotD l), .fr (lotD k), .un]
  have c : compE [2] (seqI (varF 0)) (nameT 2) (ofV (bin2 (cmpV notInD) (varF 2) (varF 1))) (varF 2) ρ0 = some (.new (.lst ((l.filter fun x => !decide (x ∈ k)).map .int)), ρ0) :=
    compE_filter (ρ1 := ρ0) (ρb := ρ0) (rs := [.val (lotD l)]) (xs := l) D.int D.int (fun x => !decide (x ∈ k)) (seq_lot rfl) rfl (by omega) (fun x _ => ⟨[.fr (lotD l), .fr (lotD k), .fr (.int x)], [.fr (lotD l), .fr (lotD k), .fr (.int x)], rfl,
      of_of (bin_of (r1 := .val (.int x)) (r2 := .val (lotD k)) rfl rfl rfl rfl (by simp [cmpV, notInD])), fun _ => rfl, fun _ => ⟨.val (.int x), _, rfl, rfl, rfl⟩⟩)
  exact fn_run (ret_rt (blt_of (cons_of c rfl) rfl rfl)) rfl
theorem without_near (hm : ∀ x ∈ l, 0 ≤ x ∧ x < m) (h : Int) : (l.filter fun x => !decide (x ∈ nearL m ls h)) = l.filter fun x => !tch ls h x := by
  refine List.filter_congr fun x hx => ?_
  have : decide (x ∈ nearL m ls h) = tch ls h x := by
    rw [Bool.eq_iff_iff, decide_eq_true_eq]
    unfold nearL
    rw [List.mem_filter, mem_ints]
    exact ⟨fun z => z.2, fun z => ⟨hm x hx, z⟩⟩
  rw [this]
abbrev Ef (m : Int) (ls : List (List Int)) (cs : List Rat) (L : List (List Int)) (a4 a5 a6 : Slot) : En := [.fr (webD m ls), .fr (chD cs), .ow false false (.lst ((irange 0 m).map fun h => lotD (nearL m ls h))), .ow false false (.dic true (pairs (sumD (cAt cs) ls) L)), a4, a5, a6]
theorem tch_self (ls : List (List Int)) (h : Int) : tch ls h h = true := by simp [tch]
theorem ix_first (h : Int) (t : List Int) : ixD (lotD (h :: t)) (.int 0) = some (.val (.int h)) := by simp [ixD, lotD]
theorem sums_ok (C : Ch m cs) (hm : 0 ≤ m ∧ m ≤ 6) (hls : ls.length ≤ 60) : f_sums_within [webD m ls, chD cs] = some (true, .dic true (pairs (sumD (cAt cs) ls) (allLots m)), .non) := by
  let E0 : En := [.fr (webD m ls), .fr (chD cs), .un, .un, .un, .un, .un]
  have cn : compE [5] (rng1I (consA (bin2 ixD (varF 0) (valF (.int 0))) (nilA))) (nameT 5) (yesT) (callE none f_touching (consA (varF 0) (consA (varF 5) (nilA)))) E0 = some (.new (.lst ((irange 0 m).map fun h => lotD (nearL m ls h))), E0) :=
    compE_map (ρ1 := E0) (ρb := E0) (rs := []) (xs := irange 0 m) D.int (fun h => lotD (nearL m ls h)) (rng_web (f := varF 0) rfl hm.1 (by omega)) rfl (by rw [irange_len]; omega) (fun h _ => ⟨[.fr (webD m ls), .fr (chD cs), .un, .un, .un, .fr (.int h), .un], _, [.fr (webD m ls), .fr (chD cs), .un, .un, .un, .fr (.int h), .un], rfl,
      call_of (cons_of (r := .val (webD m ls)) rfl (cons_of (r := .val (.int h)) rfl rfl)) rfl (touching_ok m h ls ⟨hm.1, by omega⟩ hls) rfl rfl, rfl, rfl⟩)
  have s0 : parS [2, 3] (consA (compE [5] (rng1I (consA (bin2 ixD (varF 0) (valF (.int 0))) (nilA))) (nameT 5) (yesT) (callE none f_touching (consA (varF 0) (consA (varF 5) (nilA))))) (consA (disp1 (tupF (nilA)) (valF (.kt [.int 1, .int 1]))) (nilA))) E0 = some (.nx (Ef m ls cs [[]] .un .un .un)) :=
    par_of (cons_of cn (cons_of (r := .new (.dic true [(lotD [], oneK)])) rfl rfl)) rfl
  have hit : seqI (slF (callE none f_lots_of (consA (bin2 ixD (varF 0) (valF (.int 0))) (nilA))) (some (valF (.int 1))) none) (Ef m ls cs [[]] .un .un .un) = some ([.val (lotsD ((allLots m).drop 1))], ((allLots m).drop 1).map lotD, Ef m ls cs [[]] .un .un .un) := by
    refine seq_lots ?_
    have c := call_of (io := none) (F := f_lots_of) (Fa := consA (bin2 ixD (varF 0) (valF (.int 0))) nilA) (ρ := Ef m ls cs [[]] .un .un .un) (cons_of (bin_of (r1 := .val (webD m ls)) (r2 := .val (.int 0)) rfl rfl rfl rfl ix_web0) rfl) rfl (lots_of_ok m hm) rfl rfl
    unfold slF
    rw [c]
    show some (Opd.val (.tup (cutL ((bySize (grow (irange 0 m))).map lotD) (some 1) none)), _) = _
    have : cutL ((bySize (grow (irange 0 m))).map lotD) (some 1) none = ((allLots m).drop 1).map lotD := by
      rw [cut_from _ (by decide), List.map_drop]
      rfl
    rw [this]
    rfl
  have hlen := allLots_len hm
  obtain ⟨ρ', e, a4, a5, a6, rfl, _⟩ := loopS_inv (T := nameT 4) (F := seqS (setS 5 (bin2 ixD (varF 4) (valF (.int 0))))
    (seqS (setS 6 (callE none f_times (consA (bin2 ixD (varF 1) (varF 5)) (consA (bin2 ixD (varF 3) (callE none f_without (consA (varF 4) (consA (bin2 ixD (varF 2) (varF 5)) (nilA))))) (nilA)))))
    (itemDS 3 (varF 4) (callE none f_minus (consA (bin2 ixD (varF 3) (slF (varF 4) (some (valF (.int 1))) none)) (consA (varF 6) (nilA)))))))
    (fun j ρ => ∃ a4 a5 a6, ρ = Ef m ls cs ((allLots m).take (j + 1)) a4 a5 a6 ∧ frq a4 = true ∧ frq a5 = true ∧ frq a6 = true) (((allLots m).drop 1).map lotD) 0 (Ef m ls cs [[]] .un .un .un) (fun j d hd ρ ⟨a4, a5, a6, hρ, f4, f5, f6⟩ => by
      subst hρ
      rw [List.getElem?_map, List.getElem?_drop] at hd
      rw [Nat.zero_add]
      cases q : (allLots m)[1 + j]? with
      | none => rw [q] at hd; cases hd
      | some lot =>
        rw [q] at hd
        cases hd
        rw [Nat.add_comm] at q
        obtain ⟨hne, hnew⟩ := allLots_later q
        have hsub : lot.Sublist (irange 0 m) := allLots_mem.mp (List.mem_of_getElem? q)
        have L := Lt.of hm hsub
        have et : (allLots m).take (j + 1 + 1) = (allLots m).take (j + 1) ++ [lot] := by rw [List.take_add_one, q]; rfl
        cases lot with
        | nil => exact absurd rfl hne
        | cons h t =>
        have hh := L.mem h List.mem_cons_self
        have Lt_ : Lt m t := L.sub (List.sublist_cons_self _ _)
        have inF : (t.filter fun x => !tch ls h x) ∈ (allLots m).take (j + 1) := ahead q ((List.filter_sublist.trans (List.sublist_cons_self _ _)).trans hsub) (by
          have := List.length_filter_le (fun x => !tch ls h x) t
          rw [List.length_cons]
          omega)
        have inT : t ∈ (allLots m).take (j + 1) := ahead q ((List.sublist_cons_self _ _).trans hsub) (by simp)
        have hz : ((allLots m).take (j + 1)).length ≤ 64 := by rw [List.length_take]; omega
        rw [et]
        generalize (allLots m).take (j + 1) = P at *
        let ρ1 : En := Ef m ls cs P (.fr (lotD (h :: t))) (.fr (.int h)) a6
        have s5 : setS 5 (bin2 ixD (varF 4) (valF (.int 0))) (Ef m ls cs P (.fr (lotD (h :: t))) a5 a6) = some (.nx ρ1) := set_nx (bin_of (r1 := .val (lotD (h :: t))) (r2 := .val (.int 0)) rfl rfl rfl rfl (ix_first h t)) (by simp [frq_free f5, ρ1])
        have w : callE none f_without (consA (varF 4) (consA (bin2 ixD (varF 2) (varF 5)) (nilA))) ρ1 = some (.val (lotD (t.filter fun x => !tch ls h x)), ρ1) := by
          have e := without_ok (l := h :: t) (k := nearL m ls h) (by have := L.few; omega)
          rw [without_near L.mem, List.filter_cons_of_neg (by rw [tch_self]; decide)] at e
          have hat : ixD (.lst ((irange 0 m).map fun h => lotD (nearL m ls h))) (.int h) = some (.val (lotD (nearL m ls h))) := by
            obtain ⟨n, hn⟩ := Int.eq_ofNat_of_zero_le hh.1
            subst hn
            have : (irange 0 m)[n]? = some (n : Int) := by
              unfold irange
              rw [List.getElem?_map, List.getElem?_range (by omega)]
              simp
            simp [ixD, atI_nat, this]
          exact call_of (cons_of (r := .val (lotD (h :: t))) rfl (cons_of (bin_of (r1 := .slot 2) (r2 := .val (.int h)) rfl rfl rfl rfl hat) rfl)) rfl e rfl rfl
        have b1 := C.bit h hh.1 hh.2
        have bf : ∀ k : List Int, Lt m k → Bt (altS (cAt cs) ls k) 1506 := fun k hk => C.balt hk.rng hk.few
        have bF := bf (t.filter fun x => !tch ls h x) (Lt_.sub List.filter_sublist)
        have s6 : setS 6 (callE none f_times (consA (bin2 ixD (varF 1) (varF 5)) (consA (bin2 ixD (varF 3) (callE none f_without (consA (varF 4) (consA (bin2 ixD (varF 2) (varF 5)) (nilA))))) (nilA)))) ρ1 = some (.nx (Ef m ls cs P (.fr (lotD (h :: t))) (.fr (.int h)) (.fr (frQ (cAt cs h * altS (cAt cs) ls (t.filter fun x => !tch ls h x)))))) :=
          set_nx (call_of (cons_of (bin_of (r1 := .val (chD cs)) (r2 := .val (.int h)) rfl rfl rfl rfl (C.ix hh.1 hh.2)) (cons_of (bin_of (r1 := .slot 3) (r2 := .val (lotD (t.filter fun x => !tch ls h x))) rfl w rfl rfl (ix_pairs inF)) rfl)) rfl (times_ok (Fq.fr _) (sumD_fq _ _ _) b1 bF (by omega)) rfl rfl) (by simp [frq_free f6, ρ1])
        have sl : slF (varF 4) (some (valF (.int 1))) none (Ef m ls cs P (.fr (lotD (h :: t))) (.fr (.int h)) (.fr (frQ (cAt cs h * altS (cAt cs) ls (t.filter fun x => !tch ls h x))))) = some (.val (lotD t), Ef m ls cs P (.fr (lotD (h :: t))) (.fr (.int h)) (.fr (frQ (cAt cs h * altS (cAt cs) ls (t.filter fun x => !tch ls h x))))) := by
          show some (Opd.val (.tup (cutL ((h :: t).map .int) (some 1) none)), _) = _
          have : cutL ((h :: t).map D.int) (some 1) none = t.map .int := cut_from _ (by decide)
          rw [this]
          rfl
        have mi : callE none f_minus (consA (bin2 ixD (varF 3) (slF (varF 4) (some (valF (.int 1))) none)) (consA (varF 6) (nilA))) (Ef m ls cs P (.fr (lotD (h :: t))) (.fr (.int h)) (.fr (frQ (cAt cs h * altS (cAt cs) ls (t.filter fun x => !tch ls h x))))) = some (.val (sumD (cAt cs) ls (h :: t)), Ef m ls cs P (.fr (lotD (h :: t))) (.fr (.int h)) (.fr (frQ (cAt cs h * altS (cAt cs) ls (t.filter fun x => !tch ls h x))))) := by
          have e := minus_ok (sumD_fq (cAt cs) ls t) (Fq.fr (cAt cs h * altS (cAt cs) ls (t.filter fun x => !tch ls h x))) (bf t Lt_) (b1.mul bF) (by omega)
          rw [← altS_cons L.asc] at e
          have e2 : sumD (cAt cs) ls (h :: t) = frQ (altS (cAt cs) ls (h :: t)) := by simp [sumD]
          rw [e2]
          exact call_of (cons_of (bin_of (r1 := .slot 3) (r2 := .val (lotD t)) rfl sl rfl rfl (ix_pairs inT)) (cons_of (r := .val (frQ (cAt cs h * altS (cAt cs) ls (t.filter fun x => !tch ls h x)))) rfl rfl)) rfl e rfl rfl
        have hz2 : (pairs (sumD (cAt cs) ls) P).length < 16000000 := by simp only [pairs, List.length_map]; omega
        have fin := itemD_of (s := 3) (fi := varF 4) (ri := .val (lotD (h :: t))) mi rfl rfl rfl rfl rfl (isKey_lot (h :: t)) hz2
        rw [put_pairs _ hnew] at fin
        exact ⟨Ef m ls cs P (.fr (lotD (h :: t))) a5 a6, Ef m ls cs (P ++ [h :: t]) (.fr (lotD (h :: t))) (.fr (.int h)) (.fr (frQ (cAt cs h * altS (cAt cs) ls (t.filter fun x => !tch ls h x)))), by simp [frq_free f4], .inl (seq_nx s5 (seq_nx s6 fin)), _, _, _, rfl, rfl, rfl, rfl⟩) ⟨.un, .un, .un, by
          have : (allLots m).take 1 = [[]] := by rw [List.take_add_one, allLots_first]; rfl
          rw [this], rfl, rfl, rfl⟩
  have ee : (allLots m).take (0 + (((allLots m).drop 1).map lotD).length + 1) = allLots m := List.take_of_length_le (by simp; omega)
  rw [ee] at e
  exact fn_run (seq_nx s0 (seq_nx (for_nx hit e rfl) (ret_rt (r := .slot 3) rfl))) rfl
theorem alt_ok (C : Ch m cs) (hm : 0 ≤ m ∧ m ≤ 6) (hls : ls.length ≤ 60) (hl : l.Sublist (irange 0 m)) : f_alt_sum [webD m ls, chD cs, lotD l] = some (false, sumD (cAt cs) ls l, .non) :=
  fn_run (ret_rt (bin_of (call_of (cons_of (r := .val (webD m ls)) rfl (cons_of (r := .val (chD cs)) rfl rfl)) rfl (sums_ok C hm hls) (by simp [noLend]) rfl) (r2 := .val (lotD l)) rfl rfl rfl (ix_pairs (allLots_mem.mpr hl)))) rfl
end
end Mi

/-! Marks, their chances; a lot whose sum is below nought. -/
namespace Mi
open PySem PySem.Spec
open PyProof.Rows hiding St
open L2
/-- marks of so many hands -/
structure Mk (m : Int) (ms : List Int) : Prop where
  len : (ms.length : Int) = m
  mrk : ∀ x ∈ ms, 1 ≤ x ∧ x ≤ 4096
def mCs (ms : List Int) : List Rat := ms.map fun n => mkRat 1 n.toNat
theorem frQ_part {n : Int} (h : 1 ≤ n) : frQ (mkRat 1 n.toNat) = lotD [1, n] := by
  have h0 : 0 < n.toNat := by omega
  rw [frQ_mk h0]
  have : Nat.gcd (1 : Int).natAbs n.toNat = 1 := Nat.gcd_one_left _
  rw [this]
  simp [lotD]
  omega
theorem Mk.data {m : Int} {ms : List Int} (M : Mk m ms) : lotsD (ms.map fun n => [1, n]) = chD (mCs ms) := by
  unfold lotsD chD mCs
  rw [List.map_map, List.map_map]
  congr 1
  exact List.map_congr_left fun n hn => (frQ_part (M.mrk n hn).1).symm
theorem dprod_le {k : Nat} : ∀ {l : List Rat}, (∀ q ∈ l, q.den ≤ 2 ^ k) → dprod l ≤ 2 ^ (k * l.length)
  | [], _ => by simp [dprod]
  | q :: l, h => by
    rw [dprod, List.length_cons, Nat.mul_succ, Nat.add_comm, Nat.pow_add]
    exact Nat.mul_le_mul (h q List.mem_cons_self) (dprod_le fun x hx => h x (List.mem_cons_of_mem _ hx))
theorem mk01 {x : Int} {d : Nat} (h0 : 0 ≤ x) (h1 : x ≤ d) (hd : 0 < d) : 0 ≤ mkRat x d ∧ mkRat x d ≤ 1 := by
  have hn := mkRat_num (x := x) hd
  have hdn := mkRat_den (x := x) hd
  have hg : 0 < Nat.gcd x.natAbs d := Nat.gcd_pos_of_pos_right _ hd
  refine ⟨Rat.num_nonneg.mp ?_, (Rat.le_iff _ _).mpr ?_⟩
  · rw [hn]
    exact Int.ediv_nonneg h0 (by omega)
  · rw [hn, hdn]
    simp
    exact Int.ediv_le_ediv (by omega) h1
theorem Mk.den {m : Int} {ms : List Int} (M : Mk m ms) (hm : m ≤ 6) : dprod (mCs ms) ≤ 2 ^ 72 := by
  refine Nat.le_trans (dprod_le (k := 12) fun q hq => ?_) (Nat.pow_le_pow_right (by omega) ?_)
  · obtain ⟨n, hn, rfl⟩ := List.mem_map.mp hq
    have := M.mrk n hn
    refine Nat.le_trans (Nat.le_of_dvd (by omega) (den_mk (N := 1) (D := n.toNat) (by omega))) ?_
    have h31 : (2 : Nat) ^ 12 = 4096 := by decide
    omega
  · rw [mCs, List.length_map]
    have := M.len
    omega
theorem Mk.ch {m : Int} {ms : List Int} (M : Mk m ms) (hm : m ≤ 6) : Ch m (mCs ms) := by
  refine ⟨by rw [mCs, List.length_map]; exact M.len, fun q hq => ?_, Nat.le_trans (M.den hm) (Nat.pow_le_pow_right (by omega) (by omega))⟩
  obtain ⟨n, hn, rfl⟩ := List.mem_map.mp hq
  have := M.mrk n hn
  exact mk01 (by decide) (by omega) (by omega)
theorem lchances_ok {ms : List Int} (h : ms.length ≤ 100) : f_law_chances [lotD ms] = some (false, lotsD (ms.map fun n => [1, n]), .non) := by
  have c : compE [1] (seqI (varF 0)) (nameT 1) (yesT) (tupF (consA (valF (.int 1)) (consA (varF 1) (nilA)))) [.fr (lotD ms), .un] = some (.new (.lst (ms.map fun n => lotD [1, n])), [.fr (lotD ms), .un]) :=
    compE_map (ρ1 := [.fr (lotD ms), .un]) (ρb := [.fr (lotD ms), .un]) (rs := [.val (lotD ms)]) (xs := ms) D.int (fun n => lotD [1, n]) (seq_lot rfl) rfl (by omega) (fun n _ => ⟨[.fr (lotD ms), .fr (.int n)], .val (lotD [1, n]), [.fr (lotD ms), .fr (.int n)], rfl, rfl, rfl, rfl⟩)
  have e : ms.map (fun n => lotD [1, n]) = (ms.map fun n => [1, n]).map lotD := by rw [List.map_map]; rfl
  rw [e] at c
  exact fn_run (ret_rt (r := .val (lotsD (ms.map fun n => [1, n]))) (blt_of (cons_of c rfl) rfl rfl)) rfl
theorem chances_ok {ms : List Int} (h : ms.length ≤ 100) : f_chances_of [lotD ms] = some (false, lotsD (ms.map fun n => [1, n]), .non) := lchances_ok h
section
variable {m : Int} {ls : List (List Int)} {cs : List Rat} {ms : List Int}
/-- the first lot whose sum is below nought -/
theorem fault_ok (C : Ch m cs) (hm : 0 ≤ m ∧ m ≤ 6) (hls : ls.length ≤ 60) : ∃ d, f_law_fault [webD m ls, chD cs] = some (false, d, .non) ∧ (d = .non ∨ ∃ l : List Int, d = lotD l ∧ l.Sublist (irange 0 m)) := by
  let E : Slot → En := fun x => [.fr (webD m ls), .fr (chD cs), x]
  have hlots : callE none f_law_lots (consA (bin2 ixD (varF 0) (valF (.int 0))) (nilA)) (E .un) = some (.new (.lst ((allLots m).map lotD)), E .un) :=
    call_of (cons_of (bin_of (r1 := .val (webD m ls)) (r2 := .val (.int 0)) rfl rfl rfl rfl ix_web0) rfl) rfl (lots_ok m hm) rfl rfl
  let R : Opd → En → Prop := fun r ρ => ∃ l : List Int, r = .val (lotD l) ∧ l.Sublist (irange 0 m) ∧ ρ.length = 3
  rcases loopS_or (T := nameT 2) (F := ifS (ofV (bin2 (cmpV ltD) (bin2 ixD (callE none f_law_sum_of (consA (varF 0) (consA (varF 1) (consA (varF 2) (nilA))))) (valF (.int 0))) (valF (.int 0)))) (retS (varF 2)) (skipS))
    (fun _ ρ => ∃ x, ρ = E x ∧ frq x = true) R ((allLots m).map lotD) 0 (E .un) (fun k d hd ρ ⟨x, hρ, fx⟩ => by
      subst hρ
      obtain ⟨l, hl, rfl⟩ := List.mem_map.mp (List.mem_of_getElem? hd)
      have hs := allLots_mem.mp hl
      have c : bin2 (cmpV ltD) (bin2 ixD (callE none f_law_sum_of (consA (varF 0) (consA (varF 1) (consA (varF 2) (nilA))))) (valF (.int 0))) (valF (.int 0)) (E (.fr (lotD l))) = some (.val (.bl (decide ((altS (cAt cs) ls l).num < 0))), E (.fr (lotD l))) :=
        bin_of (r1 := .val (.int (altS (cAt cs) ls l).num)) (r2 := .val (.int 0)) (bin_of (g := valF (.int 0)) (call_of (cons_of (r := .val (webD m ls)) rfl (cons_of (r := .val (chD cs)) rfl (cons_of (r := .val (lotD l)) rfl rfl))) rfl (sum_of_ok C hls (Lt.of hm hs)) rfl rfl) (r2 := .val (.int 0)) rfl rfl rfl (Fq.fr _).top) rfl rfl rfl (by simp [cmpV])
      refine ⟨E (.fr (lotD l)), by simp [E, frq_free fx], ?_⟩
      by_cases hn : (altS (cAt cs) ls l).num < 0
      · rw [decide_eq_true hn] at c
        exact .inr ⟨.val (lotD l), E (.fr (lotD l)), if_t (of_of c) (ret_rt rfl), l, rfl, hs, rfl⟩
      · rw [decide_eq_false hn] at c
        exact .inl ⟨E (.fr (lotD l)), if_f (of_of c) rfl, _, rfl, rfl⟩) ⟨.un, rfl, rfl⟩ with ⟨ρ', e, x, rfl, _⟩ | ⟨r, ρ', e, l, rfl, hs, hlen⟩
  · exact ⟨.non, fn_run (seq_nx (for_nx (rs := [.new (.lst ((allLots m).map lotD))]) (seq_new hlots) e rfl) (ret_rt (r := .val .non) rfl)) rfl, .inl rfl⟩
  · exact ⟨lotD l, fn_run (seq_rt (for_rt (rs := [.new (.lst ((allLots m).map lotD))]) (seq_new hlots) e)) rfl, .inr ⟨l, rfl, hs⟩⟩
/-- a row with one thing turned -/
def turnAt (ms : List Int) (h n : Int) : List Int := ms.take h.toNat ++ [n] ++ ms.drop (h + 1).toNat
theorem Mk.turn (M : Mk m ms) {h n : Int} (h0 : 0 ≤ h) (h1 : h < m) (n0 : 1 ≤ n) (n1 : n ≤ 4096) : Mk m (turnAt ms h n) := by
  have hl := M.len
  refine ⟨?_, fun x hx => ?_⟩
  · unfold turnAt
    simp only [List.length_append, List.length_take, List.length_drop, List.length_singleton]
    omega
  · unfold turnAt at hx
    simp only [List.mem_append, List.mem_singleton] at hx
    rcases hx with (hx | rfl) | hx
    · exact M.mrk x (List.mem_of_mem_take hx)
    · exact ⟨n0, n1⟩
    · exact M.mrk x (List.mem_of_mem_drop hx)
/-- ms[:h] + (x,) + ms[h + 1:] -/
theorem turn_of {i j : Nat} {fx : SE} {ρ : En} {h n : Int} (hl : ms.length ≤ 100) (hi : ρ[i]? = some (.fr (lotD ms))) (hj : ρ[j]? = some (.fr (.int h))) (h0 : 0 ≤ h) (hx : fx ρ = some (.val (.int n), ρ)) :
    bin2 addD (bin2 addD (slF (varF i) none (some (varF j))) (tupF (consA fx (nilA)))) (slF (varF i) (some (bin2 addD (varF j) (valF (.int 1)))) none) ρ = some (.val (lotD (turnAt ms h n)), ρ) := by
  have vi : varF i ρ = some (.val (lotD ms), ρ) := by simp only [varF, hi]
  have vj : varF j ρ = some (.val (.int h), ρ) := by simp only [varF, hj]
  have s1 : slF (varF i) none (some (varF j)) ρ = some (.val (lotD (ms.take h.toNat)), ρ) := by
    unfold slF
    simp only [vi, partF, vj]
    show some (Opd.val (.tup (cutL (ms.map .int) none (some h))), ρ) = _
    rw [cut_to _ h0, ← List.map_take]
    rfl
  have aj : bin2 addD (varF j) (valF (.int 1)) ρ = some (.val (.int (h + 1)), ρ) := bin_of (r1 := .val (.int h)) (r2 := .val (.int 1)) vj rfl rfl rfl rfl
  have s2 : slF (varF i) (some (bin2 addD (varF j) (valF (.int 1)))) none ρ = some (.val (lotD (ms.drop (h + 1).toNat)), ρ) := by
    unfold slF
    simp only [vi, partF, aj]
    show some (Opd.val (.tup (cutL (ms.map .int) (some (h + 1)) none)), ρ) = _
    rw [cut_from _ (by omega), ← List.map_drop]
    rfl
  refine bin_of (bin_of s1 (tup_of (cons_of hx rfl) rfl (by simp)) rfl rfl (add_tup (a := (ms.take h.toNat).map .int) (b := [.int n]) (by simp; omega))) s2 rfl rfl ?_
  rw [lotD, add_tup (by simp; omega)]
  simp [turnAt, lotD]
theorem enough_ok (M : Mk m ms) (hm : 0 ≤ m ∧ m ≤ 6) (hls : ls.length ≤ 60) {h : Int} (h0 : 0 ≤ h) (h1 : h < m) : ∃ d, f_law_enough_for [webD m ls, lotD ms, .int h] = some (false, d, .non) ∧ (d = .non ∨ ∃ n : Int, d = .int n ∧ 1 ≤ n ∧ n ≤ 200) := by
  let E : Slot → En := fun x => [.fr (webD m ls), .fr (lotD ms), .fr (.int h), x]
  have hml : ms.length ≤ 6 := by have := M.len; omega
  let R : Opd → En → Prop := fun r ρ => ∃ n : Int, r = .val (.int n) ∧ 1 ≤ n ∧ n ≤ 200 ∧ ρ.length = 4
  rcases loopS_or (T := nameT 3) (F := ifS (ofV (bin2 (cmpV isN) (callE none f_law_fault (consA (varF 0) (consA (callE none f_law_chances (consA (bin2 addD (bin2 addD (slF (varF 1) none (some (varF 2))) (tupF (consA (varF 3) (nilA)))) (slF (varF 1) (some (bin2 addD (varF 2) (valF (.int 1)))) none)) (nilA))) (nilA)))) (valF .non))) (retS (varF 3)) (skipS))
    (fun _ ρ => ∃ x, ρ = E x ∧ frq x = true) R (rangeD 1 201) 0 (E .un) (fun k d hd ρ ⟨x, hρ, fx⟩ => by
      subst hρ
      obtain ⟨rfl, hk⟩ := range_at hd
      have n0 : (1 : Int) ≤ 1 + k ∧ (1 : Int) + k ≤ 200 := by omega
      generalize (1 : Int) + k = n at n0
      have M' := M.turn h0 h1 n0.1 (by omega)
      obtain ⟨d, ef, hd⟩ := fault_ok (ls := ls) (M'.ch hm.2) hm hls
      have c1 : callE none f_law_chances (consA (bin2 addD (bin2 addD (slF (varF 1) none (some (varF 2))) (tupF (consA (varF 3) (nilA)))) (slF (varF 1) (some (bin2 addD (varF 2) (valF (.int 1)))) none)) (nilA)) (E (.fr (.int n))) = some (.val (chD (mCs (turnAt ms h n))), E (.fr (.int n))) := by
        have := call_of (io := none) (F := f_law_chances) (cons_of (turn_of (i := 1) (j := 2) (fx := varF 3) (ρ := E (.fr (.int n))) (by omega) rfl rfl h0 rfl) (F := nilA) rfl) rfl (lchances_ok (by have := M'.len; omega)) rfl rfl
        rw [M'.data] at this
        exact this
      refine ⟨E (.fr (.int n)), by simp [E, frq_free fx], ?_⟩
      rcases hd with rfl | ⟨l, rfl, _⟩
      · exact .inr ⟨.val (.int n), E (.fr (.int n)), if_t (of_of (bin_of (call_of (cons_of (r := .val (webD m ls)) rfl (cons_of c1 rfl)) rfl ef rfl rfl) (r2 := .val .non) (o := .val (.bl true)) rfl rfl rfl rfl)) (ret_rt rfl), n, rfl, n0.1, n0.2, rfl⟩
      · exact .inl ⟨E (.fr (.int n)), if_f (of_of (bin_of (call_of (cons_of (r := .val (webD m ls)) rfl (cons_of c1 rfl)) rfl ef rfl rfl) (r2 := .val .non) (o := .val (.bl false)) rfl rfl rfl rfl)) rfl, _, rfl, rfl⟩) ⟨.un, rfl, rfl⟩ with ⟨ρ', e, x, rfl, _⟩ | ⟨r, ρ', e, n, rfl, n0, n1, hlen⟩
  · exact ⟨.non, fn_run (seq_nx (for_nx (rs := []) rfl e rfl) (ret_rt (r := .val .non) rfl)) rfl, .inl rfl⟩
  · exact ⟨.int n, fn_run (seq_rt (for_rt (rs := []) rfl e)) rfl, .inr ⟨n, rfl, n0, n1⟩⟩
end
end Mi

/-! Drawn marks. -/
namespace Mi
open PySem PySem.Spec
open PyProof.Rows hiding St
open L2
theorem loopS_brk {T : D → En → Option En} {F : SS} (I : Nat → En → Prop) (B : En → Prop) : ∀ (ds : List D) (j : Nat) (ρ : En), (∀ k d, ds[k]? = some d → ∀ ρ, I (j + k) ρ → ∃ ρ1, T d ρ = some ρ1 ∧ ((∃ ρ2, F ρ1 = some (.nx ρ2) ∧ I (j + k + 1) ρ2) ∨ ∃ ρ2, F ρ1 = some (.bk ρ2) ∧ B ρ2)) → I j ρ →
    (∃ ρ', loopS T F ds ρ = some (.nx ρ') ∧ I (j + ds.length) ρ') ∨ ∃ ρ', loopS T F ds ρ = some (.bk ρ') ∧ B ρ'
  | [], j, ρ, _, h => .inl ⟨ρ, by simp, h⟩
  | d :: ds, j, ρ, hs, h => by
    obtain ⟨ρ1, e1, h1⟩ := hs 0 d rfl ρ h
    rcases h1 with ⟨ρ2, e2, h2⟩ | ⟨ρ2, e2, h2⟩
    · rcases loopS_brk I B ds (j + 1) ρ2 (fun k d' e ρ0 h0 => by
        have q := hs (k + 1) d' (by simpa using e) ρ0 (by rw [show j + (k + 1) = j + 1 + k by omega]; exact h0)
        rw [show j + (k + 1) + 1 = j + 1 + k + 1 by omega] at q
        exact q) h2 with ⟨ρ', e3, h3⟩ | ⟨ρ', e3, h3⟩
      · exact .inl ⟨ρ', by simp only [loopS, e1, e2, e3], by rw [List.length_cons, show j + (ds.length + 1) = j + 1 + ds.length by omega]; exact h3⟩
      · exact .inr ⟨ρ', by simp only [loopS, e1, e2, e3], h3⟩
    · exact .inr ⟨ρ2, by simp only [loopS, e1, e2], h2⟩
theorem for_bk {it : SI} {T : D → En → Option En} {F : SS} {ρ ρ1 ρ2 ρ3 : En} {rs : List Opd} {ds : List D} (h : it ρ = some (rs, ds, ρ1)) (hl : loopS T F ds (lockAll (toLock ρ1 rs) ρ1) = some (.bk ρ2)) (hu : unlockAll (toLock ρ1 rs) ρ2 = some ρ3) : forS it T F ρ = some (.nx ρ3) := by
  unfold forS
  simp only [h, hl, hu, Option.map_some]
theorem lpick_ok (g s : Int) (l : List Int) (h0 : 0 < l.length) (h1 : l.length < 1000) : ∃ x g' s', f_law_pick [boxD g s, .lst (l.map .int)] = some (false, .int x, boxD g' s') ∧ x ∈ l := by
  obtain ⟨x, g', s', e, x0, x1⟩ := take_at (p := true) (g := g) (s := s) (m := l.length) (rest := [.fr (.lst (l.map .int))]) (fa := bltE lenK (consA (varF 1) (nilA))) (by simp [lenK, D.seq]) (by omega) (by omega)
  obtain ⟨v, ev, hv⟩ := atI_some (l := l) x0 x1
  exact ⟨v, g', s', fn_run (ret_rt (bin_of (r1 := .val (.lst (l.map .int))) (r2 := .val (.int x)) rfl e rfl rfl (o := .val (.int v)) (by simp [ixD, atI_map, ev]))) rfl, hv⟩
/-- how great marks can be behind so many turns -/
def bnd : Nat → Int
  | 0 => 12
  | k + 1 => bnd k + 1 + bnd k / 2
theorem bnd_le : ∀ k : Nat, k ≤ 12 → bnd k ≤ 4000 ∧ 12 ≤ bnd k := by
  intro k hk
  match k, hk with
  | 0, _ => decide
  | 1, _ => decide
  | 2, _ => decide
  | 3, _ => decide
  | 4, _ => decide
  | 5, _ => decide
  | 6, _ => decide
  | 7, _ => decide
  | 8, _ => decide
  | 9, _ => decide
  | 10, _ => decide
  | 11, _ => decide
  | 12, _ => decide
  | n + 13, h => omega
section
variable {m : Int} {ls : List (List Int)}
abbrev marksE : SE := iteV (ofV (bin2 (cmpV neK) (varF 2) (valF (.int 1)))) (lstF (consA (valF (.int 2)) (consA (valF (.int 2)) (consA (valF (.int 3)) (consA (valF (.int 3)) (consA (valF (.int 4)) (consA (valF (.int 5)) (consA (valF (.int 6)) (consA (valF (.int 8)) (nilA)))))))))) (lstF (consA (valF (.int 4)) (consA (valF (.int 5)) (consA (valF (.int 6)) (consA (valF (.int 8)) (consA (valF (.int 9)) (consA (valF (.int 12)) (nilA))))))))
abbrev Em (m : Int) (ls : List (List Int)) (way g s : Int) (a3 a4 a5 a6 a7 : Slot) : En := [.ow true false (boxD g s), .fr (webD m ls), .fr (.int way), a3, a4, a5, a6, a7]
/-- the marks drawn first -/
theorem first_marks (g s way : Int) (hm : 1 ≤ m ∧ m ≤ 6) : ∃ (ms : List Int) (g' s' : Int), setS 3 (bltE tupK (consA (compE [5] (rng1I (consA (bin2 ixD (varF 1) (valF (.int 0))) (nilA))) (nameT 5) (yesT) (callE (some 0) f_law_pick (consA (varF 0) (consA marksE (nilA))))) (nilA))) (Em m ls way g s .un .un .un .un .un) =
    some (.nx (Em m ls way g' s' (.fr (lotD ms)) .un .un .un .un)) ∧ (ms.length : Int) = m ∧ ∀ x ∈ ms, 1 ≤ x ∧ x ≤ 12 := by
  obtain ⟨acc, ρ', e, ⟨g', s', rfl⟩, hacc, hlen⟩ := loopC_all (own := [5]) (T := nameT 5) (fe := callE (some 0) f_law_pick (consA (varF 0) (consA marksE (nilA))))
    (fun ρ => ∃ g s, ρ = Em m ls way g s .un .un .un .un .un) (fun d => ∃ i : Int, d = .int i ∧ (1 ≤ i ∧ i ≤ 12)) (rangeD 0 m) [] (Em m ls way g s .un .un .un .un .un) (by rw [range_len]; simp; omega) ⟨g, s, rfl⟩ (by simp) (fun d hd ρ ⟨g, s, hρ⟩ => by
      subst hρ
      obtain ⟨i, rfl, i0, i1⟩ := range_mem hd
      have : ∃ l : List Int, marksE (Em m ls way g s .un .un (.fr (.int i)) .un .un) = some (.new (.lst (l.map .int)), Em m ls way g s .un .un (.fr (.int i)) .un .un) ∧ 0 < l.length ∧ l.length < 1000 ∧ ∀ x ∈ l, 1 ≤ x ∧ x ≤ 12 := by
        by_cases hw : way = 1
        · exact ⟨[4, 5, 6, 8, 9, 12], ite_f (of_of (bin_of (r1 := .val (.int way)) (r2 := .val (.int 1)) (o := .val (.bl false)) rfl rfl rfl rfl (by simp [cmpV, hw]))) rfl, by simp, by simp, fun x hx => by simp at hx; omega⟩
        · exact ⟨[2, 2, 3, 3, 4, 5, 6, 8], ite_t (of_of (bin_of (r1 := .val (.int way)) (r2 := .val (.int 1)) (o := .val (.bl true)) rfl rfl rfl rfl (by simp [cmpV, hw]))) rfl, by simp, by simp, fun x hx => by simp at hx; omega⟩
      obtain ⟨l, hl, l0, l1, lx⟩ := this
      obtain ⟨x, g1, s1, ep, hx⟩ := lpick_ok g s l l0 l1
      exact ⟨Em m ls way g s .un .un (.fr (.int i)) .un .un, .val (.int x), Em m ls way g1 s1 .un .un (.fr (.int i)) .un .un, .int x, rfl, call_of (cons_of (r := .slot 0) rfl (cons_of hl rfl)) rfl ep rfl rfl, rfl, ⟨x, rfl, lx x hx⟩, g1, s1, rfl⟩)
  obtain ⟨ms, rfl, hms⟩ := ints_of hacc
  rw [List.length_map, range_len, List.length_nil, Nat.zero_add] at hlen
  have hi : rng1I (consA (bin2 ixD (varF 1) (valF (.int 0))) (nilA)) (Em m ls way g s .un .un .un .un .un) = some ([], rangeD 0 m, Em m ls way g s .un .un .un .un .un) := rngI_of (cons_of (bin_of (r1 := .val (webD m ls)) (r2 := .val (.int 0)) rfl rfl rfl rfl ix_web0) rfl) (by omega) (by omega)
  exact ⟨ms, g', s', set_nx (blt_of (cons_of (compE_of (ρ1 := Em m ls way g s .un .un .un .un .un) (rs := []) hi rfl e) rfl) rfl (o := .val (lotD ms)) rfl) rfl, by omega, hms⟩
abbrev growS : SS := seqS (ifS (ofV (bin2 (cmpV isN) (callE none f_law_fault (consA (varF 1) (consA (callE none f_law_chances (consA (varF 3) (nilA))) (nilA)))) (valF .non))) (brS) (skipS))
    (setS 3 (bltE tupK (consA (compE [7] (seqI (varF 3)) (nameT 7) (yesT) (bin2 addD (bin2 addD (varF 7) (valF (.int 1))) (bin2 (iiD divI) (varF 7) (valF (.int 2))))) (nilA))))
/-- marks made more, till no sum is below nought -/
theorem more_marks {g s way : Int} {ms : List Int} (hm : 1 ≤ m ∧ m ≤ 6) (hls : ls.length ≤ 60) (hl : (ms.length : Int) = m) (hx : ∀ x ∈ ms, 1 ≤ x ∧ x ≤ 12) : ∃ (ms' : List Int) (a4 : Slot), forS (rng1I (consA (valF (.int 12)) (nilA))) (nameT 4) growS (Em m ls way g s (.fr (lotD ms)) .un .un .un .un) = some (.nx (Em m ls way g s (.fr (lotD ms')) a4 .un .un .un)) ∧ Mk m ms' := by
  let B : En → Prop := fun ρ => ∃ ms' a4, ρ = Em m ls way g s (.fr (lotD ms')) a4 .un .un .un ∧ Mk m ms'
  have h := loopS_brk (T := nameT 4) (F := growS) (fun k ρ => ∃ ms' a4, ρ = Em m ls way g s (.fr (lotD ms')) a4 .un .un .un ∧ frq a4 = true ∧ (ms'.length : Int) = m ∧ ∀ x ∈ ms', 1 ≤ x ∧ x ≤ bnd k) B (rangeD 0 12) 0 (Em m ls way g s (.fr (lotD ms)) .un .un .un .un) (fun k d hd ρ ⟨ms', a4, hρ, f4, hl', hx'⟩ => by
    subst hρ
    obtain ⟨rfl, hk⟩ := range_at hd
    rw [Nat.zero_add] at hx' ⊢
    have hb := bnd_le k (by omega)
    have M : Mk m ms' := ⟨hl', fun x hx => by have := hx' x hx; omega⟩
    obtain ⟨d, ef, hd⟩ := fault_ok (ls := ls) (M.ch hm.2) ⟨by omega, hm.2⟩ hls
    let ρ1 : En := Em m ls way g s (.fr (lotD ms')) (.fr (.int (0 + k))) .un .un .un
    have c1 : callE none f_law_chances (consA (varF 3) (nilA)) ρ1 = some (.val (chD (mCs ms')), ρ1) := by
      have := call_of (io := none) (F := f_law_chances) (ρ := ρ1) (cons_of (f := varF 3) (r := .val (lotD ms')) rfl (F := nilA) rfl) rfl (lchances_ok (by omega)) rfl rfl
      rw [M.data] at this
      exact this
    refine ⟨ρ1, by simp [ρ1, frq_free f4], ?_⟩
    rcases hd with rfl | ⟨l, rfl, _⟩
    · refine .inr ⟨ρ1, ?_, ms', _, rfl, M⟩
      have : ifS (ofV (bin2 (cmpV isN) (callE none f_law_fault (consA (varF 1) (consA (callE none f_law_chances (consA (varF 3) (nilA))) (nilA)))) (valF .non))) (brS) (skipS) ρ1 = some (.bk ρ1) :=
        if_t (of_of (bin_of (call_of (cons_of (r := .val (webD m ls)) rfl (cons_of c1 rfl)) rfl ef rfl rfl) (r2 := .val .non) (o := .val (.bl true)) rfl rfl rfl rfl)) rfl
      unfold growS seqS
      simp only [this]
    · have hc : compE [7] (seqI (varF 3)) (nameT 7) (yesT) (bin2 addD (bin2 addD (varF 7) (valF (.int 1))) (bin2 (iiD divI) (varF 7) (valF (.int 2)))) ρ1 = some (.new (.lst (ms'.map fun x => .int (x + 1 + x / 2))), ρ1) :=
        compE_map (ρ1 := ρ1) (ρb := ρ1) (rs := [.val (lotD ms')]) (xs := ms') D.int (fun x => .int (x + 1 + x / 2)) (seq_lot rfl) rfl (by omega) (fun x _ => ⟨Em m ls way g s (.fr (lotD ms')) (.fr (.int (0 + k))) .un .un (.fr (.int x)), .val (.int (x + 1 + x / 2)), Em m ls way g s (.fr (lotD ms')) (.fr (.int (0 + k))) .un .un (.fr (.int x)), rfl,
          bin_of (r1 := .val (.int (x + 1))) (r2 := .val (.int (x / 2))) (bin_of (r1 := .val (.int x)) (r2 := .val (.int 1)) rfl rfl rfl rfl rfl) (bin_of (r1 := .val (.int x)) (r2 := .val (.int 2)) rfl rfl rfl rfl (by
            have : (0 : Int) < 2 ∧ (2 : Int).natAbs.log2 < 9000 := ⟨by decide, by decide⟩
            simp only [iiD, divI, if_pos this, Option.map_some])) rfl rfl rfl, rfl, rfl⟩)
      refine .inl ⟨Em m ls way g s (.fr (lotD (ms'.map fun x => x + 1 + x / 2))) (.fr (.int (0 + k))) .un .un .un, seq_nx (if_f (of_of (bin_of (call_of (cons_of (r := .val (webD m ls)) rfl (cons_of c1 rfl)) rfl ef rfl rfl) (r2 := .val .non) (o := .val (.bl false)) rfl rfl rfl rfl)) rfl) (set_nx (blt_of (cons_of hc rfl) rfl (o := .val (lotD (ms'.map fun x => x + 1 + x / 2))) ?_) rfl), _, _, rfl, rfl, by simpa using hl', fun y hy => ?_⟩
      · unfold lotD
        rw [List.map_map]
        rfl
      · obtain ⟨x, hx, rfl⟩ := List.mem_map.mp hy
        have := hx' x hx
        simp only [bnd]
        omega) ⟨ms, .un, rfl, rfl, hl, by simpa [bnd] using hx⟩
  rcases h with ⟨ρ', e, ms', a4, rfl, _, hl', hx'⟩ | ⟨ρ', e, ms', a4, rfl, M⟩
  · refine ⟨ms', a4, for_nx (rs := []) (rngI_of (j := 12) rfl (by omega) (by omega)) e rfl, hl', fun x hx => ?_⟩
    have := hx' x hx
    rw [range_len] at this
    have h12 := (bnd_le 12 (Nat.le_refl _)).1
    have e12 : (0 + ((12 : Int) - 0).toNat) = 12 := rfl
    rw [e12] at this
    omega
  · exact ⟨ms', a4, for_bk (rs := []) (rngI_of (j := 12) rfl (by omega) (by omega)) e rfl, M⟩
theorem lmarks_ok (g s way : Int) (hm : 1 ≤ m ∧ m ≤ 6) (hls : ls.length ≤ 60) : ∃ (ms : List Int) (g' s' : Int), f_law_marks [boxD g s, webD m ls, .int way] = some (false, lotD ms, boxD g' s') ∧ Mk m ms := by
  obtain ⟨ms, g1, s1, e1, hl, hx⟩ := first_marks (m := m) (ls := ls) g s way hm
  have cmp : ∀ (n : Int) (ρ : En), ρ[2]? = some (.fr (.int way)) → ofV (bin2 (cmpV eqK) (varF 2) (valF (.int n))) ρ = some (decide (way = n), ρ) := fun n ρ h => of_of (bin_of (r1 := .val (.int way)) (r2 := .val (.int n)) (o := .val (.bl (decide (way = n)))) (by simp only [varF, h]) rfl rfl rfl (by simp [cmpV]))
  have cf : ∀ (n : Int) (ρ : En), ¬ way = n → ρ[2]? = some (.fr (.int way)) → ofV (bin2 (cmpV eqK) (varF 2) (valF (.int n))) ρ = some (false, ρ) := fun n ρ h h2 => by rw [cmp n ρ h2, decide_eq_false h]
  have ct : ∀ (n : Int) (ρ : En), way = n → ρ[2]? = some (.fr (.int way)) → ofV (bin2 (cmpV eqK) (varF 2) (valF (.int n))) ρ = some (true, ρ) := fun n ρ h h2 => by rw [cmp n ρ h2, decide_eq_true h]
  by_cases h3 : way = 3
  · subst h3
    obtain ⟨acc, ρ', e, ⟨g', s', rfl⟩, hacc, hlen⟩ := loopC_all (own := [7]) (T := nameT 7) (fe := bltE max2K (consA (valF (.int 1)) (consA (bin2 (iiD subI) (varF 7) (callE (some 0) f_law_take (consA (varF 0) (consA (valF (.int 3)) (nilA))))) (nilA))))
      (fun ρ => ∃ g s, ρ = Em m ls 3 g s (.fr (lotD ms)) .un .un .un .un) (fun d => ∃ i : Int, d = .int i ∧ (1 ≤ i ∧ i ≤ 4096)) (ms.map .int) [] (Em m ls 3 g1 s1 (.fr (lotD ms)) .un .un .un .un) (by rw [List.length_map]; simp; omega) ⟨g1, s1, rfl⟩ (by simp) (fun d hd ρ ⟨g, s, hρ⟩ => by
        subst hρ
        obtain ⟨i, hi, rfl⟩ := List.mem_map.mp hd
        have hi := hx i hi
        obtain ⟨y, g2, s2, et, y0, y1⟩ := take_at (p := true) (g := g) (s := s) (m := 3) (rest := [.fr (webD m ls), .fr (.int 3), .fr (lotD ms), .un, .un, .un, .fr (.int i)]) (fa := valF (.int 3)) rfl (by omega) (by omega)
        exact ⟨Em m ls 3 g s (.fr (lotD ms)) .un .un .un (.fr (.int i)), .val (.int (if i - y > 1 then i - y else 1)), Em m ls 3 g2 s2 (.fr (lotD ms)) .un .un .un (.fr (.int i)), .int (if i - y > 1 then i - y else 1), rfl, blt_of (cons_of (r := .val (.int 1)) rfl (cons_of (bin_of (r1 := .val (.int i)) (r2 := .val (.int y)) rfl et rfl rfl rfl) rfl)) rfl rfl, rfl, ⟨_, rfl, by split <;> omega⟩, g2, s2, rfl⟩)
    obtain ⟨ns, rfl, hns⟩ := ints_of hacc
    rw [List.length_map, List.length_map, List.length_nil, Nat.zero_add] at hlen
    exact ⟨ns, g', s', fn_run (seq_nx e1 (seq_rt (if_t (ct 3 _ rfl rfl) (ret_rt (r := .val (lotD ns)) (blt_of (cons_of (compE_of (ρ1 := Em m ls 3 g1 s1 (.fr (lotD ms)) .un .un .un .un) (rs := [.val (lotD ms)]) (seq_lot (f := varF 3) rfl) rfl e) rfl) rfl rfl))))) rfl, by omega, hns⟩
  by_cases h0 : way = 0
  · refine ⟨ms, g1, s1, fn_run (seq_nx e1 (seq_nx (if_f (cf 3 _ h3 rfl) rfl) (seq_rt (if_t (ct 0 _ h0 rfl) (ret_rt (r := .val (lotD ms)) rfl))))) rfl, hl, fun x hx' => by have := hx x hx'; omega⟩
  obtain ⟨ms2, a4, e2, M⟩ := more_marks (ls := ls) (g := g1) (s := s1) (way := way) hm hls hl hx
  by_cases h2 : way = 2
  · obtain ⟨h, g3, s3, et, q0, q1⟩ := take_at (p := true) (g := g1) (s := s1) (m := m) (rest := [.fr (webD m ls), .fr (.int way), .fr (lotD ms2), a4, .un, .un, .un]) (fa := bin2 ixD (varF 1) (valF (.int 0))) (bin_of (r1 := .val (webD m ls)) (r2 := .val (.int 0)) rfl rfl rfl rfl ix_web0) (by omega) (by omega)
    obtain ⟨d, ee, hd⟩ := enough_ok (ls := ls) M ⟨by omega, hm.2⟩ hls q0 q1
    have hml : ms2.length ≤ 100 := by have := M.len; omega
    let ρ2 : En := Em m ls way g3 s3 (.fr (lotD ms2)) a4 (.fr (.int h)) (.fr d) .un
    have s5 : setS 5 (callE (some 0) f_law_take (consA (varF 0) (consA (bin2 ixD (varF 1) (valF (.int 0))) (nilA)))) (Em m ls way g1 s1 (.fr (lotD ms2)) a4 .un .un .un) = some (.nx (Em m ls way g3 s3 (.fr (lotD ms2)) a4 (.fr (.int h)) .un .un)) := set_nx et rfl
    have s6 : setS 6 (callE none f_law_enough_for (consA (varF 1) (consA (varF 3) (consA (varF 5) (nilA))))) (Em m ls way g3 s3 (.fr (lotD ms2)) a4 (.fr (.int h)) .un .un) = some (.nx ρ2) :=
      set_nx (call_of (cons_of (r := .val (webD m ls)) rfl (cons_of (r := .val (lotD ms2)) rfl (cons_of (r := .val (.int h)) rfl rfl))) rfl ee rfl rfl) rfl
    obtain ⟨n, hn, n0, n1⟩ : ∃ n : Int, iteV (ofV (bin2 (cmpV isNotN) (varF 6) (valF .non))) (varF 6) (bin2 ixD (varF 3) (varF 5)) ρ2 = some (.val (.int n), ρ2) ∧ 1 ≤ n ∧ n ≤ 4096 := by
      rcases hd with rfl | ⟨n, rfl, n0, n1⟩
      · obtain ⟨v, ev, hv⟩ := atI_some (l := ms2) q0 (by rw [M.len]; exact q1)
        have := M.mrk v hv
        exact ⟨v, ite_f (of_of (bin_of (r1 := .val .non) (r2 := .val .non) (o := .val (.bl false)) rfl rfl rfl rfl rfl)) (bin_of (r1 := .val (lotD ms2)) (r2 := .val (.int h)) rfl rfl rfl rfl (by simp [ixD, lotD, atI_map, ev])), this.1, this.2⟩
      · exact ⟨n, ite_t (of_of (bin_of (r1 := .val (.int n)) (r2 := .val .non) (o := .val (.bl true)) rfl rfl rfl rfl rfl)) rfl, n0, by omega⟩
    have s3' := turn_of (ms := ms2) (i := 3) (j := 5) (ρ := ρ2) hml rfl rfl q0 hn
    exact ⟨turnAt ms2 h n, g3, s3, fn_run (seq_nx e1 (seq_nx (if_f (cf 3 _ h3 rfl) rfl) (seq_nx (if_f (cf 0 _ h0 rfl) rfl) (seq_nx e2 (seq_nx (ρ1 := Em m ls way g3 s3 (.fr (lotD (turnAt ms2 h n))) a4 (.fr (.int h)) (.fr d) .un) (if_t (ct 2 _ h2 rfl) (seq_nx s5 (seq_nx s6 (set_nx s3' rfl)))) (ret_rt (r := .val (lotD (turnAt ms2 h n))) rfl)))))) rfl, M.turn q0 q1 n0 n1⟩
  · exact ⟨ms2, g1, s1, fn_run (seq_nx e1 (seq_nx (if_f (cf 3 _ h3 rfl) rfl) (seq_nx (if_f (cf 0 _ h0 rfl) rfl) (seq_nx e2 (seq_nx (if_f (cf 2 _ h2 rfl) rfl) (ret_rt (r := .val (lotD ms2)) rfl)))))) rfl, M⟩
end
end Mi

/-! Drawn chances; a web of few things; likeness of one. -/
namespace Mi
open PySem PySem.Spec
open PyProof.Rows hiding St
open L2
section
variable {m : Int} {ls : List (List Int)}
theorem drawn_chances_at (g s : Int) (hm : 1 ≤ m ∧ m ≤ 6) (hls : ls.length ≤ 60) : ∃ (cs : List Rat) (g' s' : Int), f_law_drawn_chances [boxD g s, webD m ls] = some (false, chD cs, boxD g' s') ∧ Ch m cs ∧ dprod cs ≤ 2 ^ 72 := by
  let E : Int → Int → Slot → Slot → Slot → En := fun g s a b c => [.ow true false (boxD g s), .fr (webD m ls), a, b, c]
  have tk : ∀ (g s n : Int) (a b c : Slot) , 0 < n → n < 1000 → ∃ y g' s', callE (some 0) f_law_take (consA (varF 0) (consA (valF (.int n)) (nilA))) (E g s a b c) = some (.val (.int y), E g' s' a b c) ∧ 0 ≤ y ∧ y < n := fun g s n a b c h0 h1 => by
    obtain ⟨y, g', s', e, y0, y1⟩ := take_at (p := true) (g := g) (s := s) (m := n) (rest := [.fr (webD m ls), a, b, c]) (fa := valF (.int n)) rfl h0 h1
    exact ⟨y, g', s', e, y0, y1⟩
  obtain ⟨y, g1, s1, e1, y0, y1⟩ := tk g s 2 .un .un .un (by omega) (by omega)
  have c0 : ofV (bin2 (cmpV eqK) (callE (some 0) f_law_take (consA (varF 0) (consA (valF (.int 2)) (nilA)))) (valF (.int 0))) (E g s .un .un .un) = some (decide (y = 0), E g1 s1 .un .un .un) := of_of (bin_of e1 rfl rfl rfl (by simp [cmpV]))
  by_cases hy : y = 0
  · rw [decide_eq_true hy] at c0
    obtain ⟨w, g2, s2, e2, w0, w1⟩ := tk g1 s1 4 .un .un .un (by omega) (by omega)
    obtain ⟨ms, g3, s3, em, M⟩ := lmarks_ok (ls := ls) g2 s2 w hm hls
    have hml : ms.length ≤ 100 := by have := M.len; omega
    have lc := lchances_ok hml
    rw [M.data] at lc
    exact ⟨mCs ms, g3, s3, fn_run (seq_rt (if_t c0 (ret_rt (r := .val (chD (mCs ms))) (ρ1 := E g3 s3 .un .un .un) (call_of (cons_of (call_of (cons_of (r := .slot 0) rfl (cons_of (r := .val (webD m ls)) rfl (cons_of e2 rfl))) rfl em rfl rfl) rfl) rfl lc rfl rfl)))) rfl, M.ch hm.2, M.den hm.2⟩
  · rw [decide_eq_false hy] at c0
    obtain ⟨ρ', e, g2, s2, qs, b, c, rfl, hl, hq, _⟩ := loopS_inv (T := nameT 3) (F := seqS (setS 4 (bin2 addD (valF (.int 1)) (callE (some 0) f_law_take (consA (varF 0) (consA (valF (.int 12)) (nilA))))))
        (dropS (appE 2 (callE none f_law_part (consA (bltE min2K (consA (varF 4) (consA (callE (some 0) f_law_take (consA (varF 0) (consA (bin2 addD (bin2 addD (valF (.int 1)) (bin2 (iiD divI) (varF 4) (valF (.int 2)))) (callE (some 0) f_law_take (consA (varF 0) (consA (valF (.int 2)) (nilA))))) (nilA)))) (nilA)))) (consA (varF 4) (nilA)))))))
      (fun j ρ => ∃ g s qs b c, ρ = E g s (.ow false false (.lst (qs.map frQ))) b c ∧ qs.length = j ∧ (∀ q ∈ qs, (0 ≤ q ∧ q ≤ 1) ∧ q.den ≤ 2 ^ 12) ∧ frq b = true ∧ frq c = true) (rangeD 0 m) 0 (E g1 s1 (.ow false false (.lst [])) .un .un) (fun j d hd ρ ⟨g, s, qs, b, c, hρ, hl, hq, fb, fc⟩ => by
        subst hρ
        obtain ⟨rfl, hj⟩ := range_at hd
        rw [Nat.zero_add] at hl ⊢
        obtain ⟨x, ga, sa, ea, x0, x1⟩ := tk g s 12 (.ow false false (.lst (qs.map frQ))) (.fr (.int (0 + j))) c (by omega) (by omega)
        have hb : 1 ≤ 1 + x ∧ 1 + x ≤ 12 := by omega
        generalize hbt : 1 + x = bot at hb
        let L : Slot := .ow false false (.lst (qs.map frQ))
        have s4 : setS 4 (bin2 addD (valF (.int 1)) (callE (some 0) f_law_take (consA (varF 0) (consA (valF (.int 12)) (nilA))))) (E g s L (.fr (.int (0 + j))) c) = some (.nx (E ga sa L (.fr (.int (0 + j))) (.fr (.int bot)))) :=
          set_nx (bin_of (r1 := .val (.int 1)) rfl ea rfl rfl rfl) (by simp [E, L, frq_free fc, hbt])
        obtain ⟨z, gb, sb, eb, z0, z1⟩ := tk ga sa 2 L (.fr (.int (0 + j))) (.fr (.int bot)) (by omega) (by omega)
        have hd2 : bin2 (iiD divI) (varF 4) (valF (.int 2)) (E ga sa L (.fr (.int (0 + j))) (.fr (.int bot))) = some (.val (.int (bot / 2)), E ga sa L (.fr (.int (0 + j))) (.fr (.int bot))) := bin_of (r1 := .val (.int bot)) (r2 := .val (.int 2)) rfl rfl rfl rfl (by
          have : (0 : Int) < 2 ∧ (2 : Int).natAbs.log2 < 9000 := ⟨by decide, by decide⟩
          simp only [iiD, divI, if_pos this, Option.map_some])
        have hn : 0 < 1 + bot / 2 + z ∧ 1 + bot / 2 + z < 1000 := by omega
        obtain ⟨u, gc, sc, eu, u0, u1⟩ := take_ok gb sb (1 + bot / 2 + z) hn.1 hn.2
        have ec : callE (some 0) f_law_take (consA (varF 0) (consA (bin2 addD (bin2 addD (valF (.int 1)) (bin2 (iiD divI) (varF 4) (valF (.int 2)))) (callE (some 0) f_law_take (consA (varF 0) (consA (valF (.int 2)) (nilA))))) (nilA))) (E ga sa L (.fr (.int (0 + j))) (.fr (.int bot))) = some (.val (.int u), E gc sc L (.fr (.int (0 + j))) (.fr (.int bot))) :=
          call_of (cons_of (r := .slot 0) rfl (cons_of (bin_of (bin_of (r1 := .val (.int 1)) rfl hd2 rfl rfl (o := .val (.int (1 + bot / 2))) rfl) eb rfl rfl (o := .val (.int (1 + bot / 2 + z))) rfl) rfl)) rfl eu rfl rfl
        have hx : ∃ v : Int, bltE min2K (consA (varF 4) (consA (callE (some 0) f_law_take (consA (varF 0) (consA (bin2 addD (bin2 addD (valF (.int 1)) (bin2 (iiD divI) (varF 4) (valF (.int 2)))) (callE (some 0) f_law_take (consA (varF 0) (consA (valF (.int 2)) (nilA))))) (nilA)))) (nilA))) (E ga sa L (.fr (.int (0 + j))) (.fr (.int bot))) = some (.val (.int v), E gc sc L (.fr (.int (0 + j))) (.fr (.int bot))) ∧ 0 ≤ v ∧ v ≤ bot :=
          ⟨if u < bot then u else bot, blt_of (cons_of (r := .val (.int bot)) rfl (cons_of ec rfl)) rfl rfl, by split <;> omega, by split <;> omega⟩
        obtain ⟨v, ev, v0, v1⟩ := hx
        have hB : Bp v bot.toNat 12 := ⟨by have : v.natAbs ≤ 4096 := by omega
                                           exact this, by have : bot.toNat ≤ 4096 := by omega
                                                          exact this⟩
        have pk := part_ok (x := v) (d := bot.toNat) (k := 12) (by omega) hB (by omega)
        rw [show ((bot.toNat : Nat) : Int) = bot by omega] at pk
        refine ⟨E g s L (.fr (.int (0 + j))) c, E gc sc (.ow false false (.lst ((qs ++ [mkRat v bot.toNat]).map frQ))) (.fr (.int (0 + j))) (.fr (.int bot)), by simp [E, L, frq_free fb], .inl (seq_nx s4 (drop_of (r := .val .non) ?_)), gc, sc, qs ++ [mkRat v bot.toNat], _, _, rfl, by simp [hl], fun q hq' => ?_, rfl, rfl⟩
        · have ep : callE none f_law_part (consA (bltE min2K (consA (varF 4) (consA (callE (some 0) f_law_take (consA (varF 0) (consA (bin2 addD (bin2 addD (valF (.int 1)) (bin2 (iiD divI) (varF 4) (valF (.int 2)))) (callE (some 0) f_law_take (consA (varF 0) (consA (valF (.int 2)) (nilA))))) (nilA)))) (nilA)))) (consA (varF 4) (nilA))) (E ga sa L (.fr (.int (0 + j))) (.fr (.int bot))) = some (.val (frQ (mkRat v bot.toNat)), E gc sc L (.fr (.int (0 + j))) (.fr (.int bot))) :=
            call_of (cons_of ev (cons_of (r := .val (.int bot)) rfl rfl)) rfl pk rfl rfl
          have := app_of (i := 2) (p0 := false) (l0 := false) (p := false) (ds0 := qs.map frQ) (ds := qs.map frQ) (ρ := E ga sa L (.fr (.int (0 + j))) (.fr (.int bot))) (ρ1 := E gc sc L (.fr (.int (0 + j))) (.fr (.int bot))) rfl ep rfl rfl (by rw [List.length_map]; omega)
          rw [this]
          simp [E]
        · rcases List.mem_append.mp hq' with h | h
          · exact hq q h
          · rw [List.mem_singleton.mp h]
            refine ⟨mk01 v0 (by omega) (by omega), Nat.le_trans (Nat.le_of_dvd (by omega) (den_mk (N := v) (D := bot.toNat) (by omega))) ?_⟩
            have h12 : (2 : Nat) ^ 12 = 4096 := by decide
            omega) ⟨g1, s1, [], .un, .un, rfl, rfl, by simp, rfl, rfl⟩
    rw [Nat.zero_add, range_len] at hl
    have hr : rng1I (consA (bin2 ixD (varF 1) (valF (.int 0))) (nilA)) (E g1 s1 (.ow false false (.lst [])) .un .un) = some ([], rangeD 0 m, E g1 s1 (.ow false false (.lst [])) .un .un) := rngI_of (cons_of (bin_of (r1 := .val (webD m ls)) (r2 := .val (.int 0)) rfl rfl rfl rfl ix_web0) rfl) (by omega) (by omega)
    exact ⟨qs, g2, s2, fn_run (seq_nx (if_f c0 rfl) (seq_nx (ρ1 := E g1 s1 (.ow false false (.lst [])) .un .un) rfl (seq_nx (for_nx (rs := []) hr e rfl) (ret_rt (r := .val (chD qs)) (blt_of (cons_of (r := .slot 2) rfl rfl) rfl rfl))))) rfl, ⟨by omega, fun q h => (hq q h).1, Nat.le_trans (dprod_le (k := 12) fun q h => (hq q h).2) (Nat.pow_le_pow_right (by omega) (by omega))⟩, Nat.le_trans (dprod_le (k := 12) fun q h => (hq q h).2) (Nat.pow_le_pow_right (by omega) (by omega))⟩
theorem drawn_chances_ok (g s : Int) (hm : 1 ≤ m ∧ m ≤ 6) (hls : ls.length ≤ 60) : ∃ (cs : List Rat) (g' s' : Int), f_law_drawn_chances [boxD g s, webD m ls] = some (false, chD cs, boxD g' s') ∧ Ch m cs := by
  obtain ⟨cs, g', s', h, C, _⟩ := drawn_chances_at (ls := ls) g s hm hls
  exact ⟨cs, g', s', h, C⟩
end
theorem court_ok (g s : Int) : ∃ m ls g' s', f_law_court [boxD g s, .int 6] = some (false, webD m ls, boxD g' s') ∧ WebOk m ls ∧ 1 ≤ m ∧ m ≤ 6 := by
  obtain ⟨m, ls, g1, s1, ew, ok, hm⟩ := web_ok g s 6 (by omega) (by omega)
  have hm1 := ok.many.1
  have hm6 : m ≤ 6 := by omega
  have hlen : (ls.length : Int) < 9 := by
    rcases ok.wee with h | ⟨h1, h2⟩
    · omega
    · omega
  let E : En := [.ow true false (boxD g1 s1), .fr (.int 6), .fr (webD m ls)]
  have c : ofV (bin2 (cmpV ltD) (bltE lenK (consA (bin2 ixD (varF 2) (valF (.int 1))) (nilA))) (valF (.int 9))) E = some (true, E) := by
    have := of_of (bin_of (k := cmpV ltD) (f := bltE lenK (consA (bin2 ixD (varF 2) (valF (.int 1))) nilA)) (g := valF (.int 9)) (ρ := E) (r1 := .val (.int ls.length)) (r2 := .val (.int 9)) (o := .val (.bl (decide ((ls.length : Int) < 9)))) (blt_of (cons_of (bin_of (r1 := .val (webD m ls)) (r2 := .val (.int 1)) rfl rfl rfl rfl ix_web1) rfl) rfl (by simp [lenK, lotsD, D.seq])) rfl rfl rfl (by simp [cmpV]))
    rwa [decide_eq_true hlen] at this
  exact ⟨m, ls, g1, s1, fn_run (seq_nx (ρ1 := E) (set_nx (call_of (cons_of (r := .slot 0) rfl (cons_of (r := .val (.int 6)) rfl rfl)) rfl ew rfl rfl) rfl) (ret_rt (r := .val (webD m ls)) (ite_t c rfl))) rfl, ok, by omega, hm6⟩
/-- one, written by the module, is like one -/
theorem like_one : f_law_like [oneK, frQ 1] = some (false, .bl true, .non) := by
  have h : ∃ d ds, rangeD 0 1000000 = d :: ds ∧ ds.length = 999999 := by
    have hl : (rangeD 0 1000000).length = 1000000 := by rw [range_len]; rfl
    cases q : rangeD 0 1000000 with
    | nil => rw [q] at hl; simp at hl
    | cons d ds => exact ⟨d, ds, rfl, by rw [q] at hl; simpa using hl⟩
  obtain ⟨d, ds, hd, hl⟩ := h
  obtain ⟨ρ', e⟩ := like_loop oneK (frQ 1) ds [.int 1, .int 1] (.fr d) (.fr oneK) (.fr (frQ 1)) rfl rfl rfl (fun x hx => by
    simp only [List.mem_cons, List.not_mem_nil, or_false] at hx
    rcases hx with rfl | rfl <;> exact ⟨rfl, .int 1⟩) (by rw [hl]; simp [D.szAll, D.sz]) (by simp [D.szAll, D.sz])
  refine fn_run (seq_nx (ρ1 := [.fr oneK, .fr (frQ 1), .ow false false (.lst [.tup [oneK, frQ 1]]), .un, .un, .un]) rfl (seq_rt (for_rt (rs := []) (rngI_of (j := 1000000) rfl (by omega) (by omega)) (ρ2 := ρ') (r := .val (.bl true)) ?_))) rfl
  rw [hd]
  show loopS (nameT 3) bodyLike (d :: ds) [.fr oneK, .fr (frQ 1), .ow false false (.lst [.tup [oneK, frQ 1]]), .un, .un, .un] = _
  have hT : nameT 3 d [.fr oneK, .fr (frQ 1), .ow false false (.lst [.tup [oneK, frQ 1]]), .un, .un, .un] = some [.fr oneK, .fr (frQ 1), .ow false false (.lst [.tup [oneK, frQ 1]]), .fr d, .un, .un] := rfl
  have e1 : bodyLike [.fr oneK, .fr (frQ 1), .ow false false (.lst [.tup [oneK, frQ 1]]), .fr d, .un, .un] = some (.nx [.fr oneK, .fr (frQ 1), .ow false false (.lst ([.int 1, .int 1].map pairD)), .fr d, .fr oneK, .fr (frQ 1)]) := rfl
  simp only [loopS, hT, e1]
  exact e
theorem like_frQ (q : Rat) : f_law_like [frQ q, frQ q] = some (false, .bl true, .non) := like_lot [q.num, (q.den : Int)] (by simp)
theorem like_sum (c : Int → Rat) (ls : List (List Int)) (l : List Int) : f_law_like [sumD c ls l, frQ (altS c ls l)] = some (false, .bl true, .non) := by
  unfold sumD
  split
  · rename_i h
    rw [h, altS_nil]
    exact like_one
  · exact like_frQ _
/-- a check of two that are alike -/
theorem check2_ok {F1 F2 : SE} {ρ : En} {d1 d2 : D} (h1 : F1 ρ = some (.val d1, ρ)) (h2 : F2 ρ = some (.val d2, ρ)) (hl : f_law_like [d1, d2] = some (false, .bl true, .non)) :
    ifS (notT (truT (callE none f_law_like (consA F1 (consA F2 (nilA)))))) (retS (valF (.bl false))) (skipS) ρ = some (.nx ρ) :=
  if_f (not_of (tru_of (call_of (cons_of h1 (cons_of h2 rfl)) rfl hl rfl rfl))) rfl
theorem lots_back : ∀ {ds : List D}, (∀ d ∈ ds, ∃ l : List Int, d = lotD l) → (ds.map lotOf).map lotD = ds
  | [], _ => rfl
  | d :: ds, h => by
    obtain ⟨l, rfl⟩ := h d List.mem_cons_self
    rw [List.map_cons, List.map_cons, lots_back fun x hx => h x (List.mem_cons_of_mem _ hx), lotOf_lot]
end Mi

/-! Sums by less, whichever hand. -/
namespace Mi
open PySem PySem.Spec
open PyProof.Rows hiding St
open L2
section
variable {c : Int → Rat} {ls : List (List Int)}
def less1 (h : Int) (l : List Int) : List Int := l.filter fun x => !decide (x = h)
def far1 (ls : List (List Int)) (h : Int) (l : List Int) : List Int := l.filter fun x => !tch ls x h
theorem filter_comm (p q : Int → Bool) (l : List Int) : (l.filter p).filter q = (l.filter q).filter p := by
  rw [List.filter_filter, List.filter_filter]
  exact List.filter_congr fun x _ => Bool.and_comm _ _
theorem near_far (ls : List (List Int)) (h : Int) (l : List Int) : (l.filter fun x => !tch ls h x) = far1 ls h l := List.filter_congr fun x _ => by rw [tch_sym]
/-- the sum by less, by any hand -/
theorem altS_del : ∀ (n : Nat) {l : List Int} {h : Int}, l.length ≤ n → l.Pairwise (· < ·) → h ∈ l → altS c ls l = altS c ls (less1 h l) - c h * altS c ls (far1 ls h l)
  | 0, l, h, hn, _, hh => by
    have : l = [] := List.length_eq_zero_iff.mp (by omega)
    subst this
    cases hh
  | n + 1, [], h, _, _, hh => by cases hh
  | n + 1, a :: t, h, hn, hp, hh => by
    rw [List.length_cons] at hn
    have hp' := hp
    rw [List.pairwise_cons] at hp
    by_cases ha : h = a
    · subst ha
      have e1 : less1 h (h :: t) = t := by
        unfold less1
        rw [List.filter_cons_of_neg (by simp)]
        refine List.filter_eq_self.mpr fun x hx => ?_
        have := hp.1 x hx
        have : x ≠ h := by omega
        simp [this]
      have e2 : far1 ls h (h :: t) = far1 ls h t := by
        unfold far1
        rw [List.filter_cons_of_neg (by simp [tch_self])]
      rw [e1, e2, altS_cons hp', near_far]
    · have ht : h ∈ t := by
        rcases List.mem_cons.mp hh with z | z
        · exact absurd z ha
        · exact z
      have I1 := altS_del n (by omega) hp.2 ht (l := t)
      have hl1 : less1 h (a :: t) = a :: less1 h t := by
        unfold less1
        rw [List.filter_cons_of_pos (by simpa using Ne.symm ha)]
      have hpl : (a :: less1 h t).Pairwise (· < ·) := List.pairwise_cons.mpr ⟨fun x hx => hp.1 x (List.mem_filter.mp hx).1, hp.2.sublist List.filter_sublist⟩
      rw [altS_cons hp', near_far, hl1, altS_cons hpl, near_far, I1]
      cases q : tch ls a h with
      | true =>
        have e1 : far1 ls a (less1 h t) = far1 ls a t := by
          unfold far1 less1
          rw [List.filter_filter]
          refine List.filter_congr fun x hx => ?_
          by_cases z : x = h
          · subst z
            rw [tch_sym, q]
            rfl
          · simp [z]
        have e2 : far1 ls h (a :: t) = far1 ls h t := by
          unfold far1
          rw [List.filter_cons_of_neg (by simp [q])]
        rw [e1, e2]
        grind
      | false =>
        have hf : h ∈ far1 ls a t := List.mem_filter.mpr ⟨ht, by rw [tch_sym, q]; rfl⟩
        have I2 := altS_del n (l := far1 ls a t) (Nat.le_trans (List.length_filter_le _ _) (by omega)) (hp.2.sublist List.filter_sublist) hf
        have e2 : far1 ls h (a :: t) = a :: far1 ls h t := by
          unfold far1
          rw [List.filter_cons_of_pos (by simp [q])]
        have hpf : (a :: far1 ls h t).Pairwise (· < ·) := List.pairwise_cons.mpr ⟨fun x hx => hp.1 x (List.mem_filter.mp hx).1, hp.2.sublist List.filter_sublist⟩
        have e3 : less1 h (far1 ls a t) = far1 ls a (less1 h t) := filter_comm _ _ t
        have e4 : far1 ls h (far1 ls a t) = far1 ls a (far1 ls h t) := filter_comm _ _ t
        rw [e2, altS_cons hpf, near_far, I2, e3, e4]
        grind
theorem altS_by {l : List Int} {h : Int} (hp : l.Pairwise (· < ·)) (hh : h ∈ l) : altS c ls l = altS c ls (less1 h l) - c h * altS c ls (far1 ls h l) := altS_del l.length (Nat.le_refl _) hp hh
theorem term_congr {c c' : Int → Rat} : ∀ {l : List Int}, (∀ x ∈ l, c x = c' x) → term c l = term c' l
  | [], _ => rfl
  | h :: t, H => by rw [term, term, H h List.mem_cons_self, term_congr fun x hx => H x (List.mem_cons_of_mem _ hx)]
theorem altS_congr {c c' : Int → Rat} {l : List Int} (H : ∀ x ∈ l, c x = c' x) : altS c ls l = altS c' ls l := by
  unfold altS
  congr 1
  refine List.map_congr_left fun T hT => term_congr fun x hx => H x ?_
  exact (grow_sub (List.mem_filter.mp hT).1).subset hx
/-- linear in each chance -/
theorem altS_lin {c0 c1 : Int → Rat} {l : List Int} {h : Int} (hp : l.Pairwise (· < ·)) (hh : h ∈ l) (h0 : c0 h = 0) (h1 : c1 h = 1) (e0 : ∀ x ∈ l, x ≠ h → c0 x = c x) (e1 : ∀ x ∈ l, x ≠ h → c1 x = c x) :
    altS c ls l = c h * altS c1 ls l + (1 - c h) * altS c0 ls l := by
  have nl : ∀ x ∈ less1 h l, x ∈ l ∧ x ≠ h := fun x hx => by
    have := List.mem_filter.mp hx
    exact ⟨this.1, by simpa using this.2⟩
  have nf : ∀ x ∈ far1 ls h l, x ∈ l ∧ x ≠ h := fun x hx => by
    have := List.mem_filter.mp hx
    refine ⟨this.1, fun z => ?_⟩
    subst z
    rw [tch_self] at this
    cases this.2
  rw [altS_by (c := c1) hp hh, altS_by (c := c0) hp hh, h0, h1,
    altS_congr (c := c1) (c' := c) (l := less1 h l) fun x hx => e1 x (nl x hx).1 (nl x hx).2, altS_congr (c := c1) (c' := c) (l := far1 ls h l) fun x hx => e1 x (nf x hx).1 (nf x hx).2,
    altS_congr (c := c0) (c' := c) (l := less1 h l) fun x hx => e0 x (nl x hx).1 (nl x hx).2, altS_congr (c := c0) (c' := c) (l := far1 ls h l) fun x hx => e0 x (nf x hx).1 (nf x hx).2, altS_by (c := c) hp hh]
  grind
end
/-! ### one chance turned -/
def turnC (cs : List Rat) (h : Int) (q : Rat) : List Rat := cs.take h.toNat ++ [q] ++ cs.drop (h + 1).toNat
section
variable {m : Int} {cs : List Rat}
theorem dprod_append : ∀ a b : List Rat, dprod (a ++ b) = dprod a * dprod b
  | [], b => by simp [dprod]
  | q :: a, b => by rw [List.cons_append, dprod, dprod, dprod_append a b, Nat.mul_assoc]
theorem dprod_drop (l : List Rat) : ∀ n : Nat, dprod (l.drop (n + 1)) ≤ dprod (l.drop n) := fun n => by
  by_cases h : n < l.length
  · rw [List.drop_eq_getElem_cons h, dprod]
    exact Nat.le_mul_of_pos_left _ (Rat.den_pos _)
  · rw [List.drop_eq_nil_of_le (by omega), List.drop_eq_nil_of_le (by omega)]
    exact Nat.le_refl _
theorem dprod_turn (cs : List Rat) {h : Int} (h0 : 0 ≤ h) (q : Rat) : dprod (turnC cs h q) ≤ dprod cs * q.den := by
  unfold turnC
  rw [dprod_append, dprod_append, dprod, dprod, Nat.mul_one, show (h + 1).toNat = h.toNat + 1 by omega]
  have e : dprod cs = dprod (cs.take h.toNat) * dprod (cs.drop h.toNat) := by rw [← dprod_append, List.take_append_drop]
  rw [e, Nat.mul_right_comm]
  exact Nat.mul_le_mul_right _ (Nat.mul_le_mul_left _ (dprod_drop cs h.toNat))
theorem Ch.turn (C : Ch m cs) {h : Int} {q : Rat} (h0 : 0 ≤ h) (h1 : h < m) (hq : 0 ≤ q ∧ q ≤ 1) (hd : dprod cs * q.den ≤ 2 ^ 1500) : Ch m (turnC cs h q) := by
  have hl := C.len
  refine ⟨?_, fun x hx => ?_, Nat.le_trans (dprod_turn cs h0 q) hd⟩
  · unfold turnC
    simp only [List.length_append, List.length_take, List.length_drop, List.length_singleton]
    omega
  · unfold turnC at hx
    simp only [List.mem_append, List.mem_singleton] at hx
    rcases hx with (hx | rfl) | hx
    · exact C.pos x (List.mem_of_mem_take hx)
    · exact hq
    · exact C.pos x (List.mem_of_mem_drop hx)
theorem cAt_turn (C : Ch m cs) {h x : Int} {q : Rat} (h0 : 0 ≤ h) (h1 : h < m) (x0 : 0 ≤ x) (x1 : x < m) : cAt (turnC cs h q) x = if x = h then q else cAt cs x := by
  have hl := C.len
  obtain ⟨i, rfl⟩ := Int.eq_ofNat_of_zero_le x0
  obtain ⟨j, rfl⟩ := Int.eq_ofNat_of_zero_le h0
  unfold cAt turnC
  rw [atI_nat, atI_nat, Int.toNat_natCast, show (((j : Int)) + 1).toNat = j + 1 by omega]
  have hj : j < cs.length := by omega
  rcases Nat.lt_trichotomy i j with z | z | z
  · rw [if_neg (by omega), List.append_assoc, List.getElem?_append_left (by rw [List.length_take]; omega), List.getElem?_take, if_pos z]
  · subst z
    rw [if_pos rfl, List.append_assoc, List.getElem?_append_right (by rw [List.length_take]; omega), List.length_take, Nat.min_eq_left (by omega)]
    simp
  · rw [if_neg (by omega), List.getElem?_append_right (by simp; omega)]
    have : i - (cs.take j ++ [q]).length = i - (j + 1) := by simp; omega
    rw [this, List.getElem?_drop, show j + 1 + (i - (j + 1)) = i by omega]
theorem turnC_of {i j : Nat} {fx : SE} {ρ : En} {h : Int} {q : Rat} (hl : cs.length ≤ 100) (hi : ρ[i]? = some (.fr (chD cs))) (hj : ρ[j]? = some (.fr (.int h))) (h0 : 0 ≤ h) (hx : fx ρ = some (.val (frQ q), ρ)) :
    bin2 addD (bin2 addD (slF (varF i) none (some (varF j))) (tupF (consA fx (nilA)))) (slF (varF i) (some (bin2 addD (varF j) (valF (.int 1)))) none) ρ = some (.val (chD (turnC cs h q)), ρ) := by
  have vi : varF i ρ = some (.val (chD cs), ρ) := by simp only [varF, hi]
  have vj : varF j ρ = some (.val (.int h), ρ) := by simp only [varF, hj]
  have s1 : slF (varF i) none (some (varF j)) ρ = some (.val (chD (cs.take h.toNat)), ρ) := by
    unfold slF
    simp only [vi, partF, vj]
    show some (Opd.val (.tup (cutL (cs.map frQ) none (some h))), ρ) = _
    rw [cut_to _ h0, ← List.map_take]
    rfl
  have aj : bin2 addD (varF j) (valF (.int 1)) ρ = some (.val (.int (h + 1)), ρ) := bin_of (r1 := .val (.int h)) (r2 := .val (.int 1)) vj rfl rfl rfl rfl
  have s2 : slF (varF i) (some (bin2 addD (varF j) (valF (.int 1)))) none ρ = some (.val (chD (cs.drop (h + 1).toNat)), ρ) := by
    unfold slF
    simp only [vi, partF, aj]
    show some (Opd.val (.tup (cutL (cs.map frQ) (some (h + 1)) none)), ρ) = _
    rw [cut_from _ (by omega), ← List.map_drop]
    rfl
  refine bin_of (bin_of s1 (tup_of (cons_of hx rfl) rfl (by simp)) rfl rfl (add_tup (a := (cs.take h.toNat).map frQ) (b := [frQ q]) (by simp; omega))) s2 rfl rfl ?_
  rw [chD, add_tup (by simp; omega)]
  simp [turnC, chD]
end
end Mi

/-! What the defs of the regions mean. -/
namespace Mi
open PySem PySem.Spec
open PyProof.Rows hiding St
open L2
def b_over : SS :=
    retS (callE none f_lowest (consA (bin2 (iiD mulI) (bin2 ixD (varF 0) (valF (.int 0))) (bin2 ixD (varF 1) (valF (.int 1)))) (consA (bin2 (iiD mulI) (bin2 ixD (varF 0) (valF (.int 1))) (bin2 ixD (varF 1) (valF (.int 0)))) (nilA))))
def f_over : Fn := fnD 2 none b_over
def b_is_less : SS :=
    retS (bin2 (cmpV ltD) (bin2 (iiD mulI) (bin2 ixD (varF 0) (valF (.int 0))) (bin2 ixD (varF 1) (valF (.int 1)))) (bin2 (iiD mulI) (bin2 ixD (varF 1) (valF (.int 0))) (bin2 ixD (varF 0) (valF (.int 1)))))
def f_is_less : Fn := fnD 2 none b_is_less
def b_first_below : SS :=
    seqS (forS (seqI (varF 2)) (nameT 3) (ifS (truT (callE none f_is_less (consA (bin2 ixD (varF 1) (varF 3)) (consA (valF (.kt [.int 0, .int 1])) (nilA))))) (retS (varF 3)) (skipS)))
    (retS (valF .non))
def f_first_below : Fn := fnD 4 none b_first_below
def b_border_rows : SS :=
    seqS (parS [3, 4, 5] (consA (callE none f_sums_within (consA (varF 0) (consA (varF 1) (nilA)))) (consA (callE none f_touching (consA (varF 0) (consA (varF 2) (nilA)))) (consA (lstF (nilA)) (nilA)))))
    (seqS (setS 6 (callE none f_first_below (consA (varF 0) (consA (varF 3) (consA (compE [6] (seqI (callE none f_lots_of (consA (bin2 ixD (varF 0) (valF (.int 0))) (nilA)))) (nameT 6) (ofV (bin2 (cmpV notInD) (varF 2) (varF 6))) (varF 6)) (nilA))))))
    (seqS (ifS (ofV (bin2 (cmpV isNotN) (varF 6) (valF .non))) (neverS) (skipS))
    (seqS (forS (seqI (callE none f_lots_of (consA (bin2 ixD (varF 0) (valF (.int 0))) (nilA)))) (nameT 6) (ifS (ofV (bin2 (cmpV inD) (varF 2) (varF 6))) (dropS (appE 5 (tupF (consA (bin2 ixD (varF 3) (callE none f_without (consA (varF 6) (consA (tupF (consA (varF 2) (nilA))) (nilA))))) (consA (bin2 ixD (varF 3) (callE none f_without (consA (varF 6) (consA (varF 4) (nilA))))) (nilA)))))) (skipS)))
    (retS (varF 5)))))
def f_border_rows : Fn := fnD 7 none b_border_rows
def b_border_chance : SS :=
    seqS (setS 3 (valF (.kt [.int 1, .int 1])))
    (seqS (forS (seqI (callE none f_border_rows (consA (varF 0) (consA (varF 1) (consA (varF 2) (nilA)))))) (tupT [4, 5]) (ifS (andT (truT (callE none f_is_less (consA (valF (.kt [.int 0, .int 1])) (consA (varF 5) (nilA))))) (truT (callE none f_is_less (consA (callE none f_over (consA (varF 4) (consA (varF 5) (nilA)))) (consA (varF 3) (nilA)))))) (setS 3 (callE none f_over (consA (varF 4) (consA (varF 5) (nilA))))) (skipS)))
    (retS (varF 3)))
def f_border_chance : Fn := fnD 6 none b_border_chance
def b_least_marks : SS :=
    seqS (setS 3 (callE none f_chances_of (consA (varF 1) (nilA))))
    (seqS (ifS (ofV (bin2 (cmpV isNotN) (callE none f_first_below (consA (varF 0) (consA (callE none f_sums_within (consA (varF 0) (consA (varF 3) (nilA)))) (consA (compE [5] (seqI (callE none f_lots_of (consA (bin2 ixD (varF 0) (valF (.int 0))) (nilA)))) (nameT 5) (ofV (bin2 (cmpV notInD) (varF 2) (varF 5))) (varF 5)) (nilA))))) (valF .non))) (retS (valF .non)) (skipS))
    (seqS (setS 4 (callE none f_border_chance (consA (varF 0) (consA (varF 3) (consA (varF 2) (nilA))))))
    (retS (iteV (ofV (bin2 (cmpV eqK) (varF 4) (valF (.kt [.int 0, .int 1])))) (valF .non) (bin2 (iiD divI) (bin2 (iiD subI) (bin2 addD (bin2 ixD (varF 4) (valF (.int 1))) (bin2 ixD (varF 4) (valF (.int 0)))) (valF (.int 1))) (bin2 ixD (varF 4) (valF (.int 0))))))))
def f_least_marks : Fn := fnD 6 none b_least_marks
def b_law_over : SS :=
    retS (callE none f_law_part (consA (bin2 (iiD mulI) (bin2 ixD (varF 0) (valF (.int 0))) (bin2 ixD (varF 1) (valF (.int 1)))) (consA (bin2 (iiD mulI) (bin2 ixD (varF 0) (valF (.int 1))) (bin2 ixD (varF 1) (valF (.int 0)))) (nilA))))
def f_law_over : Fn := fnD 2 none b_law_over
def b_law_below : SS :=
    retS (bin2 (cmpV ltD) (bin2 (iiD mulI) (bin2 ixD (varF 0) (valF (.int 0))) (bin2 ixD (varF 1) (valF (.int 1)))) (bin2 (iiD mulI) (bin2 ixD (varF 1) (valF (.int 0))) (bin2 ixD (varF 0) (valF (.int 1)))))
def f_law_below : Fn := fnD 2 none b_law_below
def b_law_border : SS :=
    seqS (setS 3 (tupF (consA (valF (.int 1)) (consA (valF (.int 1)) (nilA)))))
    (seqS (forS (seqI (callE none f_law_lots (consA (bin2 ixD (varF 0) (valF (.int 0))) (nilA)))) (nameT 4) (ifS (ofV (bin2 (cmpV inD) (varF 2) (varF 4))) (seqS (setS 5 (callE none f_law_sum_of (consA (varF 0) (consA (varF 1) (consA (bltE tupK (consA (compE [7] (seqI (varF 4)) (nameT 7) (ofV (bin2 (cmpV neK) (varF 7) (varF 2))) (varF 7)) (nilA))) (nilA))))))
    (seqS (setS 6 (callE none f_law_sum_of (consA (varF 0) (consA (varF 1) (consA (bltE tupK (consA (compE [7] (seqI (varF 4)) (nameT 7) (notT (truT (callE none f_law_touch (consA (varF 0) (consA (varF 7) (consA (varF 2) (nilA))))))) (varF 7)) (nilA))) (nilA))))))
    (ifS (andT (ofV (bin2 (cmpV (iiB fun i j => decide (j < i))) (bin2 ixD (varF 6) (valF (.int 0))) (valF (.int 0)))) (truT (callE none f_law_below (consA (callE none f_law_over (consA (varF 5) (consA (varF 6) (nilA)))) (consA (varF 3) (nilA)))))) (setS 3 (callE none f_law_over (consA (varF 5) (consA (varF 6) (nilA))))) (skipS)))) (skipS)))
    (retS (varF 3)))
def f_law_border : Fn := fnD 8 none b_law_border
end Mi

/-! Parts by parts, less; the first lot below nought, exactly. -/
namespace Mi
open PySem PySem.Spec
open PyProof.Rows hiding St
open L2
/-- a loop that ends with the first one -/
theorem loopS_find {α : Type} {T : D → En → Option En} {F : SS} (k : α → D) (p : α → Bool) (r : α → Opd) (I : En → Prop) (R : En → Prop) : ∀ (xs : List α) (ρ : En), (∀ x ∈ xs, ∀ ρ, I ρ → ∃ ρ1, T (k x) ρ = some ρ1 ∧ (p x = false → ∃ ρ2, F ρ1 = some (.nx ρ2) ∧ I ρ2) ∧ (p x = true → ∃ ρ2, F ρ1 = some (.rt (r x) ρ2) ∧ R ρ2)) → I ρ →
    (xs.find? p = none ∧ ∃ ρ', loopS T F (xs.map k) ρ = some (.nx ρ') ∧ I ρ') ∨ ∃ x ρ', xs.find? p = some x ∧ loopS T F (xs.map k) ρ = some (.rt (r x) ρ') ∧ R ρ'
  | [], ρ, _, h => .inl ⟨rfl, ρ, by simp, h⟩
  | x :: xs, ρ, hs, h => by
    obtain ⟨ρ1, e1, hf, ht⟩ := hs x List.mem_cons_self ρ h
    cases q : p x with
    | false =>
      obtain ⟨ρ2, e2, h2⟩ := hf q
      rcases loopS_find k p r I R xs ρ2 (fun y hy => hs y (List.mem_cons_of_mem _ hy)) h2 with ⟨f, ρ', e3, h3⟩ | ⟨y, ρ', f, e3, h3⟩
      · exact .inl ⟨by rw [List.find?_cons, q]; exact f, ρ', by rw [List.map_cons]; simp only [loopS, e1, e2, e3], h3⟩
      · exact .inr ⟨y, ρ', by rw [List.find?_cons, q]; exact f, by rw [List.map_cons]; simp only [loopS, e1, e2, e3], h3⟩
    | true =>
      obtain ⟨ρ2, e2, h2⟩ := ht q
      exact .inr ⟨x, ρ2, by rw [List.find?_cons, q], by rw [List.map_cons]; simp only [loopS, e1, e2], h2⟩
/-- a loop that folds -/
theorem loopS_fold {α β : Type} {T : D → En → Option En} {F : SS} (k : α → D) (g : β → α → β) (I : β → En → Prop) : ∀ (xs : List α) (b : β) (ρ : En), (∀ x ∈ xs, ∀ b ρ, I b ρ → ∃ ρ1 ρ2, T (k x) ρ = some ρ1 ∧ F ρ1 = some (.nx ρ2) ∧ I (g b x) ρ2) → I b ρ →
    ∃ ρ', loopS T F (xs.map k) ρ = some (.nx ρ') ∧ I (xs.foldl g b) ρ'
  | [], b, ρ, _, h => ⟨ρ, by simp, h⟩
  | x :: xs, b, ρ, hs, h => by
    obtain ⟨ρ1, ρ2, e1, e2, h2⟩ := hs x List.mem_cons_self b ρ h
    obtain ⟨ρ', e3, h3⟩ := loopS_fold k g I xs (g b x) ρ2 (fun y hy => hs y (List.mem_cons_of_mem _ hy)) h2
    exact ⟨ρ', by rw [List.map_cons]; simp only [loopS, e1, e2, e3], h3⟩
def zeroK : D := .kt [.int 0, .int 1]
theorem Fq.zero : Fq zeroK 0 := ⟨by simp [ixD, zeroK], by simp [ixD, zeroK]⟩
theorem num_neg (q : Rat) : decide (q.num < 0) = decide (q < 0) := by
  have := Rat.num_nonneg (q := q)
  by_cases h : 0 ≤ q
  · rw [decide_eq_false (by have := this.mpr h; omega), decide_eq_false (Rat.not_lt.mpr h)]
  · rw [decide_eq_true (by
      by_cases z : 0 ≤ q.num
      · exact absurd (this.mp z) h
      · omega), decide_eq_true (Rat.not_le.mp h)]
theorem num_pos (q : Rat) : decide (0 < q.num) = decide (0 < q) := by
  refine decide_eq_decide.mpr ?_
  rw [Rat.lt_iff]
  simp
section
variable {a b : D} {p q : Rat} {i j : Nat}
theorem is_less_ok (ha : Fq a p) (hb : Fq b q) (hp : Bt p i) (hq : Bt q j) (h : i + j < 8000) : f_is_less [a, b] = some (false, .bl (decide (p < q)), .non) := by
  obtain ⟨a0, a1, b0, b1⟩ := parts_of ha hb
  have e : decide (p < q) = decide (p.num * q.den < q.num * p.den) := decide_eq_decide.mpr (Rat.lt_iff p q)
  rw [e]
  exact fn_run (ret_rt (bin_of (prod_of a0 b1 hp.1 (nat_abs_le hq.2) (by omega)) (prod_of b0 a1 hq.1 (nat_abs_le hp.2) (by omega)) rfl rfl (o := .val (.bl (decide (p.num * q.den < q.num * p.den)))) (by simp [cmpV]))) rfl
theorem lbelow_ok (ha : Fq a p) (hb : Fq b q) (hp : Bt p i) (hq : Bt q j) (h : i + j < 8000) : f_law_below [a, b] = some (false, .bl (decide (p < q)), .non) := is_less_ok ha hb hp hq h
theorem div_parts (p : Rat) {q : Rat} (hq : 0 < q) : mkRat (p.num * q.den) (p.den * q.num.toNat) = p / q := by
  have hn : 0 < q.num := by
    have := num_pos q
    simpa [hq] using this
  have hne : q ≠ 0 := by
    intro z
    subst z
    exact absurd hq (by decide)
  have e : mkRat (p.num * q.den) (p.den * q.num.toNat) * q = p := by
    have eq1 : q = mkRat q.num q.den := (Rat.mkRat_self q).symm
    have eqp : p = mkRat p.num p.den := (Rat.mkRat_self p).symm
    rw [show mkRat (p.num * q.den) (p.den * q.num.toNat) * q = mkRat (p.num * q.den) (p.den * q.num.toNat) * mkRat q.num q.den by rw [← eq1], Rat.mkRat_mul_mkRat]
    have : p.num * (q.den : Int) * q.num = p.num * ((q.den * q.num.toNat : Nat) : Int) := by
      rw [Int.natCast_mul, Int.toNat_of_nonneg (by omega), Int.mul_assoc]
    rw [this, show p.den * q.num.toNat * q.den = p.den * (q.den * q.num.toNat) by rw [Nat.mul_assoc, Nat.mul_comm q.num.toNat], Rat.mkRat_mul_right (Nat.ne_of_gt (Nat.mul_pos q.den_pos (by omega)))]
    exact eqp.symm
  rw [← e, Rat.mul_div_cancel hne]
  rw [e]
theorem Bp.div (hp : Bt p i) (hq : Bt q j) (h0 : 0 < q.num) : Bp (p.num * q.den) (p.den * q.num.toNat) (i + j) := by
  refine ⟨?_, ?_⟩
  · rw [Int.natAbs_mul, Nat.pow_add]
    exact Nat.mul_le_mul hp.1 (by simpa using hq.2)
  · rw [Nat.pow_add]
    exact Nat.mul_le_mul hp.2 (by have := hq.1; omega)
theorem den_div_pos (p : Rat) (h0 : 0 < q.num) : 0 < p.den * q.num.toNat := Nat.mul_pos p.den_pos (by omega)
theorem Bt.div (hp : Bt p i) (hq : Bt q j) (h0 : 0 < q) : Bt (p / q) (i + j) := by
  have hn : 0 < q.num := by simpa [h0] using num_pos q
  rw [← div_parts p h0]
  exact (Bp.div hp hq hn).bt (den_div_pos p hn)
theorem over_ok (ha : Fq a p) (hb : Fq b q) (hp : Bt p i) (hq : Bt q j) (h0 : 0 < q) (h : i + j < 8000) : f_over [a, b] = some (false, frQ (p / q), .non) := by
  have hn : 0 < q.num := by simpa [h0] using num_pos q
  obtain ⟨a0, a1, b0, b1⟩ := parts_of ha hb
  rw [← div_parts p h0]
  exact fn_run (ret_rt (call_of (cons_of (prod_of a0 b1 hp.1 (nat_abs_le hq.2) (by omega)) (cons_of (prod_of a1 b0 (nat_abs_le hp.2) hq.1 (by omega)) rfl)) rfl (by
    have := lowest_ok (den_div_pos p hn) (Bp.div hp hq hn) h
    rwa [Int.natCast_mul, Int.toNat_of_nonneg (by omega)] at this) rfl rfl)) rfl
theorem lover_ok (ha : Fq a p) (hb : Fq b q) (hp : Bt p i) (hq : Bt q j) (h0 : 0 < q) (h : i + j < 8000) : f_law_over [a, b] = some (false, frQ (p / q), .non) := by
  have hn : 0 < q.num := by simpa [h0] using num_pos q
  obtain ⟨a0, a1, b0, b1⟩ := parts_of ha hb
  rw [← div_parts p h0]
  exact fn_run (ret_rt (call_of (cons_of (prod_of a0 b1 hp.1 (nat_abs_le hq.2) (by omega)) (cons_of (prod_of a1 b0 (nat_abs_le hp.2) hq.1 (by omega)) rfl)) rfl (by
    have := part_ok (den_div_pos p hn) (Bp.div hp hq hn) h
    rwa [Int.natCast_mul, Int.toNat_of_nonneg (by omega)] at this) rfl rfl)) rfl
end
/-! ### the first lot below nought -/
def optD : Option (List Int) → D
  | none => .non
  | some l => lotD l
def negB (c : Int → Rat) (ls : List (List Int)) (l : List Int) : Bool := decide (altS c ls l < 0)
def fltL (m : Int) (c : Int → Rat) (ls : List (List Int)) : Option (List Int) := (allLots m).find? (negB c ls)
section
variable {m : Int} {ls : List (List Int)} {cs : List Rat} {ms : List Int}
theorem fault_at (C : Ch m cs) (hm : 0 ≤ m ∧ m ≤ 6) (hls : ls.length ≤ 60) : f_law_fault [webD m ls, chD cs] = some (false, optD (fltL m (cAt cs) ls), .non) := by
  let E : Slot → En := fun x => [.fr (webD m ls), .fr (chD cs), x]
  have hlots : callE none f_law_lots (consA (bin2 ixD (varF 0) (valF (.int 0))) (nilA)) (E .un) = some (.new (.lst ((allLots m).map lotD)), E .un) :=
    call_of (cons_of (bin_of (r1 := .val (webD m ls)) (r2 := .val (.int 0)) rfl rfl rfl rfl ix_web0) rfl) rfl (lots_ok m hm) rfl rfl
  rcases loopS_find (T := nameT 2) (F := ifS (ofV (bin2 (cmpV ltD) (bin2 ixD (callE none f_law_sum_of (consA (varF 0) (consA (varF 1) (consA (varF 2) (nilA))))) (valF (.int 0))) (valF (.int 0)))) (retS (varF 2)) (skipS))
    lotD (negB (cAt cs) ls) (fun l => .val (lotD l)) (fun ρ => ∃ x, ρ = E x ∧ frq x = true) (fun ρ => ρ.length = 3) (allLots m) (E .un) (fun l hl ρ ⟨x, hρ, fx⟩ => by
      subst hρ
      have hs := allLots_mem.mp hl
      have c : bin2 (cmpV ltD) (bin2 ixD (callE none f_law_sum_of (consA (varF 0) (consA (varF 1) (consA (varF 2) (nilA))))) (valF (.int 0))) (valF (.int 0)) (E (.fr (lotD l))) = some (.val (.bl (negB (cAt cs) ls l)), E (.fr (lotD l))) :=
        bin_of (r1 := .val (.int (altS (cAt cs) ls l).num)) (r2 := .val (.int 0)) (bin_of (g := valF (.int 0)) (call_of (cons_of (r := .val (webD m ls)) rfl (cons_of (r := .val (chD cs)) rfl (cons_of (r := .val (lotD l)) rfl rfl))) rfl (sum_of_ok C hls (Lt.of hm hs)) rfl rfl) (r2 := .val (.int 0)) rfl rfl rfl (Fq.fr _).top) rfl rfl rfl (by rw [negB, ← num_neg]; simp [cmpV])
      refine ⟨E (.fr (lotD l)), by simp [E, frq_free fx], fun hn => ?_, fun hn => ?_⟩
      · rw [hn] at c
        exact ⟨E (.fr (lotD l)), if_f (of_of c) rfl, _, rfl, rfl⟩
      · rw [hn] at c
        exact ⟨E (.fr (lotD l)), if_t (of_of c) (ret_rt rfl), rfl⟩) ⟨.un, rfl, rfl⟩ with ⟨f, ρ', e, x, rfl, _⟩ | ⟨l, ρ', f, e, hlen⟩
  · rw [fltL, f]
    exact fn_run (seq_nx (for_nx (rs := [.new (.lst ((allLots m).map lotD))]) (seq_new hlots) e rfl) (ret_rt (r := .val .non) rfl)) rfl
  · rw [fltL, f]
    exact fn_run (seq_rt (for_rt (rs := [.new (.lst ((allLots m).map lotD))]) (seq_new hlots) e)) rfl
abbrev sumsD (m : Int) (cs : List Rat) (ls : List (List Int)) : D := .dic true (pairs (sumD (cAt cs) ls) (allLots m))
theorem bt_zero : Bt (0 : Rat) 0 := Bt.zero
theorem first_below_seq (C : Ch m cs) (hm : 0 ≤ m ∧ m ≤ 6) (hls : ls.length ≤ 60) (L : List (List Int)) (hL : ∀ l ∈ L, l ∈ allLots m) {dl : D} (hd : seqI (varF 2) [.fr (webD m ls), .fr (sumsD m cs ls), .fr dl, .un] = some ([.val dl], L.map lotD, [.fr (webD m ls), .fr (sumsD m cs ls), .fr dl, .un])) :
    f_first_below [webD m ls, sumsD m cs ls, dl] = some (false, optD (L.find? (negB (cAt cs) ls)), .non) := by
  let E : Slot → En := fun x => [.fr (webD m ls), .fr (sumsD m cs ls), .fr dl, x]
  rcases loopS_find (T := nameT 3) (F := ifS (truT (callE none f_is_less (consA (bin2 ixD (varF 1) (varF 3)) (consA (valF (.kt [.int 0, .int 1])) (nilA))))) (retS (varF 3)) (skipS))
    lotD (negB (cAt cs) ls) (fun l => .val (lotD l)) (fun ρ => ∃ x, ρ = E x ∧ frq x = true) (fun ρ => ρ.length = 4) L (E .un) (fun l hl ρ ⟨x, hρ, fx⟩ => by
      subst hρ
      have hs := allLots_mem.mp (hL l hl)
      have c : callE none f_is_less (consA (bin2 ixD (varF 1) (varF 3)) (consA (valF (.kt [.int 0, .int 1])) (nilA))) (E (.fr (lotD l))) = some (.val (.bl (negB (cAt cs) ls l)), E (.fr (lotD l))) :=
        call_of (cons_of (bin_of (r1 := .val (sumsD m cs ls)) (r2 := .val (lotD l)) rfl rfl rfl rfl (ix_pairs (hL l hl))) (cons_of (r := .val zeroK) rfl rfl)) rfl (is_less_ok (sumD_fq (cAt cs) ls l) Fq.zero (C.balt hs (Lt.of hm hs).few) Bt.zero (by omega)) rfl rfl
      refine ⟨E (.fr (lotD l)), by simp [E, frq_free fx], fun hn => ?_, fun hn => ?_⟩
      · rw [hn] at c
        exact ⟨E (.fr (lotD l)), if_f (tru_of c) rfl, _, rfl, rfl⟩
      · rw [hn] at c
        exact ⟨E (.fr (lotD l)), if_t (tru_of c) (ret_rt rfl), rfl⟩) ⟨.un, rfl, rfl⟩ with ⟨f, ρ', e, x, rfl, _⟩ | ⟨l, ρ', f, e, hlen⟩
  · rw [f]
    exact fn_run (seq_nx (for_nx (rs := [.val dl]) hd e rfl) (ret_rt (r := .val .non) rfl)) rfl
  · rw [f]
    exact fn_run (seq_rt (for_rt (rs := [.val dl]) hd e)) rfl
theorem first_below_ok (C : Ch m cs) (hm : 0 ≤ m ∧ m ≤ 6) (hls : ls.length ≤ 60) (L : List (List Int)) (hL : ∀ l ∈ L, l ∈ allLots m) :
    f_first_below [webD m ls, sumsD m cs ls, .lst (L.map lotD)] = some (false, optD (L.find? (negB (cAt cs) ls)), .non) := first_below_seq C hm hls L hL rfl
end
end Mi

/-! The border chance of a hand: what it is, and what it means. -/
namespace Mi
open PySem PySem.Spec
open PyProof.Rows hiding St
open L2
/-! ### the least of a row of parts -/
section
variable {α : Type} (P : α → Bool) (v : α → Rat)
def leaS (b : Rat) (x : α) : Rat := if P x && decide (v x < b) then v x else b
def leaF (b : Rat) (L : List α) : Rat := L.foldl (leaS P v) b
theorem leaF_all : ∀ (L : List α) (b : Rat), leaF P v b L ≤ b ∧ (∀ x ∈ L, P x = true → leaF P v b L ≤ v x) ∧ (leaF P v b L = b ∨ ∃ x ∈ L, P x = true ∧ leaF P v b L = v x ∧ v x < b)
  | [], b => ⟨Rat.le_refl, fun _ h => (by cases h), .inl rfl⟩
  | x :: L, b => by
    obtain ⟨i1, i2, i3⟩ := leaF_all L (leaS P v b x)
    have e : leaF P v b (x :: L) = leaF P v (leaS P v b x) L := rfl
    rw [e]
    have hs : leaS P v b x ≤ b ∧ (P x = true → leaS P v b x ≤ v x) ∧ (leaS P v b x = b ∨ (P x = true ∧ leaS P v b x = v x ∧ v x < b)) := by
      unfold leaS
      cases hP : P x with
      | false => simp only [Bool.false_and]; exact ⟨Rat.le_refl, fun z => (by cases z), .inl rfl⟩
      | true =>
        by_cases hv : v x < b
        · rw [decide_eq_true hv]
          exact ⟨Rat.le_of_lt hv, fun _ => Rat.le_refl, .inr ⟨rfl, rfl, hv⟩⟩
        · rw [decide_eq_false hv]
          exact ⟨Rat.le_refl, fun _ => Rat.not_lt.mp hv, .inl rfl⟩
    refine ⟨Rat.le_trans i1 hs.1, fun y hy hp => ?_, ?_⟩
    · rcases List.mem_cons.mp hy with rfl | hy
      · exact Rat.le_trans i1 (hs.2.1 hp)
      · exact i2 y hy hp
    · rcases i3 with h | ⟨y, hy, hp, h, hl⟩
      · rcases hs.2.2 with z | ⟨hp, z, hl⟩
        · exact .inl (h.trans z)
        · exact .inr ⟨x, List.mem_cons_self, hp, h.trans z, hl⟩
      · refine .inr ⟨y, List.mem_cons_of_mem _ hy, hp, h, ?_⟩
        have := hs.1
        grind
end
theorem foldl_same {α β : Type} (f g : β → α → β) : ∀ (L : List α) (b : β), (∀ x ∈ L, ∀ b, f b x = g b x) → L.foldl f b = L.foldl g b
  | [], _, _ => rfl
  | x :: L, b, h => by
    rw [List.foldl_cons, List.foldl_cons, h x List.mem_cons_self, foldl_same f g L _ fun y hy => h y (List.mem_cons_of_mem _ hy)]
/-! ### the border -/
def aloneS (c : Int → Rat) (ls : List (List Int)) (h : Int) (l : List Int) : Rat := altS c ls (less1 h l)
def farS (c : Int → Rat) (ls : List (List Int)) (h : Int) (l : List Int) : Rat := altS c ls (far1 ls h l)
def brd (m : Int) (c : Int → Rat) (ls : List (List Int)) (h : Int) : Rat :=
  leaF (fun l => decide (0 < farS c ls h l)) (fun l => aloneS c ls h l / farS c ls h l) 1 ((allLots m).filter fun l => decide (h ∈ l))
section
variable {m h : Int} {ls : List (List Int)} {c c' : Int → Rat}
theorem not_less1 {l : List Int} (x : Int) (hx : x ∈ less1 h l) : x ∈ l ∧ x ≠ h := by
  have := List.mem_filter.mp hx
  exact ⟨this.1, by simpa using this.2⟩
theorem not_far1 {l : List Int} (x : Int) (hx : x ∈ far1 ls h l) : x ∈ l ∧ x ≠ h := by
  have := List.mem_filter.mp hx
  refine ⟨this.1, fun z => ?_⟩
  subst z
  rw [tch_self] at this
  cases this.2
theorem less1_sub {l : List Int} (hs : l.Sublist (irange 0 m)) : (less1 h l).Sublist (irange 0 m) := List.filter_sublist.trans hs
theorem far1_sub {l : List Int} (hs : l.Sublist (irange 0 m)) : (far1 ls h l).Sublist (irange 0 m) := List.filter_sublist.trans hs
/-- nothing changes but at the hand -/
def Same (h m : Int) (c c' : Int → Rat) : Prop := ∀ x, 0 ≤ x → x < m → x ≠ h → c' x = c x
theorem same_out (E : Same h m c c') {l : List Int} (hs : l.Sublist (irange 0 m)) (hh : h ∉ l) : altS c' ls l = altS c ls l :=
  altS_congr fun x hx => E x (mem_ints.mp (hs.subset hx)).1 (mem_ints.mp (hs.subset hx)).2 fun z => hh (z ▸ hx)
theorem same_alone (E : Same h m c c') {l : List Int} (hs : l.Sublist (irange 0 m)) : aloneS c' ls h l = aloneS c ls h l := same_out E (less1_sub hs) fun z => (not_less1 h z).2 rfl
theorem same_far (E : Same h m c c') {l : List Int} (hs : l.Sublist (irange 0 m)) : farS c' ls h l = farS c ls h l := same_out E (far1_sub hs) fun z => (not_far1 h z).2 rfl
theorem same_in (E : Same h m c c') {l : List Int} (hs : l.Sublist (irange 0 m)) (hh : h ∈ l) : altS c' ls l = aloneS c ls h l - c' h * farS c ls h l := by
  rw [altS_by ((irange_pw 0 m).sublist hs) hh, ← same_alone E hs, ← same_far E hs]
  rfl
theorem same_brd (E : Same h m c c') : brd m c' ls h = brd m c ls h := by
  unfold brd leaF
  refine foldl_same _ _ _ _ fun l hl b => ?_
  have hs := allLots_mem.mp (List.mem_filter.mp hl).1
  unfold leaS
  simp only [same_far E hs, same_alone E hs]
/-- no lot without the hand is below nought -/
def Out0 (m : Int) (c : Int → Rat) (ls : List (List Int)) (h : Int) : Prop := ∀ l, l ∈ allLots m → h ∉ l → 0 ≤ altS c ls l
theorem brd_le (m : Int) (c : Int → Rat) (ls : List (List Int)) (h : Int) : brd m c ls h ≤ 1 := (leaF_all _ _ _ _).1
theorem brd_row {l : List Int} (hl : l ∈ allLots m) (hh : h ∈ l) (hf : 0 < farS c ls h l) : brd m c ls h * farS c ls h l ≤ aloneS c ls h l := by
  have := (leaF_all (fun l => decide (0 < farS c ls h l)) (fun l => aloneS c ls h l / farS c ls h l) ((allLots m).filter fun l => decide (h ∈ l)) 1).2.1 l (List.mem_filter.mpr ⟨hl, decide_eq_true hh⟩) (decide_eq_true hf)
  have q := Rat.mul_le_mul_of_nonneg_right this (Rat.le_of_lt hf)
  rwa [Rat.div_mul_cancel (Rat.ne_of_gt hf)] at q
theorem brd_eq (m : Int) (c : Int → Rat) (ls : List (List Int)) (h : Int) : brd m c ls h = 1 ∨ ∃ l, l ∈ allLots m ∧ h ∈ l ∧ 0 < farS c ls h l ∧ brd m c ls h * farS c ls h l = aloneS c ls h l := by
  rcases (leaF_all (fun l => decide (0 < farS c ls h l)) (fun l => aloneS c ls h l / farS c ls h l) ((allLots m).filter fun l => decide (h ∈ l)) 1).2.2 with z | ⟨l, hl, hp, z, _⟩
  · exact .inl z
  · obtain ⟨h1, h2⟩ := List.mem_filter.mp hl
    have hf : 0 < farS c ls h l := of_decide_eq_true hp
    refine .inr ⟨l, h1, of_decide_eq_true h2, hf, ?_⟩
    have e : brd m c ls h = aloneS c ls h l / farS c ls h l := z
    rw [e, Rat.div_mul_cancel (Rat.ne_of_gt hf)]
theorem brd_nonneg (O : Out0 m c ls h) : 0 ≤ brd m c ls h := by
  rcases brd_eq m c ls h with z | ⟨l, hl, hh, hf, z⟩
  · rw [z]
    decide
  · have ha : 0 ≤ aloneS c ls h l := O _ (allLots_mem.mpr (less1_sub (allLots_mem.mp hl))) fun z => (not_less1 h z).2 rfl
    rw [← z] at ha
    exact Rat.le_of_mul_le_mul_right (by rw [Rat.zero_mul]; exact ha) hf
theorem flt_none : fltL m c ls = none ↔ ∀ l, l ∈ allLots m → 0 ≤ altS c ls l := by
  unfold fltL
  rw [List.find?_eq_none]
  refine forall_congr' fun l => forall_congr' fun _ => ?_
  unfold negB
  rw [decide_eq_true_eq, Rat.not_lt]
/-- to the border no sum is below nought -/
theorem brd_in (E : Same h m c c') (O : Out0 m c ls h) (h0 : 0 ≤ c' h) (h1 : c' h ≤ brd m c ls h) : fltL m c' ls = none := by
  refine flt_none.mpr fun l hl => ?_
  have hs := allLots_mem.mp hl
  by_cases hh : h ∈ l
  · rw [same_in E hs hh]
    have ha : 0 ≤ aloneS c ls h l := O _ (allLots_mem.mpr (less1_sub hs)) fun z => (not_less1 h z).2 rfl
    by_cases hf : 0 < farS c ls h l
    · have := brd_row hl hh hf
      have q := Rat.mul_le_mul_of_nonneg_right h1 (Rat.le_of_lt hf)
      grind
    · have hf' : 0 ≤ -farS c ls h l := by
        have := Rat.not_lt.mp hf
        grind
      have q := Rat.mul_nonneg h0 hf'
      grind
  · rw [same_out E hs hh]
    exact O l hl hh
/-- beyond it some is -/
theorem brd_out (E : Same h m c c') (h1 : brd m c ls h < c' h) (h2 : c' h ≤ 1) : fltL m c' ls ≠ none := by
  intro z
  rcases brd_eq m c ls h with e | ⟨l, hl, hh, hf, e⟩
  · rw [e] at h1
    grind
  · have := flt_none.mp z l hl
    rw [same_in E (allLots_mem.mp hl) hh, ← e] at this
    have q := Rat.mul_lt_mul_of_pos_right h1 hf
    grind
theorem out_bad (E : Same h m c c') {l : List Int} (hl : l ∈ allLots m) (hh : h ∉ l) (hn : altS c ls l < 0) : fltL m c' ls ≠ none := by
  intro z
  have := flt_none.mp z l hl
  rw [same_out E (allLots_mem.mp hl) hh] at this
  grind
end
/-! ### the least number of marks -/
def ceilI (q : Rat) : Int := ((q.den : Int) + q.num - 1) / q.num
theorem ceil_ok {q : Rat} (h0 : 0 < q) (h1 : q ≤ 1) : 1 ≤ ceilI q ∧ ceilI q ≤ q.den ∧ mkRat 1 (ceilI q).toNat ≤ q ∧ (1 < ceilI q → q < mkRat 1 (ceilI q - 1).toNat) := by
  have hn : 0 < q.num := by simpa [h0] using num_pos q
  have hd : q.num ≤ q.den := by
    have := (Rat.le_iff q 1).mp h1
    simpa using this
  have e1 : q.num * ceilI q ≤ q.den + q.num - 1 := Int.mul_ediv_self_le (by omega)
  have e2 : (q.den : Int) + q.num - 1 < q.num * ceilI q + q.num := Int.lt_mul_ediv_self_add hn
  have c1 : 1 ≤ ceilI q := by
    refine Int.le_ediv_of_mul_le hn ?_
    omega
  have hgcd : ∀ n : Int, 1 ≤ n → (mkRat 1 n.toNat).num = 1 ∧ ((mkRat 1 n.toNat).den : Int) = n := fun n hn => by
    rw [mkRat_num (by omega), mkRat_den (by omega)]
    have : Nat.gcd (1 : Int).natAbs n.toNat = 1 := Nat.gcd_one_left _
    rw [this]
    simp
    omega
  refine ⟨c1, ?_, ?_, fun c2 => ?_⟩
  · refine Int.ediv_le_of_le_mul hn ?_
    have : q.den * 1 + (q.num - 1) * 1 ≤ (q.den : Int) * 1 + (q.num - 1) * q.den := by
      have := Int.mul_le_mul_of_nonneg_left (a := 1) (b := (q.den : Int)) (c := q.num - 1) (by omega) (by omega)
      omega
    have e : (q.den : Int) * 1 + (q.num - 1) * q.den = q.den * q.num := by
      rw [Int.sub_mul, Int.mul_comm q.num]
      omega
    omega
  · obtain ⟨g1, g2⟩ := hgcd (ceilI q) c1
    rw [Rat.le_iff, g1, g2]
    omega
  · obtain ⟨g1, g2⟩ := hgcd (ceilI q - 1) (by omega)
    rw [Rat.lt_iff, g1, g2, Int.mul_sub]
    omega
end Mi

/-! The border chance of a hand: the runs. -/
namespace Mi
open PySem PySem.Spec
open PyProof.Rows hiding St
open L2
section
variable {α : Type} {P : α → Bool} {v : α → Rat}
theorem leaF_ind (Q : Rat → Prop) : ∀ (L : List α) (b : Rat), Q b → (∀ x ∈ L, P x = true → Q (v x)) → Q (leaF P v b L)
  | [], b, h, _ => h
  | x :: L, b, h, H => by
    refine leaF_ind Q L (leaS P v b x) ?_ fun y hy => H y (List.mem_cons_of_mem _ hy)
    unfold leaS
    split
    · rename_i z
      rw [Bool.and_eq_true] at z
      exact H x List.mem_cons_self z.1
    · exact h
end
theorem flatMap_if {α β : Type} (p : α → Bool) (f : α → β) : ∀ L : List α, (L.flatMap fun x => if p x then [f x] else []) = (L.filter p).map f
  | [] => rfl
  | x :: L => by
    rw [List.flatMap_cons, flatMap_if p f L, List.filter_cons]
    cases p x <;> rfl
section
variable {m h : Int} {ls : List (List Int)} {cs : List Rat} {ms : List Int}
theorem Ch.alt (C : Ch m cs) (hm : 0 ≤ m ∧ m ≤ 6) {p : Nat} (hd : dprod cs ≤ 2 ^ p) {l : List Int} (hl : l.Sublist (irange 0 m)) : Bt (altS (cAt cs) ls l) (p + 6) := by
  have hP : dprod cs = dterm (cAt cs) (irange 0 m) := by
    rw [← dprod_eq, cs_eq C.len]
  refine Bt.of (a := 6) (den_rsum (dprod_pos cs) fun x hx => ?_) (dprod_pos cs) hd ((ab_rsum fun x hx => ?_).mono (k := 64) ?_) (by decide)
  · obtain ⟨T, hT, rfl⟩ := List.mem_map.mp hx
    rw [hP]
    exact Nat.dvd_trans (den_term _ T) (dterm_sub _ ((grow_sub (List.mem_filter.mp hT).1).trans hl))
  · obtain ⟨T, hT, rfl⟩ := List.mem_map.mp hx
    have hT' := (grow_sub (List.mem_filter.mp hT).1).trans hl
    exact ab_term fun x hx => Ab.of01 (C.pos _ (C.at (mem_ints.mp (hT'.subset hx)).1 (mem_ints.mp (hT'.subset hx)).2))
  · rw [List.length_map]
    refine Nat.le_trans (List.length_filter_le _ _) ?_
    rw [grow_len]
    exact Nat.le_trans (Nat.pow_le_pow_right (by omega) (Lt.of hm hl).few) (by decide)
theorem brd_bits {c : Int → Rat} {k : Nat} (H : ∀ l, l.Sublist (irange 0 m) → Bt (altS c ls l) k) : Bt (brd m c ls h) (k + k) := by
  refine leaF_ind (fun q => Bt q (k + k)) _ _ (Bt.one.mono (by omega)) fun l hl hp => ?_
  have hs := allLots_mem.mp (List.mem_filter.mp hl).1
  exact (H _ (less1_sub hs)).div (H _ (far1_sub hs)) (of_decide_eq_true hp)
/-! ### the law's border -/
abbrev lbE : SS := ifS (ofV (bin2 (cmpV inD) (varF 2) (varF 4))) (seqS (setS 5 (callE none f_law_sum_of (consA (varF 0) (consA (varF 1) (consA (bltE tupK (consA (compE [7] (seqI (varF 4)) (nameT 7) (ofV (bin2 (cmpV neK) (varF 7) (varF 2))) (varF 7)) (nilA))) (nilA))))))
    (seqS (setS 6 (callE none f_law_sum_of (consA (varF 0) (consA (varF 1) (consA (bltE tupK (consA (compE [7] (seqI (varF 4)) (nameT 7) (notT (truT (callE none f_law_touch (consA (varF 0) (consA (varF 7) (consA (varF 2) (nilA))))))) (varF 7)) (nilA))) (nilA))))))
    (ifS (andT (ofV (bin2 (cmpV (iiB fun i j => decide (j < i))) (bin2 ixD (varF 6) (valF (.int 0))) (valF (.int 0)))) (truT (callE none f_law_below (consA (callE none f_law_over (consA (varF 5) (consA (varF 6) (nilA)))) (consA (varF 3) (nilA)))))) (setS 3 (callE none f_law_over (consA (varF 5) (consA (varF 6) (nilA))))) (skipS)))) (skipS)
theorem lborder_ok (C : Ch m cs) (hm : 0 ≤ m ∧ m ≤ 6) (hls : ls.length ≤ 60) : f_law_border [webD m ls, chD cs, .int h] = some (false, frQ (brd m (cAt cs) ls h), .non) := by
  let E : Rat → Slot → Slot → Slot → En := fun b x4 x5 x6 => [.fr (webD m ls), .fr (chD cs), .fr (.int h), .fr (frQ b), x4, x5, x6, .un]
  have hlots : callE none f_law_lots (consA (bin2 ixD (varF 0) (valF (.int 0))) (nilA)) (E 1 .un .un .un) = some (.new (.lst ((allLots m).map lotD)), E 1 .un .un .un) :=
    call_of (cons_of (bin_of (r1 := .val (webD m ls)) (r2 := .val (.int 0)) rfl rfl rfl rfl ix_web0) rfl) rfl (lots_ok m hm) rfl rfl
  have bt : ∀ {l : List Int}, l.Sublist (irange 0 m) → Bt (altS (cAt cs) ls l) 1506 := fun hl => C.balt hl (Lt.of hm hl).few
  let A := aloneS (cAt cs) ls h
  let G := farS (cAt cs) ls h
  let P : List Int → Bool := fun l => decide (0 < farS (cAt cs) ls h l)
  let v : List Int → Rat := fun l => aloneS (cAt cs) ls h l / farS (cAt cs) ls h l
  obtain ⟨ρ', e, x4, x5, x6, rfl, _⟩ := loopS_fold (T := nameT 4) (F := lbE) lotD (fun (b : Rat) l => if decide (h ∈ l) = true then leaS P v b l else b) (fun b ρ => ∃ x4 x5 x6, ρ = E b x4 x5 x6 ∧ frq x4 = true ∧ frq x5 = true ∧ frq x6 = true ∧ Bt b 3012) (allLots m) 1 (E 1 .un .un .un) (fun l hl b ρ ⟨x4, x5, x6, hρ, f4, f5, f6, hb⟩ => by
    subst hρ
    have hs := allLots_mem.mp hl
    have L := Lt.of hm hs
    have hlen : l.length ≤ 6 := L.few
    suffices H : ∃ ρ2, lbE (E b (.fr (lotD l)) x5 x6) = some (.nx ρ2) ∧ ∃ x4 x5 x6, ρ2 = E (if decide (h ∈ l) = true then leaS P v b l else b) x4 x5 x6 ∧ frq x4 = true ∧ frq x5 = true ∧ frq x6 = true ∧ Bt (if decide (h ∈ l) = true then leaS P v b l else b) 3012 by
      obtain ⟨ρ2, h1, h2⟩ := H
      exact ⟨E b (.fr (lotD l)) x5 x6, ρ2, by simp [E, frq_free f4], h1, h2⟩
    have ci : bin2 (cmpV inD) (varF 2) (varF 4) (E b (.fr (lotD l)) x5 x6) = some (.val (.bl (decide (h ∈ l))), E b (.fr (lotD l)) x5 x6) := bin_of (r1 := .val (.int h)) (r2 := .val (lotD l)) rfl rfl rfl rfl (by simp [cmpV])
    by_cases hh : h ∈ l
    · rw [decide_eq_true hh] at ci
      rw [if_pos (decide_eq_true hh)]
      have cA : ∀ x5 x6, bltE tupK (consA (compE [7] (seqI (varF 4)) (nameT 7) (ofV (bin2 (cmpV neK) (varF 7) (varF 2))) (varF 7)) (nilA)) (E b (.fr (lotD l)) x5 x6) = some (.val (lotD (less1 h l)), E b (.fr (lotD l)) x5 x6) := fun x5 x6 => by
        have c := compE_filter (own := [7]) (it := seqI (varF 4)) (T := nameT 7) (t := ofV (bin2 (cmpV neK) (varF 7) (varF 2))) (fe := varF 7) (ρ := E b (.fr (lotD l)) x5 x6) (ρ1 := E b (.fr (lotD l)) x5 x6) (ρb := E b (.fr (lotD l)) x5 x6) (rs := [.val (lotD l)]) (xs := l) D.int D.int (fun x => !decide (x = h)) (seq_lot rfl) rfl (by omega) (fun x _ =>
          ⟨[.fr (webD m ls), .fr (chD cs), .fr (.int h), .fr (frQ b), .fr (lotD l), x5, x6, .fr (.int x)], [.fr (webD m ls), .fr (chD cs), .fr (.int h), .fr (frQ b), .fr (lotD l), x5, x6, .fr (.int x)], rfl,
          of_of (bin_of (r1 := .val (.int x)) (r2 := .val (.int h)) rfl rfl rfl rfl (by simp [cmpV])), fun _ => rfl, fun _ => ⟨.val (.int x), _, rfl, rfl, rfl⟩⟩)
        exact blt_of (cons_of c rfl) rfl rfl
      have cF : ∀ x5 x6, bltE tupK (consA (compE [7] (seqI (varF 4)) (nameT 7) (notT (truT (callE none f_law_touch (consA (varF 0) (consA (varF 7) (consA (varF 2) (nilA))))))) (varF 7)) (nilA)) (E b (.fr (lotD l)) x5 x6) = some (.val (lotD (far1 ls h l)), E b (.fr (lotD l)) x5 x6) := fun x5 x6 => by
        have c := compE_filter (own := [7]) (it := seqI (varF 4)) (T := nameT 7) (t := notT (truT (callE none f_law_touch (consA (varF 0) (consA (varF 7) (consA (varF 2) (nilA))))))) (fe := varF 7) (ρ := E b (.fr (lotD l)) x5 x6) (ρ1 := E b (.fr (lotD l)) x5 x6) (ρb := E b (.fr (lotD l)) x5 x6) (rs := [.val (lotD l)]) (xs := l) D.int D.int (fun x => !tch ls x h) (seq_lot rfl) rfl (by omega) (fun x _ =>
          ⟨[.fr (webD m ls), .fr (chD cs), .fr (.int h), .fr (frQ b), .fr (lotD l), x5, x6, .fr (.int x)], [.fr (webD m ls), .fr (chD cs), .fr (.int h), .fr (frQ b), .fr (lotD l), x5, x6, .fr (.int x)], rfl,
          not_of (tru_of (call_of (cons_of (r := .val (webD m ls)) rfl (cons_of (r := .val (.int x)) rfl (cons_of (r := .val (.int h)) rfl rfl))) rfl (ltouch_ok m x h ls hls) rfl rfl)), fun _ => rfl, fun _ => ⟨.val (.int x), _, rfl, rfl, rfl⟩⟩)
        exact blt_of (cons_of c rfl) rfl rfl
      have s5 : setS 5 (callE none f_law_sum_of (consA (varF 0) (consA (varF 1) (consA (bltE tupK (consA (compE [7] (seqI (varF 4)) (nameT 7) (ofV (bin2 (cmpV neK) (varF 7) (varF 2))) (varF 7)) (nilA))) (nilA))))) (E b (.fr (lotD l)) x5 x6) = some (.nx (E b (.fr (lotD l)) (.fr (frQ (A l))) x6)) :=
        set_nx (call_of (cons_of (r := .val (webD m ls)) rfl (cons_of (r := .val (chD cs)) rfl (cons_of (cA x5 x6) rfl))) rfl (sum_of_ok C hls (L.sub List.filter_sublist)) rfl rfl) (by simp [E, frq_free f5, A, aloneS])
      have s6 : setS 6 (callE none f_law_sum_of (consA (varF 0) (consA (varF 1) (consA (bltE tupK (consA (compE [7] (seqI (varF 4)) (nameT 7) (notT (truT (callE none f_law_touch (consA (varF 0) (consA (varF 7) (consA (varF 2) (nilA))))))) (varF 7)) (nilA))) (nilA))))) (E b (.fr (lotD l)) (.fr (frQ (A l))) x6) = some (.nx (E b (.fr (lotD l)) (.fr (frQ (A l))) (.fr (frQ (G l))))) :=
        set_nx (call_of (cons_of (r := .val (webD m ls)) rfl (cons_of (r := .val (chD cs)) rfl (cons_of (cF (.fr (frQ (A l))) x6) rfl))) rfl (sum_of_ok C hls (L.sub List.filter_sublist)) rfl rfl) (by simp [E, frq_free f6, G, farS])
      let ρ2 := E b (.fr (lotD l)) (.fr (frQ (A l))) (.fr (frQ (G l)))
      have bA : Bt (A l) 1506 := bt (less1_sub hs)
      have bG : Bt (G l) 1506 := bt (far1_sub hs)
      have cp : ofV (bin2 (cmpV (iiB fun i j => decide (j < i))) (bin2 ixD (varF 6) (valF (.int 0))) (valF (.int 0))) ρ2 = some (decide (0 < G l), ρ2) :=
        of_of (bin_of (r1 := .val (.int (G l).num)) (r2 := .val (.int 0)) (bin_of (r1 := .val (frQ (G l))) (r2 := .val (.int 0)) rfl rfl rfl rfl (Fq.fr _).top) rfl rfl rfl (by rw [← num_pos]; simp [cmpV]))
      have k6 : ∃ x, ifS (andT (ofV (bin2 (cmpV (iiB fun i j => decide (j < i))) (bin2 ixD (varF 6) (valF (.int 0))) (valF (.int 0)))) (truT (callE none f_law_below (consA (callE none f_law_over (consA (varF 5) (consA (varF 6) (nilA)))) (consA (varF 3) (nilA)))))) (setS 3 (callE none f_law_over (consA (varF 5) (consA (varF 6) (nilA))))) (skipS) ρ2 = some (.nx (E x (.fr (lotD l)) (.fr (frQ (A l))) (.fr (frQ (G l))))) ∧ x = leaS P v b l ∧ Bt x 3012 := by
        by_cases hp : 0 < G l
        · have ov : callE none f_law_over (consA (varF 5) (consA (varF 6) (nilA))) ρ2 = some (.val (frQ (A l / G l)), ρ2) := call_of (cons_of (r := .val (frQ (A l))) rfl (cons_of (r := .val (frQ (G l))) rfl rfl)) rfl (lover_ok (Fq.fr _) (Fq.fr _) bA bG hp (by omega)) rfl rfl
          have be : truT (callE none f_law_below (consA (callE none f_law_over (consA (varF 5) (consA (varF 6) (nilA)))) (consA (varF 3) (nilA)))) ρ2 = some (decide (A l / G l < b), ρ2) :=
            tru_of (call_of (cons_of ov (cons_of (r := .val (frQ b)) rfl rfl)) rfl (lbelow_ok (Fq.fr _) (Fq.fr _) (bA.div bG hp) hb (by omega)) rfl rfl)
          rw [decide_eq_true hp] at cp
          by_cases hv : A l / G l < b
          · rw [decide_eq_true hv] at be
            exact ⟨A l / G l, if_t (and_t cp be) (set_nx ov (by simp [ρ2, E])), by simp only [leaS, P, v]; rw [decide_eq_true (show 0 < farS (cAt cs) ls h l from hp), decide_eq_true (show aloneS (cAt cs) ls h l / farS (cAt cs) ls h l < b from hv)]; rfl, bA.div bG hp⟩
          · rw [decide_eq_false hv] at be
            exact ⟨b, if_f (and_t cp be) rfl, by simp only [leaS, P, v]; rw [decide_eq_false (show ¬ aloneS (cAt cs) ls h l / farS (cAt cs) ls h l < b from hv), Bool.and_false]; rfl, hb⟩
        · rw [decide_eq_false hp] at cp
          exact ⟨b, if_f (and_f cp) rfl, by simp only [leaS, P, v]; rw [decide_eq_false (show ¬ 0 < farS (cAt cs) ls h l from hp), Bool.false_and]; rfl, hb⟩
      obtain ⟨x, e6, rfl, hb'⟩ := k6
      exact ⟨_, if_t (of_of ci) (seq_nx s5 (seq_nx s6 e6)), _, _, _, rfl, rfl, rfl, rfl, hb'⟩
    · rw [decide_eq_false hh] at ci
      rw [if_neg (by simpa using hh)]
      exact ⟨_, if_f (of_of ci) rfl, _, _, _, rfl, rfl, f5, f6, hb⟩) ⟨.un, .un, .un, rfl, rfl, rfl, rfl, Bt.one.mono (by omega)⟩
  have eb : (allLots m).foldl (fun (b : Rat) l => if decide (h ∈ l) = true then leaS P v b l else b) 1 = brd m (cAt cs) ls h := by
    unfold brd leaF
    rw [List.foldl_filter]
  rw [eb] at e
  exact fn_run (seq_nx (ρ1 := E 1 .un .un .un) rfl (seq_nx (for_nx (rs := [.new (.lst ((allLots m).map lotD))]) (seq_new hlots) e rfl) (ret_rt (r := .val (frQ (brd m (cAt cs) ls h))) rfl))) rfl
end
end Mi

/-! The program's border chance and least marks of a hand. -/
namespace Mi
open PySem PySem.Spec
open PyProof.Rows hiding St
open L2
theorem loopS_accN {α β : Type} {T : D → En → Option En} {F : SS} (k : α → D) (L : α → List β) (hL : ∀ x, (L x).length ≤ 1) (N : Nat) (P : List β → En → Prop) : ∀ (xs : List α) (acc : List β) (ρ : En), acc.length + xs.length ≤ N → (∀ x ∈ xs, ∀ acc ρ, acc.length < N → P acc ρ → ∃ ρ1 ρ2, T (k x) ρ = some ρ1 ∧ F ρ1 = some (.nx ρ2) ∧ P (acc ++ L x) ρ2) → P acc ρ →
    ∃ ρ', loopS T F (xs.map k) ρ = some (.nx ρ') ∧ P (acc ++ xs.flatMap L) ρ'
  | [], acc, ρ, _, _, h => ⟨ρ, by simp, by simpa using h⟩
  | x :: xs, acc, ρ, hn, hs, h => by
    rw [List.length_cons] at hn
    obtain ⟨ρ1, ρ2, e1, e2, h2⟩ := hs x List.mem_cons_self acc ρ (by omega) h
    obtain ⟨ρ', e3, h3⟩ := loopS_accN k L hL N P xs (acc ++ L x) ρ2 (by rw [List.length_append]; have := hL x; omega) (fun y hy => hs y (List.mem_cons_of_mem _ hy)) h2
    refine ⟨ρ', ?_, by rw [List.flatMap_cons, ← List.append_assoc]; exact h3⟩
    rw [List.map_cons]
    simp only [loopS, e1, e2, e3]
def oneD (q : Rat) : D := if q = 1 then oneK else frQ q
theorem Fq.oneD (q : Rat) : Fq (oneD q) q := by
  unfold Mi.oneD
  split
  · rename_i z
    subst z
    exact Fq.one
  · exact Fq.fr q
theorem oneD_ne {q : Rat} (h : q < 1) : oneD q = frQ q := by
  unfold oneD
  rw [if_neg]
  intro z
  subst z
  exact absurd h (by decide)
theorem eq_zero (q : Rat) : eqK (oneD q) zeroK = some (decide (q = 0)) := by
  unfold oneD
  split
  · rename_i z
    subst z
    rw [decide_eq_false (by decide)]
    rfl
  · by_cases z : q = 0
    · subst z
      rw [decide_eq_true rfl]
      rfl
    · rw [decide_eq_false z]
      have : q.num ≠ 0 := fun y => z (Rat.num_eq_zero.mp y)
      have e1 : (frQ q).okE = true := (gd_lot [q.num, (q.den : Int)]).okE
      have e2 : zeroK.okE = true := rfl
      have e3 : eqD (frQ q) zeroK = false := by
        have := eqD_int q.num 0
        unfold eqD at this ⊢
        simp only [D.py] at this
        simp only [frQ, zeroK, D.py, D.pyAll, PyData.eqv, PyData.eqvAll]
        simp [*]
      unfold eqK
      rw [e1, e2, e3]
      rfl
theorem leaS_t {α : Type} {P : α → Bool} {v : α → Rat} {b : Rat} {x : α} (hp : P x = true) (hv : v x < b) : leaS P v b x = v x := by
  unfold leaS
  rw [if_pos]
  rw [hp, decide_eq_true hv]
  rfl
theorem leaS_f {α : Type} {P : α → Bool} {v : α → Rat} {b : Rat} {x : α} (hv : P x = false ∨ ¬ v x < b) : leaS P v b x = b := by
  unfold leaS
  rw [if_neg]
  rcases hv with h | h
  · rw [h]
    simp
  · rw [decide_eq_false h]
    simp
def outL (m h : Int) : List (List Int) := (allLots m).filter fun l => !decide (h ∈ l)
def withL (m h : Int) : List (List Int) := (allLots m).filter fun l => decide (h ∈ l)
theorem outL_in {m h : Int} {l : List Int} : l ∈ outL m h ↔ l ∈ allLots m ∧ h ∉ l := by
  unfold outL
  rw [List.mem_filter]
  simp
theorem out_none {m h : Int} {c : Int → Rat} {ls : List (List Int)} : (outL m h).find? (negB c ls) = none ↔ Out0 m c ls h := by
  rw [List.find?_eq_none]
  unfold Out0 negB
  simp only [decide_eq_true_eq, Rat.not_lt, outL_in, and_imp]
section
variable {m h : Int} {ls : List (List Int)} {cs : List Rat} {ms : List Int}
def rowD (c : Int → Rat) (ls : List (List Int)) (h : Int) (l : List Int) : D := .tup [sumD c ls (less1 h l), sumD c ls (far1 ls h l)]
abbrev outE (i j : Nat) : SE := compE [j] (seqI (callE none f_lots_of (consA (bin2 ixD (varF 0) (valF (.int 0))) (nilA)))) (nameT j) (ofV (bin2 (cmpV notInD) (varF i) (varF j))) (varF j)
theorem lots_len (hm : 0 ≤ m ∧ m ≤ 6) : (allLots m).length ≤ 16000000 := by have := allLots_len hm; omega
theorem without_one {l : List Int} : (l.filter fun x => !decide (x ∈ [h])) = less1 h l := List.filter_congr fun x _ => by simp
theorem border_rows_ok (C : Ch m cs) (hm : 0 ≤ m ∧ m ≤ 6) (hls : ls.length ≤ 60) (O : Out0 m (cAt cs) ls h) :
    f_border_rows [webD m ls, chD cs, .int h] = some (true, .lst ((withL m h).map (rowD (cAt cs) ls h)), .non) := by
  let E : List D → Slot → En := fun acc x => [.fr (webD m ls), .fr (chD cs), .fr (.int h), .ow false false (sumsD m cs ls), .fr (lotD (nearL m ls h)), .ow false false (.lst acc), x]
  have ix0 : ∀ {acc x}, bin2 ixD (varF 0) (valF (.int 0)) (E acc x) = some (.val (.int m), E acc x) := bin_of (r1 := .val (webD m ls)) (r2 := .val (.int 0)) rfl rfl rfl rfl ix_web0
  have hlots : ∀ {acc x}, callE none f_lots_of (consA (bin2 ixD (varF 0) (valF (.int 0))) (nilA)) (E acc x) = some (.val (lotsD (allLots m)), E acc x) :=
    call_of (cons_of ix0 rfl) rfl (lots_of_ok m hm) rfl rfl
  have s1 : parS [3, 4, 5] (consA (callE none f_sums_within (consA (varF 0) (consA (varF 1) (nilA)))) (consA (callE none f_touching (consA (varF 0) (consA (varF 2) (nilA)))) (consA (lstF (nilA)) (nilA)))) [.fr (webD m ls), .fr (chD cs), .fr (.int h), .un, .un, .un, .un] = some (.nx (E [] .un)) :=
    par_of (cons_of (call_of (cons_of (r := .val (webD m ls)) rfl (cons_of (r := .val (chD cs)) rfl rfl)) rfl (sums_ok C hm hls) (by simp [noLend]) rfl) (cons_of (call_of (cons_of (r := .val (webD m ls)) rfl (cons_of (r := .val (.int h)) rfl rfl)) rfl (touching_ok m h ls ⟨hm.1, by omega⟩ hls) rfl rfl) (cons_of (lst_of (ds := []) rfl rfl (by simp)) rfl))) (by simp [asgAll, E, nearL])
  have s2 : setS 6 (callE none f_first_below (consA (varF 0) (consA (varF 3) (consA (outE 2 6) (nilA))))) (E [] .un) = some (.nx (E [] (.fr .non))) := by
    have c := compE_filter (own := [6]) (it := seqI (callE none f_lots_of (consA (bin2 ixD (varF 0) (valF (.int 0))) (nilA)))) (T := nameT 6) (t := ofV (bin2 (cmpV notInD) (varF 2) (varF 6))) (fe := varF 6) (ρ := E [] .un) (ρ1 := E [] .un) (ρb := E [] .un) (rs := [.val (lotsD (allLots m))]) (xs := allLots m) lotD lotD (fun l => !decide (h ∈ l)) (seq_lots hlots) rfl (lots_len hm) (fun l _ =>
      ⟨E [] (.fr (lotD l)), E [] (.fr (lotD l)), rfl, of_of (bin_of (r1 := .val (.int h)) (r2 := .val (lotD l)) rfl rfl rfl rfl (by simp [cmpV, notInD])), fun _ => rfl, fun _ => ⟨.val (lotD l), _, rfl, rfl, rfl⟩⟩)
    have f := first_below_ok C hm hls (outL m h) fun l hl => (outL_in.mp hl).1
    rw [out_none.mpr O] at f
    exact set_nx (call_of (cons_of (r := .val (webD m ls)) rfl (cons_of (r := .slot 3) rfl (cons_of c rfl))) rfl f rfl rfl) (by simp [E, optD])
  have s3 : ifS (ofV (bin2 (cmpV isNotN) (varF 6) (valF .non))) (neverS) (skipS) (E [] (.fr .non)) = some (.nx (E [] (.fr .non))) :=
    if_f (of_of (bin_of (r1 := .val .non) (r2 := .val .non) (o := .val (.bl false)) rfl rfl rfl rfl rfl)) rfl
  obtain ⟨ρ', e, x, rfl, _⟩ := loopS_accN (T := nameT 6) (F := ifS (ofV (bin2 (cmpV inD) (varF 2) (varF 6))) (dropS (appE 5 (tupF (consA (bin2 ixD (varF 3) (callE none f_without (consA (varF 6) (consA (tupF (consA (varF 2) (nilA))) (nilA))))) (consA (bin2 ixD (varF 3) (callE none f_without (consA (varF 6) (consA (varF 4) (nilA))))) (nilA)))))) (skipS))
    lotD (fun l => if decide (h ∈ l) then [rowD (cAt cs) ls h l] else []) (fun l => by show (if decide (h ∈ l) then [rowD (cAt cs) ls h l] else []).length ≤ 1; split <;> simp) 100 (fun acc ρ => ∃ x, ρ = E acc x ∧ frq x = true) (allLots m) [] (E [] (.fr .non)) (by have := allLots_len hm; simp; omega) (fun l hl acc ρ hal ⟨x, hρ, fx⟩ => by
      subst hρ
      have hs := allLots_mem.mp hl
      have L := Lt.of hm hs
      have hlen : l.length ≤ 6 := L.few
      let ρ1 := E acc (.fr (lotD l))
      have ci : bin2 (cmpV inD) (varF 2) (varF 6) ρ1 = some (.val (.bl (decide (h ∈ l))), ρ1) := bin_of (r1 := .val (.int h)) (r2 := .val (lotD l)) rfl rfl rfl rfl (by simp [cmpV])
      have t1 : nameT 6 (lotD l) (E acc x) = some ρ1 := by simp [E, ρ1, frq_free fx]
      by_cases hh : h ∈ l
      · rw [decide_eq_true hh] at ci ⊢
        have w1 : callE none f_without (consA (varF 6) (consA (tupF (consA (varF 2) (nilA))) (nilA))) ρ1 = some (.val (lotD (less1 h l)), ρ1) := by
          have := without_ok (l := l) (k := [h]) (by omega)
          rw [without_one] at this
          exact call_of (cons_of (r := .val (lotD l)) rfl (cons_of (tup_of (ds := [.int h]) (cons_of (r := .val (.int h)) rfl rfl) rfl (by simp)) rfl)) rfl this rfl rfl
        have w2 : callE none f_without (consA (varF 6) (consA (varF 4) (nilA))) ρ1 = some (.val (lotD (far1 ls h l)), ρ1) := by
          have := without_ok (l := l) (k := nearL m ls h) (by omega)
          rw [without_near L.mem, near_far] at this
          exact call_of (cons_of (r := .val (lotD l)) rfl (cons_of (r := .val (lotD (nearL m ls h))) rfl rfl)) rfl this rfl rfl
        have i1 : bin2 ixD (varF 3) (callE none f_without (consA (varF 6) (consA (tupF (consA (varF 2) (nilA))) (nilA)))) ρ1 = some (.val (sumD (cAt cs) ls (less1 h l)), ρ1) := bin_of (r1 := .slot 3) rfl w1 rfl rfl (ix_pairs (allLots_mem.mpr (less1_sub hs)))
        have i2 : bin2 ixD (varF 3) (callE none f_without (consA (varF 6) (consA (varF 4) (nilA)))) ρ1 = some (.val (sumD (cAt cs) ls (far1 ls h l)), ρ1) := bin_of (r1 := .slot 3) rfl w2 rfl rfl (ix_pairs (allLots_mem.mpr (far1_sub hs)))
        have tp : tupF (consA (bin2 ixD (varF 3) (callE none f_without (consA (varF 6) (consA (tupF (consA (varF 2) (nilA))) (nilA))))) (consA (bin2 ixD (varF 3) (callE none f_without (consA (varF 6) (consA (varF 4) (nilA))))) (nilA))) ρ1 = some (.val (rowD (cAt cs) ls h l), ρ1) :=
          tup_of (ds := [sumD (cAt cs) ls (less1 h l), sumD (cAt cs) ls (far1 ls h l)]) (cons_of i1 (cons_of i2 rfl)) rfl (by simp)
        have ap := app_of (i := 5) (ρ := ρ1) (ρ1 := ρ1) (d := rowD (cAt cs) ls h l) (p0 := false) (l0 := false) (ds0 := acc) (p := false) (ds := acc) rfl tp rfl rfl (by omega)
        exact ⟨ρ1, E (acc ++ [rowD (cAt cs) ls h l]) (.fr (lotD l)), t1, if_t (of_of ci) (drop_of ap), _, rfl, rfl⟩
      · rw [decide_eq_false hh] at ci ⊢
        exact ⟨ρ1, ρ1, t1, if_f (of_of ci) rfl, .fr (lotD l), by simp [ρ1], rfl⟩) ⟨_, rfl, rfl⟩
  rw [flatMap_if, List.nil_append] at e
  exact fn_run (seq_nx s1 (seq_nx s2 (seq_nx s3 (seq_nx (for_nx (rs := [.val (lotsD (allLots m))]) (seq_lots hlots) e rfl) (ret_rt rfl))))) rfl
theorem border_chance_ok (C : Ch m cs) (hm : 0 ≤ m ∧ m ≤ 6) (hls : ls.length ≤ 60) (O : Out0 m (cAt cs) ls h) :
    f_border_chance [webD m ls, chD cs, .int h] = some (false, oneD (brd m (cAt cs) ls h), .non) := by
  let E : Rat → Slot → Slot → En := fun b x y => [.fr (webD m ls), .fr (chD cs), .fr (.int h), .fr (oneD b), x, y]
  let P : List Int → Bool := fun l => decide (0 < farS (cAt cs) ls h l)
  let v : List Int → Rat := fun l => aloneS (cAt cs) ls h l / farS (cAt cs) ls h l
  have hr : callE none f_border_rows (consA (varF 0) (consA (varF 1) (consA (varF 2) (nilA)))) (E 1 .un .un) = some (.new (.lst ((withL m h).map (rowD (cAt cs) ls h))), E 1 .un .un) :=
    call_of (cons_of (r := .val (webD m ls)) rfl (cons_of (r := .val (chD cs)) rfl (cons_of (r := .val (.int h)) rfl rfl))) rfl (border_rows_ok C hm hls O) (by simp [noLend]) rfl
  obtain ⟨ρ', e, x4, x5, rfl, _⟩ := loopS_fold (T := tupT [4, 5]) (F := ifS (andT (truT (callE none f_is_less (consA (valF (.kt [.int 0, .int 1])) (consA (varF 5) (nilA))))) (truT (callE none f_is_less (consA (callE none f_over (consA (varF 4) (consA (varF 5) (nilA)))) (consA (varF 3) (nilA)))))) (setS 3 (callE none f_over (consA (varF 4) (consA (varF 5) (nilA))))) (skipS))
    (rowD (cAt cs) ls h) (leaS P v) (fun b ρ => ∃ x4 x5, ρ = E b x4 x5 ∧ frq x4 = true ∧ frq x5 = true ∧ Bt b 3012 ∧ b ≤ 1) (withL m h) 1 (E 1 .un .un) (fun l hl b ρ ⟨x4, x5, hρ, f4, f5, hb, hb1⟩ => by
    subst hρ
    have hs := allLots_mem.mp (List.mem_filter.mp hl).1
    have bA : Bt (aloneS (cAt cs) ls h l) 1506 := C.balt (less1_sub hs) (Lt.of hm (less1_sub hs)).few
    have bG : Bt (farS (cAt cs) ls h l) 1506 := C.balt (far1_sub hs) (Lt.of hm (far1_sub hs)).few
    let dA := sumD (cAt cs) ls (less1 h l)
    let dG := sumD (cAt cs) ls (far1 ls h l)
    have qA : Fq dA (aloneS (cAt cs) ls h l) := sumD_fq _ _ _
    have qG : Fq dG (farS (cAt cs) ls h l) := sumD_fq _ _ _
    let ρ2 := E b (.fr dA) (.fr dG)
    have t1 : tupT [4, 5] (rowD (cAt cs) ls h l) (E b x4 x5) = some ρ2 := by simp [rowD, E, ρ2, frq_free f4, frq_free f5, D.asT, asgAll, dA, dG]
    have cp : truT (callE none f_is_less (consA (valF (.kt [.int 0, .int 1])) (consA (varF 5) (nilA)))) ρ2 = some (decide (0 < farS (cAt cs) ls h l), ρ2) :=
      tru_of (call_of (cons_of (r := .val zeroK) rfl (cons_of (r := .val dG) rfl rfl)) rfl (is_less_ok Fq.zero qG Bt.zero bG (by omega)) rfl rfl)
    by_cases hp : 0 < farS (cAt cs) ls h l
    · have ov : callE none f_over (consA (varF 4) (consA (varF 5) (nilA))) ρ2 = some (.val (frQ (v l)), ρ2) := call_of (cons_of (r := .val dA) rfl (cons_of (r := .val dG) rfl rfl)) rfl (over_ok qA qG bA bG hp (by omega)) rfl rfl
      have be : truT (callE none f_is_less (consA (callE none f_over (consA (varF 4) (consA (varF 5) (nilA)))) (consA (varF 3) (nilA)))) ρ2 = some (decide (v l < b), ρ2) :=
        tru_of (call_of (cons_of ov (cons_of (r := .val (oneD b)) rfl rfl)) rfl (is_less_ok (Fq.fr _) (Fq.oneD b) (bA.div bG hp) hb (by omega)) rfl rfl)
      rw [decide_eq_true hp] at cp
      by_cases hv : v l < b
      · rw [decide_eq_true hv] at be
        have hv1 : v l < 1 := by grind
        have e1 : leaS P v b l = v l := leaS_t (decide_eq_true hp) hv
        exact ⟨ρ2, E (v l) (.fr dA) (.fr dG), t1, if_t (and_t cp be) (set_nx ov (by rw [show E (v l) (.fr dA) (.fr dG) = [.fr (webD m ls), .fr (chD cs), .fr (.int h), .fr (frQ (v l)), .fr dA, .fr dG] by simp only [E]; rw [oneD_ne hv1]]; simp [ρ2, E])), .fr dA, .fr dG, by rw [e1], rfl, rfl, by rw [e1]; exact bA.div bG hp, by rw [e1]; exact Rat.le_of_lt hv1⟩
      · rw [decide_eq_false hv] at be
        have e1 : leaS P v b l = b := leaS_f (.inr hv)
        exact ⟨ρ2, ρ2, t1, if_f (and_t cp be) rfl, .fr dA, .fr dG, by rw [e1], rfl, rfl, by rw [e1]; exact hb, by rw [e1]; exact hb1⟩
    · rw [decide_eq_false hp] at cp
      have e1 : leaS P v b l = b := leaS_f (.inl (decide_eq_false hp))
      exact ⟨ρ2, ρ2, t1, if_f (and_f cp) rfl, .fr dA, .fr dG, by rw [e1], rfl, rfl, by rw [e1]; exact hb, by rw [e1]; exact hb1⟩) ⟨.un, .un, rfl, rfl, rfl, Bt.one.mono (by omega), Rat.le_refl⟩
  exact fn_run (seq_nx (ρ1 := E 1 .un .un) (by simp [setS, valF, asgn, E, oneD, oneK]) (seq_nx (for_nx (rs := [.new (.lst ((withL m h).map (rowD (cAt cs) ls h)))]) (seq_new hr) e rfl) (ret_rt (r := .val (oneD (brd m (cAt cs) ls h))) rfl))) rfl
end
end Mi

/-! The least marks of a hand: the run; a hand's marks turned. -/
namespace Mi
open PySem PySem.Spec
open PyProof.Rows hiding St
open L2
abbrev ceilE (i : Nat) : SE := bin2 (iiD divI) (bin2 (iiD subI) (bin2 addD (bin2 ixD (varF i) (valF (.int 1))) (bin2 ixD (varF i) (valF (.int 0)))) (valF (.int 1))) (bin2 ixD (varF i) (valF (.int 0)))
theorem ceilE_of {i k : Nat} {ρ : En} {d : D} {q : Rat} (hi : ρ[i]? = some (.fr d)) (hd : Fq d q) (hq : 0 < q) (hb : Bt q k) (hk : k < 9000) : ceilE i ρ = some (.val (.int (ceilI q)), ρ) := by
  have vi : varF i ρ = some (.val d, ρ) := by simp only [varF, hi]
  have hn : 0 < q.num := by simpa [hq] using num_pos q
  have i0 : bin2 ixD (varF i) (valF (.int 0)) ρ = some (.val (.int q.num), ρ) := bin_of (r1 := .val d) (r2 := .val (.int 0)) vi rfl rfl rfl hd.top
  have i1 : bin2 ixD (varF i) (valF (.int 1)) ρ = some (.val (.int q.den), ρ) := bin_of (r1 := .val d) (r2 := .val (.int 1)) vi rfl rfl rfl hd.bot
  refine bin_of (bin_of (r2 := .val (.int 1)) (bin_of i1 i0 rfl rfl (o := .val (.int (q.den + q.num))) rfl) rfl rfl rfl (o := .val (.int (q.den + q.num - 1))) rfl) i0 rfl rfl ?_
  have := log2_le hb.1
  simp only [iiD, divI]
  rw [if_pos ⟨hn, by omega⟩]
  rfl
def leastD (m : Int) (c : Int → Rat) (ls : List (List Int)) (h : Int) : D :=
  match (outL m h).find? (negB c ls) with
  | none => if brd m c ls h = 0 then .non else .int (ceilI (brd m c ls h))
  | some _ => .non
section
variable {m h : Int} {ls : List (List Int)} {cs : List Rat} {ms : List Int}
theorem is_not_opt (o : Option (List Int)) : cmpV isNotN (optD o) .non = some (.val (.bl o.isSome)) := by
  cases o <;> rfl
theorem is_opt (o : Option (List Int)) : cmpV isN (optD o) .non = some (.val (.bl o.isNone)) := by
  cases o <;> rfl
theorem data_of (h : ∀ x ∈ ms, 1 ≤ x) : lotsD (ms.map fun n => [1, n]) = chD (mCs ms) := by
  unfold lotsD chD mCs
  rw [List.map_map, List.map_map]
  congr 1
  exact List.map_congr_left fun n hn => (frQ_part (h n hn)).symm
theorem brd_pos {c : Int → Rat} (O : Out0 m c ls h) (hz : brd m c ls h ≠ 0) : 0 < brd m c ls h := by
  have := brd_nonneg (h := h) O
  grind
theorem least_marks_ok (M : Mk m ms) (hm : 0 ≤ m ∧ m ≤ 6) (hls : ls.length ≤ 60) : f_least_marks [webD m ls, lotD ms, .int h] = some (false, leastD m (cAt (mCs ms)) ls h, .non) := by
  have C := M.ch hm.2
  have hml : ms.length ≤ 6 := by have := M.len; omega
  let E : Slot → Slot → En := fun x y => [.fr (webD m ls), .fr (lotD ms), .fr (.int h), .fr (chD (mCs ms)), x, y]
  have s1 : setS 3 (callE none f_chances_of (consA (varF 1) (nilA))) [.fr (webD m ls), .fr (lotD ms), .fr (.int h), .un, .un, .un] = some (.nx (E .un .un)) := by
    have := chances_ok (ms := ms) (by omega)
    rw [M.data] at this
    exact set_nx (call_of (cons_of (r := .val (lotD ms)) rfl rfl) rfl this rfl rfl) (by simp [E])
  have ix0 : bin2 ixD (varF 0) (valF (.int 0)) (E .un .un) = some (.val (.int m), E .un .un) := bin_of (r1 := .val (webD m ls)) (r2 := .val (.int 0)) rfl rfl rfl rfl ix_web0
  have hlots : callE none f_lots_of (consA (bin2 ixD (varF 0) (valF (.int 0))) (nilA)) (E .un .un) = some (.val (lotsD (allLots m)), E .un .un) :=
    call_of (cons_of ix0 rfl) rfl (lots_of_ok m hm) rfl rfl
  have c := compE_filter (own := [5]) (it := seqI (callE none f_lots_of (consA (bin2 ixD (varF 0) (valF (.int 0))) (nilA)))) (T := nameT 5) (t := ofV (bin2 (cmpV notInD) (varF 2) (varF 5))) (fe := varF 5) (ρ := E .un .un) (ρ1 := E .un .un) (ρb := E .un .un) (rs := [.val (lotsD (allLots m))]) (xs := allLots m) lotD lotD (fun l => !decide (h ∈ l)) (seq_lots hlots) rfl (lots_len hm) (fun l _ =>
    ⟨E .un (.fr (lotD l)), E .un (.fr (lotD l)), rfl, of_of (bin_of (r1 := .val (.int h)) (r2 := .val (lotD l)) rfl rfl rfl rfl (by simp [cmpV, notInD])), fun _ => rfl, fun _ => ⟨.val (lotD l), _, rfl, rfl, rfl⟩⟩)
  have su : callE none f_sums_within (consA (varF 0) (consA (varF 3) (nilA))) (E .un .un) = some (.new (sumsD m (mCs ms) ls), E .un .un) :=
    call_of (cons_of (r := .val (webD m ls)) rfl (cons_of (r := .val (chD (mCs ms))) rfl rfl)) rfl (sums_ok C hm hls) (by simp [noLend]) rfl
  have fb : callE none f_first_below (consA (varF 0) (consA (callE none f_sums_within (consA (varF 0) (consA (varF 3) (nilA)))) (consA (outE 2 5) (nilA)))) (E .un .un) = some (.val (optD ((outL m h).find? (negB (cAt (mCs ms)) ls))), E .un .un) :=
    call_of (cons_of (r := .val (webD m ls)) rfl (cons_of su (cons_of c rfl))) rfl (first_below_ok C hm hls (outL m h) fun l hl => (outL_in.mp hl).1) (by simp [noLend]) rfl
  have ct : ofV (bin2 (cmpV isNotN) (callE none f_first_below (consA (varF 0) (consA (callE none f_sums_within (consA (varF 0) (consA (varF 3) (nilA)))) (consA (outE 2 5) (nilA))))) (valF .non)) (E .un .un) = some (((outL m h).find? (negB (cAt (mCs ms)) ls)).isSome, E .un .un) :=
    of_of (bin_of fb (r2 := .val .non) rfl rfl rfl (is_not_opt _))
  unfold leastD
  cases q : (outL m h).find? (negB (cAt (mCs ms)) ls) with
  | some l =>
    rw [q] at ct
    exact fn_run (seq_nx s1 (seq_rt (if_t ct (ret_rt rfl)))) rfl
  | none =>
    rw [q] at ct
    have O := out_none.mp q
    have s4 : setS 4 (callE none f_border_chance (consA (varF 0) (consA (varF 3) (consA (varF 2) (nilA))))) (E .un .un) = some (.nx (E (.fr (oneD (brd m (cAt (mCs ms)) ls h))) .un)) :=
      set_nx (call_of (cons_of (r := .val (webD m ls)) rfl (cons_of (r := .val (chD (mCs ms))) rfl (cons_of (r := .val (.int h)) rfl rfl))) rfl (border_chance_ok C hm hls O) rfl rfl) (by simp [E])
    have t4 : ofV (bin2 (cmpV eqK) (varF 4) (valF (.kt [.int 0, .int 1]))) (E (.fr (oneD (brd m (cAt (mCs ms)) ls h))) .un) = some (decide (brd m (cAt (mCs ms)) ls h = 0), E (.fr (oneD (brd m (cAt (mCs ms)) ls h))) .un) :=
      of_of (bin_of (r1 := .val (oneD (brd m (cAt (mCs ms)) ls h))) (r2 := .val zeroK) rfl rfl rfl rfl (by simp only [cmpV, eq_zero]; rfl))
    by_cases hz : brd m (cAt (mCs ms)) ls h = 0
    · rw [decide_eq_true hz] at t4
      rw [if_pos hz]
      exact fn_run (seq_nx s1 (seq_nx (if_f ct rfl) (seq_nx s4 (ret_rt (ite_t t4 (o := some (.val .non, E (.fr (oneD (brd m (cAt (mCs ms)) ls h))) .un)) rfl))))) rfl
    · rw [decide_eq_false hz] at t4
      rw [if_neg hz]
      have bb : Bt (brd m (cAt (mCs ms)) ls h) (1506 + 1506) := brd_bits fun l hl => C.balt hl (Lt.of hm hl).few
      exact fn_run (seq_nx s1 (seq_nx (if_f ct rfl) (seq_nx s4 (ret_rt (ite_f t4 (ceilE_of (i := 4) rfl (Fq.oneD _) (brd_pos O hz) bb (by omega))))))) rfl
/-! ### a hand's marks turned -/
theorem mCs_turn (ms : List Int) (h n : Int) : mCs (turnAt ms h n) = turnC (mCs ms) h (mkRat 1 n.toNat) := by
  simp [mCs, turnAt, turnC, List.map_take, List.map_drop]
theorem Mk.cht (M : Mk m ms) (hm : m ≤ 6) {n : Int} (h0 : 0 ≤ h) (h1 : h < m) (n0 : 1 ≤ n) (n1 : n ≤ 2 ^ 1000) : Ch m (turnC (mCs ms) h (mkRat 1 n.toNat)) := by
  refine (M.ch hm).turn h0 h1 (mk01 (by decide) (by omega) (by omega)) ?_
  have d1 : (mkRat 1 n.toNat).den ≤ 2 ^ 1000 := by
    refine Nat.le_trans (Nat.le_of_dvd (by omega) (den_mk (N := 1) (D := n.toNat) (by omega))) ?_
    have : ((n.toNat : Nat) : Int) ≤ ((2 ^ 1000 : Nat) : Int) := by
      rw [Int.toNat_of_nonneg (by omega), Int.natCast_pow]
      exact n1
    omega
  refine Nat.le_trans (Nat.mul_le_mul (M.den hm) d1) ?_
  rw [← Nat.pow_add]
  exact Nat.pow_le_pow_right (by omega) (by omega)
theorem turn_same (C : Ch m cs) (h0 : 0 ≤ h) (h1 : h < m) (q : Rat) : Same h m (cAt cs) (cAt (turnC cs h q)) := fun x x0 x1 hx => by rw [cAt_turn C h0 h1 x0 x1, if_neg hx]
theorem turn_here (C : Ch m cs) (h0 : 0 ≤ h) (h1 : h < m) (q : Rat) : cAt (turnC cs h q) h = q := by rw [cAt_turn C h0 h1 h0 h1, if_pos rfl]
theorem same_out0 {c c' : Int → Rat} (E : Same h m c c') : Out0 m c' ls h ↔ Out0 m c ls h := by
  unfold Out0
  refine forall_congr' fun l => forall_congr' fun hl => forall_congr' fun hh => ?_
  rw [same_out E (allLots_mem.mp hl) hh]
theorem lchances_turn {i j : Nat} {fx : SE} {ρ : En} {n : Int} (M : Mk m ms) (hm : m ≤ 6) (hi : ρ[i]? = some (.fr (lotD ms))) (hj : ρ[j]? = some (.fr (.int h))) (h0 : 0 ≤ h) (n0 : 1 ≤ n) (hx : fx ρ = some (.val (.int n), ρ)) :
    callE none f_law_chances (consA (bin2 addD (bin2 addD (slF (varF i) none (some (varF j))) (tupF (consA fx (nilA)))) (slF (varF i) (some (bin2 addD (varF j) (valF (.int 1)))) none)) (nilA)) ρ = some (.val (chD (turnC (mCs ms) h (mkRat 1 n.toNat))), ρ) := by
  have hml : ms.length ≤ 6 := by have := M.len; omega
  have hall : ∀ x ∈ turnAt ms h n, 1 ≤ x := fun x hx => by
    unfold turnAt at hx
    simp only [List.mem_append, List.mem_singleton] at hx
    rcases hx with (hx | rfl) | hx
    · exact (M.mrk x (List.mem_of_mem_take hx)).1
    · exact n0
    · exact (M.mrk x (List.mem_of_mem_drop hx)).1
  have hlen : (turnAt ms h n).length ≤ 100 := by
    unfold turnAt
    simp only [List.length_append, List.length_take, List.length_drop, List.length_singleton]
    omega
  have lc := lchances_ok hlen
  rw [data_of hall, mCs_turn] at lc
  exact call_of (cons_of (turn_of (by omega) hi hj h0 hx) rfl) rfl lc rfl rfl
end
end Mi

/-! xs[i] += e, of a list. -/
namespace Mi
open PySem PySem.Spec
open PyProof.Rows hiding St
open L2
section
variable {X : Cx}
theorem get_listI : PGet X (fun o i H Q => ∃ p xs k v, o = .ref p ∧ i = .int k ∧ 0 ≤ k ∧ H p = some (.lst xs) ∧ atI xs k = some v ∧ Q v H) := by
  intro pins s σ H o i ov iv Q I ro ri h
  obtain ⟨p, xs, k, z, rfl, rfl, h0, hp, he, q⟩ := h
  cases ro
  obtain ⟨t, rfl⟩ := ri
  obtain ⟨its, r, pl, hz⟩ := I.list (SqL.of hp)
  obtain ⟨j, h1, h2, h3, h4, h5⟩ := atI_get he
  obtain ⟨w, ew, rw'⟩ := r.get h2
  have hl := r.length
  have hn := line63
  have hj : k.toNat = j := by
    rw [seqIndex_of h0 h5] at h1
    exact Option.some.inj h1
  exact wpAny_getItem_list pl.isList h0 (by omega) (by rw [hj]; simpa using ew) ⟨z, H, I, rw', q⟩
/-- xs[i] op= e, xs in the slot s -/
def augI (k : Int → Int → Int) (s : Nat) (fi f : SE) : SS := fun ρ => match ρ[s]? with
  | some (.ow _ _ (.lst _)) => (match fi ρ with
    | none => none
    | some (ri, ρ1) => match res ρ1 ri, ρ1[s]? with
      | some (.int i), some (.ow _ false (.lst ds)) => (match atI ds i with
        | some (.int a) => if 0 ≤ i then (match f ρ1 with
          | none => none
          | some (r, ρ2) => match res ρ2 r, ρ2[s]? with
            | some (.int b), some (.ow p false (.lst es)) => (match ixN es.length i with
              | some j => some (.nx (ρ2.set s (.ow p false (.lst (es.set j (.int (k a b)))))))
              | none => none)
            | _, _ => none) else none
        | _ => none)
      | _, _ => none)
  | _ => none
variable {o i e : Expr} {f fi : SE} {pos tpos : Pos} {op : Operator} {k : Int → Int → Int}
theorem Sx.augI {s : Nat} (ho : PE X o (tVar s)) (hi : Ex X i fi) (he : Ex X e f) (hp : PIp X op (ipI k))
    (ha : ∀ ov iv new, augStore i ov iv new = (do holding [new, ov, iv] (setItem ov iv new); release [new, ov, iv] []; pure .next) := by intros; rfl) : Sx X (.AugAssign (.Subscript o i tpos) op e pos) (Mi.augI k s fi f) := PS.imp (ps_augS ho hi get_listI he hp set_list ha) fun D σ H ⟨G, ρ, ot, R, hf, hD⟩ => by
  unfold Mi.augI at hf
  split at hf
  · rename_i p0 l0 ds0 e0
    obtain ⟨a0, xs0, s0, _⟩ := R.lstSlot e0
    split at hf
    · cases hf
    rename_i ri ρ1 e1
    refine ⟨.ref a0, s0, G, ρ, ri, ρ1, R, e1, fun w H1 P1 => ?_⟩
    have R1 : Rel X.K G ρ1 σ H1 := P1.rel
    split at hf
    · rename_i i p1 ds e2 e3
      have ew : w = .int i := (P1.ok R).int R1 e2
      subst ew
      obtain ⟨a, xs, s', h, wA⟩ := R1.ownL e3
      rw [s0] at s'
      cases s'
      split at hf
      · rename_i a e4
        split at hf
        · rename_i h0
          split at hf
          · cases hf
          rename_i r ρ2 e5
          obtain ⟨v, hv, rv⟩ := wA.at e4
          cases rv
          refine ⟨a0, xs, i, .int a, rfl, rfl, h0, h, hv, G, ρ1, r, ρ2, R1, e5, fun y H2 P2 => ?_⟩
          have R2 : Rel X.K G ρ2 σ H2 := P2.rel
          split at hf
          · rename_i b p es e6 e7
            have ey : y = .int b := (P2.ok R1).int R2 e6
            subst ey
            obtain ⟨a', ys, s'', h', wB⟩ := R2.ownL e7
            rw [s0] at s''
            cases s''
            split at hf
            · rename_i j ej
              cases hf
              have S12 := P1.step.trans P2.step
              exact ⟨a, b, rfl, rfl, a0, ys, i, j, rfl, rfl, h', by rw [wB.length]; exact ej, hD σ _ ((S12.post R2).trans (R2.addLst e7 s0 h' (wB.set (.int _) j)))⟩
            · cases hf
          · cases hf
        · cases hf
      · cases hf
    · cases hf
  · cases hf
end
end Mi

/-! What more defs of the regions mean. -/
namespace Mi
open PySem PySem.Spec
open PyProof.Rows hiding St
open L2
def b_region_fault : SS :=
    retS (callE none f_first_below (consA (varF 0) (consA (callE none f_sums_within (consA (varF 0) (consA (varF 1) (nilA)))) (consA (callE none f_lots_of (consA (bin2 ixD (varF 0) (valF (.int 0))) (nilA))) (nilA)))))
def f_region_fault : Fn := fnD 2 none b_region_fault
def b_law_inside : SS :=
    seqS (setS 2 (callE (some 0) f_law_drawn_chances (consA (varF 0) (consA (varF 1) (nilA)))))
    (seqS (forS (rng1I (consA (valF (.int 30)) (nilA))) (nameT 3) (seqS (ifS (ofV (bin2 (cmpV isN) (callE none f_law_fault (consA (varF 1) (consA (varF 2) (nilA)))) (valF .non))) (brS) (skipS))
    (setS 2 (bltE tupK (consA (compE [5] (seqI (varF 2)) (nameT 5) (yesT) (callE none f_law_times (consA (varF 5) (consA (tupF (consA (valF (.int 3)) (consA (valF (.int 4)) (nilA)))) (nilA))))) (nilA))))))
    (seqS (ifS (ofV (bin2 (cmpV eqK) (callE (some 0) f_law_take (consA (varF 0) (consA (valF (.int 2)) (nilA)))) (valF (.int 0)))) (seqS (setS 4 (callE (some 0) f_law_take (consA (varF 0) (consA (bin2 ixD (varF 1) (valF (.int 0))) (nilA)))))
    (setS 2 (bin2 addD (bin2 addD (slF (varF 2) none (some (varF 4))) (tupF (consA (callE none f_law_border (consA (varF 1) (consA (varF 2) (consA (varF 4) (nilA))))) (nilA)))) (slF (varF 2) (some (bin2 addD (varF 4) (valF (.int 1)))) none)))) (skipS))
    (retS (varF 2))))
def f_law_inside : Fn := fnD 6 (some 0) b_law_inside
end Mi

/-! A web's fault by the program; chances within the region. -/
namespace Mi
open PySem PySem.Spec
open PyProof.Rows hiding St
open L2
/-! ### small chances keep to the region -/
def lowB : Nat → Rat
  | 0 => 1
  | n + 1 => lowB n - mkRat 1 6
theorem lowB_pos : ∀ n : Nat, n ≤ 6 → 0 ≤ lowB n := by
  intro n hn
  match n, hn with
  | 0, _ => exact (by decide +kernel)
  | 1, _ => exact (by decide +kernel)
  | 2, _ => exact (by decide +kernel)
  | 3, _ => exact (by decide +kernel)
  | 4, _ => exact (by decide +kernel)
  | 5, _ => exact (by decide +kernel)
  | 6, _ => exact (by decide +kernel)
theorem lowB_le (n : Nat) : lowB (n + 1) ≤ lowB n := by
  have : (0 : Rat) ≤ mkRat 1 6 := by decide
  show lowB n - mkRat 1 6 ≤ lowB n
  grind
theorem lowB_mono : ∀ {i j : Nat}, i ≤ j → lowB j ≤ lowB i
  | i, 0, h => by rw [show i = 0 by omega]; exact Rat.le_refl
  | i, j + 1, h => by
    by_cases e : i = j + 1
    · rw [e]; exact Rat.le_refl
    · exact Rat.le_trans (lowB_le j) (lowB_mono (by omega))
theorem small_alt {c : Int → Rat} {ls : List (List Int)} : ∀ (n : Nat) {l : List Int}, l.length ≤ n → n ≤ 6 → l.Pairwise (· < ·) → (∀ x ∈ l, 0 ≤ c x ∧ c x ≤ mkRat 1 6) → lowB n ≤ altS c ls l ∧ altS c ls l ≤ 1
  | 0, l, h, _, _, _ => by
    have : l = [] := List.length_eq_zero_iff.mp (by omega)
    subst this
    rw [altS_nil]
    exact ⟨Rat.le_refl, Rat.le_refl⟩
  | n + 1, [], h, hn, _, _ => by
    rw [altS_nil]
    exact ⟨lowB_mono (i := 0) (by omega), Rat.le_refl⟩
  | n + 1, a :: t, h, hn, hp, hc => by
    rw [List.length_cons] at h
    rw [altS_cons hp, near_far]
    rw [List.pairwise_cons] at hp
    have i1 := small_alt (ls := ls) n (l := t) (by omega) (by omega) hp.2 fun x hx => hc x (List.mem_cons_of_mem _ hx)
    have i2 := small_alt (ls := ls) n (l := far1 ls a t) (Nat.le_trans (List.length_filter_le _ _) (by omega)) (by omega) (hp.2.sublist List.filter_sublist) fun x hx => hc x (List.mem_cons_of_mem _ (List.mem_filter.mp hx).1)
    obtain ⟨c0, c1⟩ := hc a List.mem_cons_self
    have f0 : 0 ≤ altS c ls (far1 ls a t) := Rat.le_trans (lowB_pos n (by omega)) i2.1
    have m1 := Rat.mul_nonneg c0 f0
    have m2 := Rat.mul_le_mul_of_nonneg_left i2.2 c0
    refine ⟨?_, ?_⟩
    · show lowB n - mkRat 1 6 ≤ _
      grind
    · grind
section
variable {m : Int} {ls : List (List Int)} {cs : List Rat}
theorem small_none (hm : 0 ≤ m ∧ m ≤ 6) (C : Ch m cs) (h : ∀ q ∈ cs, q ≤ mkRat 1 6) : fltL m (cAt cs) ls = none := by
  refine flt_none.mpr fun l hl => ?_
  have L := Lt.of hm (allLots_mem.mp hl)
  exact Rat.le_trans (lowB_pos 6 (by omega)) (small_alt (ls := ls) 6 L.few (by omega) L.asc fun x hx => ⟨(C.pos _ (C.at (L.mem x hx).1 (L.mem x hx).2)).1, h _ (C.at (L.mem x hx).1 (L.mem x hx).2)⟩).1
theorem none_out {c : Int → Rat} {h : Int} (z : fltL m c ls = none) : Out0 m c ls h := fun l hl _ => flt_none.mp z l hl
theorem region_fault_ok (C : Ch m cs) (hm : 0 ≤ m ∧ m ≤ 6) (hls : ls.length ≤ 60) : f_region_fault [webD m ls, chD cs] = some (false, optD (fltL m (cAt cs) ls), .non) := by
  let E : En := [.fr (webD m ls), .fr (chD cs)]
  have su : callE none f_sums_within (consA (varF 0) (consA (varF 1) (nilA))) E = some (.new (sumsD m cs ls), E) :=
    call_of (cons_of (r := .val (webD m ls)) rfl (cons_of (r := .val (chD cs)) rfl rfl)) rfl (sums_ok C hm hls) (by simp [noLend]) rfl
  have hlots : callE none f_lots_of (consA (bin2 ixD (varF 0) (valF (.int 0))) (nilA)) E = some (.val (lotsD (allLots m)), E) :=
    call_of (cons_of (bin_of (r1 := .val (webD m ls)) (r2 := .val (.int 0)) rfl rfl rfl rfl ix_web0) rfl) rfl (lots_of_ok m hm) rfl rfl
  exact fn_run (ret_rt (call_of (cons_of (r := .val (webD m ls)) rfl (cons_of su (cons_of hlots rfl))) rfl (first_below_seq C hm hls (allLots m) (fun l h => h) (dl := lotsD (allLots m)) (seq_lots rfl)) (by simp [noLend]) rfl)) rfl
/-! ### less by a part -/
def q34 : Rat := mkRat 3 4
theorem Fq.q34 : Fq (.tup [.int 3, .int 4]) q34 := ⟨by simp [ixD, show Mi.q34.num = 3 by decide], by simp [ixD, show Mi.q34.den = 4 by decide]⟩
def shr (n : Nat) : Rat := q34 ^ n
def lessC (cs : List Rat) : List Rat := cs.map fun q => q * q34
theorem dprod_less : ∀ l : List Rat, dprod (lessC l) ≤ dprod l * 4 ^ l.length
  | [] => by simp [lessC, dprod]
  | q :: l => by
    have ih := dprod_less l
    have hd : (q * q34).den ≤ q.den * 4 := Nat.le_of_dvd (Nat.mul_pos q.den_pos (by decide)) (den_mul q q34)
    show (q * q34).den * dprod (lessC l) ≤ q.den * dprod l * 4 ^ (l.length + 1)
    refine Nat.le_trans (Nat.mul_le_mul hd ih) (Nat.le_of_eq ?_)
    rw [Nat.pow_succ]
    simp only [Nat.mul_assoc, Nat.mul_comm, Nat.mul_left_comm]
theorem less_ch (C : Ch m cs) (hm : m ≤ 6) {p : Nat} (hp : p + 12 ≤ 1500) (hd : dprod cs ≤ 2 ^ p) : Ch m (lessC cs) ∧ dprod (lessC cs) ≤ 2 ^ (p + 12) := by
  have hl := C.len
  have h4 : dprod (lessC cs) ≤ 2 ^ (p + 12) := by
    refine Nat.le_trans (dprod_less cs) ?_
    rw [Nat.pow_add]
    refine Nat.mul_le_mul hd ?_
    rw [show (2 : Nat) ^ 12 = 4 ^ 6 by decide]
    exact Nat.pow_le_pow_right (by omega) (by omega)
  refine ⟨⟨by rw [lessC, List.length_map]; exact hl, fun q hq => ?_, Nat.le_trans h4 (Nat.pow_le_pow_right (by omega) hp)⟩, h4⟩
  obtain ⟨x, hx, rfl⟩ := List.mem_map.mp hq
  obtain ⟨x0, x1⟩ := C.pos x hx
  have s0 : (0 : Rat) ≤ q34 := by decide
  have s1 : q34 ≤ 1 := by decide
  refine ⟨Rat.mul_nonneg x0 s0, ?_⟩
  have := Rat.mul_le_mul_of_nonneg_left s1 x0
  grind
abbrev lessE : SE := bltE tupK (consA (compE [5] (seqI (varF 2)) (nameT 5) (yesT) (callE none f_law_times (consA (varF 5) (consA (tupF (consA (valF (.int 3)) (consA (valF (.int 4)) (nilA)))) (nilA))))) (nilA))
abbrev lessS : SS := seqS (ifS (ofV (bin2 (cmpV isN) (callE none f_law_fault (consA (varF 1) (consA (varF 2) (nilA)))) (valF .non))) (brS) (skipS)) (setS 2 lessE)
abbrev Ei (g s m : Int) (ls : List (List Int)) (cs : List Rat) (a b : Slot) : En := [.ow true false (boxD g s), .fr (webD m ls), .fr (chD cs), a, b, .un]
theorem less_ok (C : Ch m cs) (hm : m ≤ 6) {g s : Int} {a b : Slot} : lessE (Ei g s m ls cs a b) = some (.val (chD (lessC cs)), Ei g s m ls cs a b) := by
  have hl := C.len
  have c := compE_map (own := [5]) (it := seqI (varF 2)) (T := nameT 5) (fe := callE none f_law_times (consA (varF 5) (consA (tupF (consA (valF (.int 3)) (consA (valF (.int 4)) (nilA)))) (nilA)))) (ρ := Ei g s m ls cs a b) (ρ1 := Ei g s m ls cs a b) (ρb := Ei g s m ls cs a b) (rs := [.val (chD cs)]) (xs := cs) frQ (fun q => frQ (q * q34)) rfl rfl (by omega) (fun q hq =>
    ⟨[.ow true false (boxD g s), .fr (webD m ls), .fr (chD cs), a, b, .fr (frQ q)], .val (frQ (q * q34)), [.ow true false (boxD g s), .fr (webD m ls), .fr (chD cs), a, b, .fr (frQ q)], rfl,
      call_of (cons_of (r := .val (frQ q)) rfl (cons_of (tup_of (ds := [.int 3, .int 4]) rfl rfl (by simp)) rfl)) rfl (ltimes_ok (Fq.fr q) Fq.q34 (Bt.of (a := 0) (den_dvd hq) (dprod_pos cs) C.den (Ab.of01 (C.pos q hq)) (by decide)) (show Bt q34 2 from ⟨by decide, by decide⟩) (by omega)) rfl rfl, rfl, rfl⟩)
  refine blt_of (cons_of c rfl) rfl (o := .val (chD (lessC cs))) ?_
  rw [chD, lessC, List.map_map]
  rfl
def B0 (m : Int) (ls : List (List Int)) (cs : List Rat) : Prop := Ch m cs ∧ dprod cs ≤ 2 ^ 156 ∧ fltL m (cAt cs) ls = none
theorem shrink_ok (C : Ch m cs) (hm : 0 ≤ m ∧ m ≤ 6) (hls : ls.length ≤ 60) (hd : dprod cs ≤ 2 ^ 72) {g s : Int} : ∃ cs' a, forS (rng1I (consA (valF (.int 30)) (nilA))) (nameT 3) lessS (Ei g s m ls cs .un .un) = some (.nx (Ei g s m ls cs' a .un)) ∧ B0 m ls cs' := by
  let B : En → Prop := fun ρ => ∃ cs' a, ρ = Ei g s m ls cs' a .un ∧ B0 m ls cs'
  have h := loopS_brk (T := nameT 3) (F := lessS) (fun k ρ => ∃ cs' a, ρ = Ei g s m ls cs' a .un ∧ frq a = true ∧ Ch m cs' ∧ k ≤ 7 ∧ dprod cs' ≤ 2 ^ (72 + 12 * k) ∧ ∀ q ∈ cs', q ≤ shr k) B (rangeD 0 30) 0 (Ei g s m ls cs .un .un) (fun k d hd ρ ⟨cs', a, hρ, fa, C', hk7, hd', hq⟩ => by
    subst hρ
    obtain ⟨rfl, hk⟩ := range_at hd
    rw [Nat.zero_add] at hd' hq hk7 ⊢
    let ρ1 := Ei g s m ls cs' (.fr (.int (0 + k))) .un
    have ef := fault_at (ls := ls) C' hm hls
    have ct : ofV (bin2 (cmpV isN) (callE none f_law_fault (consA (varF 1) (consA (varF 2) (nilA)))) (valF .non)) ρ1 = some ((fltL m (cAt cs') ls).isNone, ρ1) :=
      of_of (bin_of (call_of (cons_of (r := .val (webD m ls)) rfl (cons_of (r := .val (chD cs')) rfl rfl)) rfl ef rfl rfl) (r2 := .val .non) rfl rfl rfl (is_opt _))
    refine ⟨ρ1, by simp [ρ1, frq_free fa], ?_⟩
    cases q : fltL m (cAt cs') ls with
    | none =>
      rw [q] at ct
      refine .inr ⟨ρ1, ?_, cs', _, rfl, C', Nat.le_trans hd' (Nat.pow_le_pow_right (by omega) (by omega)), q⟩
      have : ifS (ofV (bin2 (cmpV isN) (callE none f_law_fault (consA (varF 1) (consA (varF 2) (nilA)))) (valF .non))) (brS) (skipS) ρ1 = some (.bk ρ1) := if_t ct rfl
      unfold lessS seqS
      simp only [this]
    | some l =>
      rw [q] at ct
      have hk6 : k ≤ 6 := by
        by_cases z : k = 7
        · exfalso
          subst z
          have hs : shr 7 ≤ mkRat 1 6 := by decide +kernel
          have := small_none (ls := ls) hm C' fun q h => Rat.le_trans (hq q h) hs
          rw [this] at q
          cases q
        · omega
      obtain ⟨Cl, dl⟩ := less_ch C' hm.2 (p := 72 + 12 * k) (by omega) hd'
      refine .inl ⟨Ei g s m ls (lessC cs') (.fr (.int (0 + k))) .un, seq_nx (if_f ct rfl) (set_nx (less_ok C' hm.2) rfl), _, _, rfl, rfl, Cl, by omega, by rw [Nat.mul_add, ← Nat.add_assoc]; exact dl, fun x hx => ?_⟩
      obtain ⟨y, hy, rfl⟩ := List.mem_map.mp hx
      have := Rat.mul_le_mul_of_nonneg_right (hq y hy) (show (0 : Rat) ≤ q34 by decide)
      show y * q34 ≤ q34 ^ (k + 1)
      rw [Rat.pow_succ]
      exact this) ⟨cs, .un, rfl, rfl, C, by omega, hd, fun q hq => by
        show q ≤ q34 ^ 0
        rw [Rat.pow_zero]
        exact (C.pos q hq).2⟩
  rcases h with ⟨ρ', e, cs', a, rfl, _, C', hk7, hd', hq⟩ | ⟨ρ', e, cs', a, rfl, hB⟩
  · exfalso
    have e30 : (0 + (rangeD 0 30).length) = 30 := by rw [range_len]; rfl
    rw [e30] at hk7
    omega
  · exact ⟨cs', a, by
      have := for_bk (it := rng1I (consA (valF (.int 30)) nilA)) (T := nameT 3) (F := lessS) (ρ := Ei g s m ls cs .un .un) (rs := []) (rngI_of (j := 30) rfl (by omega) (by omega)) e rfl
      exact this, hB⟩
theorem inside_at (g s : Int) (hm : 1 ≤ m ∧ m ≤ 6) (hls : ls.length ≤ 60) : ∃ (cs : List Rat) (g' s' : Int), f_law_inside [boxD g s, webD m ls] = some (false, chD cs, boxD g' s') ∧ Ch m cs ∧ fltL m (cAt cs) ls = none ∧ dprod cs ≤ 2 ^ 480 := by
  have hm' : 0 ≤ m ∧ m ≤ 6 := ⟨by omega, hm.2⟩
  obtain ⟨cs, g1, s1, ec, C, hd⟩ := drawn_chances_at (ls := ls) g s hm hls
  have s2 : setS 2 (callE (some 0) f_law_drawn_chances (consA (varF 0) (consA (varF 1) (nilA)))) [.ow true false (boxD g s), .fr (webD m ls), .un, .un, .un, .un] = some (.nx (Ei g1 s1 m ls cs .un .un)) :=
    set_nx (call_of (cons_of (r := .slot 0) rfl (cons_of (r := .val (webD m ls)) rfl rfl)) rfl ec rfl rfl) (by simp)
  obtain ⟨cs', a, e3, C', hd', hf⟩ := shrink_ok (g := g1) (s := s1) C hm' hls hd
  obtain ⟨t, g4, s4, et, t0, t1⟩ := take_at (p := true) (g := g1) (s := s1) (m := 2) (rest := [.fr (webD m ls), .fr (chD cs'), a, .un, .un]) (fa := valF (.int 2)) rfl (by omega) (by omega)
  have ct : ofV (bin2 (cmpV eqK) (callE (some 0) f_law_take (consA (varF 0) (consA (valF (.int 2)) (nilA)))) (valF (.int 0))) (Ei g1 s1 m ls cs' a .un) = some (decide (t = 0), Ei g4 s4 m ls cs' a .un) :=
    of_of (bin_of (r1 := .val (.int t)) (r2 := .val (.int 0)) et rfl rfl rfl (by simp [cmpV]))
  by_cases ht : t = 0
  · rw [decide_eq_true ht] at ct
    obtain ⟨h, g5, s5, eh, h0, h1⟩ := take_at (p := true) (g := g4) (s := s4) (m := m) (rest := [.fr (webD m ls), .fr (chD cs'), a, .un, .un]) (fa := bin2 ixD (varF 1) (valF (.int 0))) (bin_of (r1 := .val (webD m ls)) (r2 := .val (.int 0)) rfl rfl rfl rfl ix_web0) (by omega) (by omega)
    have s4' : setS 4 (callE (some 0) f_law_take (consA (varF 0) (consA (bin2 ixD (varF 1) (valF (.int 0))) (nilA)))) (Ei g4 s4 m ls cs' a .un) = some (.nx (Ei g5 s5 m ls cs' a (.fr (.int h)))) := set_nx eh (by simp)
    let b := brd m (cAt cs') ls h
    have O : Out0 m (cAt cs') ls h := none_out hf
    have b0 : 0 ≤ b := brd_nonneg O
    have b1 : b ≤ 1 := brd_le _ _ _ _
    have bb : Bt b (156 + 6 + (156 + 6)) := brd_bits fun l hl => C'.alt hm' hd' hl
    have hlen : cs'.length ≤ 100 := by have := C'.len; omega
    have bE : callE none f_law_border (consA (varF 1) (consA (varF 2) (consA (varF 4) (nilA)))) (Ei g5 s5 m ls cs' a (.fr (.int h))) = some (.val (frQ b), Ei g5 s5 m ls cs' a (.fr (.int h))) :=
      call_of (cons_of (r := .val (webD m ls)) rfl (cons_of (r := .val (chD cs')) rfl (cons_of (r := .val (.int h)) rfl rfl))) rfl (lborder_ok C' hm' hls) rfl rfl
    have s5' : setS 2 (bin2 addD (bin2 addD (slF (varF 2) none (some (varF 4))) (tupF (consA (callE none f_law_border (consA (varF 1) (consA (varF 2) (consA (varF 4) (nilA))))) (nilA)))) (slF (varF 2) (some (bin2 addD (varF 4) (valF (.int 1)))) none)) (Ei g5 s5 m ls cs' a (.fr (.int h))) = some (.nx (Ei g5 s5 m ls (turnC cs' h b) a (.fr (.int h)))) :=
      set_nx (turnC_of (i := 2) (j := 4) hlen rfl rfl h0 bE) rfl
    refine ⟨turnC cs' h b, g5, s5, fn_run (seq_nx s2 (seq_nx e3 (seq_nx (if_t ct (seq_nx s4' s5')) (ret_rt (r := .val (chD (turnC cs' h b))) rfl)))) rfl, C'.turn h0 h1 ⟨b0, b1⟩ ?_, brd_in (turn_same C' h0 h1 b) O (by rw [turn_here C' h0 h1]; exact b0) (by rw [turn_here C' h0 h1]; exact Rat.le_refl), ?_⟩
    · refine Nat.le_trans (Nat.mul_le_mul hd' bb.2) ?_
      rw [← Nat.pow_add]
      exact Nat.pow_le_pow_right (by omega) (by omega)
    · refine Nat.le_trans (dprod_turn cs' h0 b) (Nat.le_trans (Nat.mul_le_mul hd' bb.2) ?_)
      rw [← Nat.pow_add]
      exact Nat.pow_le_pow_right (by omega) (by omega)
  · rw [decide_eq_false ht] at ct
    exact ⟨cs', g4, s4, fn_run (seq_nx s2 (seq_nx e3 (seq_nx (if_f ct rfl) (ret_rt (r := .val (chD cs')) rfl)))) rfl, C', hf, Nat.le_trans hd' (Nat.pow_le_pow_right (by omega) (by omega))⟩
theorem inside_ok (g s : Int) (hm : 1 ≤ m ∧ m ≤ 6) (hls : ls.length ≤ 60) : ∃ (cs : List Rat) (g' s' : Int), f_law_inside [boxD g s, webD m ls] = some (false, chD cs, boxD g' s') ∧ Ch m cs ∧ fltL m (cAt cs) ls = none := by
  obtain ⟨cs, g', s', h, C, f, _⟩ := inside_at (ls := ls) g s hm hls
  exact ⟨cs, g', s', h, C, f⟩
end
end Mi

/-! for v in d.values(), the dict's keys tuples. -/
namespace Mi
open PySem PySem.Spec
open PyProof.Rows hiding St
open L2
/-- the values of the locked dict at d, its keys tuples -/
def Itdt (d : Addr) (o : Obj) (kvs : List (List Key × V)) : It :=
  ⟨fun i H => H d = some (.frz o (.dT kvs)) ∧ i < kvs.length, fun i H x H' => H' = H ∧ ∃ k, kvs[i]? = some (k, x), fun i H => H d = some (.frz o (.dT kvs)) ∧ kvs.length ≤ i⟩
section
variable {X : Cx} {pins : List (Addr × Obj)} {σ : St} {H : Hp} {s : Shared} {d : Addr} {o : Obj}
theorem frzTv {kvs : List (List Key × V)} (I : Inv X pins σ H s) (h : H d = some (.frz o (.dT kvs))) :
    (d == sysModules) = false ∧ ∃ (es : Array DictEntry) (ep : Nat), o.data = .dict es ep ∧ s.heap.DictRaw d es ep ∧ es.size = kvs.length ∧
      ∀ (i : Nat) (k : List Key) (v : V), kvs[i]? = some (k, v) → ∃ en : DictEntry, es[i]? = some en ∧ RelV v en.val := by
  obtain ⟨hd, z, hs, xs, pr, o', es, ep, ho, hx, hdt, he, _⟩ := I.hok d _ h
  rw [hd] at ho
  cases ho
  refine ⟨hs, es, ep, hdt, ⟨o, hd, hx, hdt⟩, ?_, fun i k v e => ?_⟩
  · have l1 : es.size = xs.length := size_of_entries he
    have l2 : kvs.length = xs.length := Paired.length pr
    omega
  · obtain ⟨b, hb, e1, e2, e3⟩ := paired_get pr e
    have q := entry_at he i
    rw [hb] at q
    exact ⟨_, q, e3⟩
end
theorem turn_valsT {P : Program} {w : World} {K : PySem.W.Frag} {tg : Expr} {d : Addr} {o : Obj} {es : Array DictEntry} {ep : Nat} {kvs : List (List Key × V)} (it : Addr) (hod : o.data = .dict es ep) (hl : es.size = kvs.length) : Turn P w K tg (Itdt d o kvs) [it] it (fun i h => h.IsValIter it d i es.size ep) where
  mem := by simp
  obj := fun i h st b hb => by
    have e : b = it := by simpa using hb
    subst e
    obtain ⟨oi, e, c, dd⟩ := st
    exact ⟨oi, e, fun v z => by rw [dd] at z; cases z⟩
  keep := fun i h h' st k => st.at fun oi e => k it (by simp) oi e
  item := by
    intro X hP hw hK hc i pins s σ H E I hf st hg
    subst hP hw hK
    obtain ⟨hd, hi⟩ := hg
    obtain ⟨f0, f1, f2, f3, f4, f5⟩ := hf it (by simp)
    obtain ⟨hs, es', ep', hdt, hraw, hsz, val⟩ := frzTv I hd
    obtain ⟨rfl, rfl⟩ := dict_ep hod hdt
    obtain ⟨⟨k, v⟩, hkv⟩ : ∃ p, kvs[i]? = some p := ⟨kvs[i], List.getElem?_eq_getElem hi⟩
    obtain ⟨en, hen, rv⟩ := val i k v hkv
    have hlt : i < es'.size := by omega
    have een : es'[i] = en := by
      rw [Array.getElem?_eq_getElem hlt] at hen
      exact Option.some.inj hen
    refine PySem.wpAny_pyNext_values_item_raw st hraw hlt fun h' st' sb => ?_
    rw [een]
    have I1 : Inv X pins σ H { s with heap := h' } := I.turned (t' := s.toks) (fun b ob hb e => (sb.2 b hb).trans e) f0 f1 f3 f4 f5
    obtain ⟨oi, e, c, dd⟩ := id st'
    exact ⟨en.val, rfl, go_of (s := { s with heap := h' }) e c dd (by decide) ⟨v, H, I1, rv, ⟨rfl, k, hkv⟩, st', fun b hb => (hf b hb).1⟩⟩
  done := by
    intro X hP hw hK hc i pins s σ H E I hf st hg
    subst hP hw hK
    obtain ⟨hd, hi⟩ := hg
    obtain ⟨f0, f1, f2, f3, f4, f5⟩ := hf it (by simp)
    obtain ⟨hs, es', ep', hdt, hraw, hsz, val⟩ := frzTv I hd
    obtain ⟨rfl, rfl⟩ := dict_ep hod hdt
    exact PySem.wpAny_pyNext_values_end_raw (I.ok.hd hc) st hraw (by omega) fun h' eb => ⟨rfl, I.turned (t' := s.toks) (fun b ob hb e => eb b ob hb e) f0 f1 f3 f4 f5⟩
  self := fun A i s Q E st h => wpAny_pyIter_valiter st h
/-- the values of a dict just made, locked from here on -/
def iValsF (td : TE) : TI := fun σ H R => td σ H fun x H1 => ∃ d kvs, x = .ref d ∧ H1 d = some (.dT kvs) ∧ ∀ od, R (Itdt d od kvs) (upd H1 d (.frz od (.dT kvs)))
section
variable {X : Cx} {tg e : Expr} {td : TE} {apos cpos : Pos}
theorem pi_valuesF (he : PE X e td) (hbase : attributeBase e "values" X.env (eval e X.env) = eval e X.env := by rfl) (hline : (apos.endLine == cpos.line) = true := by rfl) : PI X tg (.Call (.Attribute e "values" apos) [] [] cpos) (iValsF td) := by
  refine ⟨fun pins s σ H R I h => ?_⟩
  refine wpAny_Call_method (T := "dict") (id := "dict.values") hbase rfl hline PySem.F.plainAttrs_dict PySem.F.slot_dict_values PySem.F.type_dict_values (thn (he.run pins s σ H _ I h) fun u s1 ⟨x, H1, I1, rx, d, kvs, ex, hd, q⟩ => ?_)
  subst ex
  obtain rfl : u = Value.ref d := rx
  obtain ⟨o, IL⟩ := I1.lock hd trivial
  have q := q o
  obtain ⟨hs, es, ep, hdt, hraw, hsz, val⟩ := frzTv IL upd_same
  obtain ⟨o', ho', hex, hdt'⟩ := id hraw
  refine ⟨hraw.typeIs, fun b q => by cases q; exact ⟨o', ho', hex.2.1⟩, ?_⟩
  have I2 : Inv X pins σ (upd H1 d (.frz o (.dT kvs))) { s1 with heap := s1.heap.push { cls := .type "dict_values", data := .fields #[.ref d] } } := IL.kept (t' := s1.toks) fun b ob q => Heap.get?_push_of_some _ q
  have fin : wpAny (model X.prog X.w) X.A (pyIter (.ref s1.heap.objs.size)) (PIE X pins σ tg R) X.xe { s1 with heap := s1.heap.push { cls := .type "dict_values", data := .fields #[.ref d] } } := by
    refine PySem.wpAny_pyIter_values_raw (d := d) ⟨_, Heap.get?_push_size _ rfl, rfl, rfl⟩ (hraw.at fun ob q => Heap.get?_push_of_some _ q) (pi_one (tk := s1.toks) I2 _ (turn_valsT _ hdt hsz) ⟨_, Heap.get?_push_size _ rfl, rfl, ?_⟩ q)
    rfl
  show wpAny _ _ (callWith cpos (.builtin "dict.values") [.ref d] [] []) _ X.xe s1
  exact method_meetsIn PySem.F.slot_dict_values PySem.F.entry_dict_values rfl (PySem.evalArgs_none ⟨rfl, hraw.typeIs, PySem.F.args_dict_values_1 _, _, PySem.meets_dict_values_raw d hs, ⟨es, ep, hraw⟩, fin⟩)
end
/-- over the values of a dict just made -/
def valsI (f : SE) : SI := fun ρ => match f ρ with
  | some (.new (.dic true kvs), ρ') => some ([], kvs.map (·.2), ρ')
  | _ => none
theorem RepT.getV {K : PySem.W.Frag} {H : Hp} {A : Addr → Prop} : ∀ {vs : List (List Key × V)} {ds : List (D × D)} {i : Nat} {k : List Key} {x : V}, RepT K H A vs ds → vs[i]? = some (k, x) → ∃ d, (ds.map (·.2))[i]? = some d ∧ Rep K H A x d
  | _, _, i, _, _, .nil, e => by simp at e
  | _, _, 0, _, _, .cons (d := d) r _, e => by
    simp at e
    obtain ⟨_, rfl⟩ := e
    exact ⟨d, rfl, r⟩
  | _, _, i + 1, _, _, .cons _ w, e => by
    obtain ⟨d, h1, h2⟩ := RepT.getV (i := i) w (by simpa using e)
    exact ⟨d, by simpa using h1, h2⟩
theorem walk_valuesT {d : Addr} {o : Obj} {kvs : List (List Key × V)} : Walk (Itdt d o kvs) kvs.length (fun H => H d = some (.frz o (.dT kvs))) (fun i H x H' => H' = H ∧ ∃ k, kvs[i]? = some (k, x)) :=
  ⟨fun _ _ hi q => ⟨q, hi⟩, fun _ q => ⟨q, Nat.le_refl _⟩, fun _ _ _ _ _ _ y => y⟩
theorem Ix.valsT {X : Cx} {tg e : Expr} {f : SE} {apos cpos : Pos} (he : Ex X e f) (hbase : attributeBase e "values" X.env (eval e X.env) = eval e X.env := by rfl) (hline : (apos.endLine == cpos.line) = true := by rfl) : Ix X tg (.Call (.Attribute e "values" apos) [] [] cpos) (valsI f) :=
  PI.imp (pi_valuesF he hbase hline) fun σ H Q ⟨G, ρ, rs, ds, ρ', R, hf, hQ⟩ => by
    unfold valsI at hf
    split at hf
    · rename_i kvs ρ1 e1
      cases hf
      refine ⟨G, ρ, .new (.dic true kvs), ρ', R, e1, fun v H' P => ?_⟩
      obtain ⟨S, p, rfl, hp, R1, O⟩ := P
      cases O with
      | dt hd w =>
        rename_i vs
        refine ⟨p, vs, rfl, hd, fun od => ?_⟩
        have nO : ¬ Owned ρ σ p := fun z => by
          obtain ⟨o, e, _⟩ := R.owned z
          rw [hp] at e; cases e
        have hno : ∀ (i : Nat) (q l : Bool) (d : D), ρ'[i]? = some (.ow q l d) → σ[i]? ≠ some (some (.ref p)) := fun i q l d e1 e2 => by
          obtain ⟨d0, e0⟩ := S.sk.wo e1
          exact nO ⟨i, q, l, d0, e0, e2⟩
        have R3 := (R1.updO (o := .frz od (.dT vs)) hno hd rfl).drop
        have S3 : Step ρ σ H ρ' (upd H' p (.frz od (.dT vs))) := ⟨S.sk, fun b' o eb n => by
          have hb' : b' ≠ p := fun z => by rw [z, hp] at eb; cases eb
          rw [upd_ne hb']
          exact S.keep b' o eb n⟩
        refine hQ _ _ S3 R3 ⟨fun H1 => H1 p = some (.frz od (.dT vs)), fun i H x H' => H' = H ∧ ∃ k, vs[i]? = some (k, x), by rw [List.length_map, ← w.length]; exact walk_valuesT, fun H1 k => k _ _ upd_same fun z => ?_, fun i H1 x H2 d A ed y _ g => ?_⟩
        · obtain ⟨i, q, l, d, e1, e2⟩ := (show Wr ρ' σ p from z).owned
          exact hno i q l d e1 e2
        · obtain ⟨rfl, k, hk⟩ := y
          refine ⟨fun _ _ e => e, ?_⟩
          obtain ⟨d', h1, h2⟩ := w.getV hk
          rw [ed] at h1
          cases h1
          have g1 : Goes H' (upd H' p (.frz od (.dT vs))) (Av (G.add p) ρ' σ) (Av G ρ' σ) := by
            refine ⟨fun b o e t => ?_, fun b o e n => ?_, fun b z _ => z.elim (fun q => .inl (.inl q)) .inr⟩
            · have hb : b ≠ p := fun z => by rw [z, hd] at e; cases e; cases t
              rw [upd_ne hb]; exact e
            · have hb : b ≠ p := fun z => n (.inl (.inr z))
              rw [upd_ne hb]; exact e
          exact (h2.go g1).go g
    · cases hf
end Mi

/-! Open chances. -/
namespace Mi
open PySem PySem.Spec
open PyProof.Rows hiding St
open L2
/-- chances, however they are laid -/
structure Cd (m : Int) (cs : List Rat) (dc : D) (dd : Int → D) : Prop where
  ix : ∀ h, 0 ≤ h → h < m → ixD dc (.int h) = some (.val (dd h)) ∧ Fq (dd h) (cAt cs h)
abbrev Eg (m : Int) (ls : List (List Int)) (cs : List Rat) (dc : D) (L : List (List Int)) (a4 a5 a6 : Slot) : En := [.fr (webD m ls), .fr dc, .ow false false (.lst ((irange 0 m).map fun h => lotD (nearL m ls h))), .ow false false (.dic true (pairs (sumD (cAt cs) ls) L)), a4, a5, a6]
section
variable {m h : Int} {ls : List (List Int)} {cs : List Rat}
theorem Ch.cd (C : Ch m cs) : Cd m cs (chD cs) (fun h => frQ (cAt cs h)) := ⟨fun h h0 h1 => ⟨C.ix h0 h1, Fq.fr _⟩⟩
theorem sums_gen (C : Ch m cs) {dc : D} {dd : Int → D} (K : Cd m cs dc dd) (hm : 0 ≤ m ∧ m ≤ 6) (hls : ls.length ≤ 60) : f_sums_within [webD m ls, dc] = some (true, .dic true (pairs (sumD (cAt cs) ls) (allLots m)), .non) := by
  let E0 : En := [.fr (webD m ls), .fr (dc), .un, .un, .un, .un, .un]
  have cn : compE [5] (rng1I (consA (bin2 ixD (varF 0) (valF (.int 0))) (nilA))) (nameT 5) (yesT) (callE none f_touching (consA (varF 0) (consA (varF 5) (nilA)))) E0 = some (.new (.lst ((irange 0 m).map fun h => lotD (nearL m ls h))), E0) :=
    compE_map (ρ1 := E0) (ρb := E0) (rs := []) (xs := irange 0 m) D.int (fun h => lotD (nearL m ls h)) (rng_web (f := varF 0) rfl hm.1 (by omega)) rfl (by rw [irange_len]; omega) (fun h _ => ⟨[.fr (webD m ls), .fr (dc), .un, .un, .un, .fr (.int h), .un], _, [.fr (webD m ls), .fr (dc), .un, .un, .un, .fr (.int h), .un], rfl,
      call_of (cons_of (r := .val (webD m ls)) rfl (cons_of (r := .val (.int h)) rfl rfl)) rfl (touching_ok m h ls ⟨hm.1, by omega⟩ hls) rfl rfl, rfl, rfl⟩)
  have s0 : parS [2, 3] (consA (compE [5] (rng1I (consA (bin2 ixD (varF 0) (valF (.int 0))) (nilA))) (nameT 5) (yesT) (callE none f_touching (consA (varF 0) (consA (varF 5) (nilA))))) (consA (disp1 (tupF (nilA)) (valF (.kt [.int 1, .int 1]))) (nilA))) E0 = some (.nx (Eg m ls cs dc [[]] .un .un .un)) :=
    par_of (cons_of cn (cons_of (r := .new (.dic true [(lotD [], oneK)])) rfl rfl)) rfl
  have hit : seqI (slF (callE none f_lots_of (consA (bin2 ixD (varF 0) (valF (.int 0))) (nilA))) (some (valF (.int 1))) none) (Eg m ls cs dc [[]] .un .un .un) = some ([.val (lotsD ((allLots m).drop 1))], ((allLots m).drop 1).map lotD, Eg m ls cs dc [[]] .un .un .un) := by
    refine seq_lots ?_
    have c := call_of (io := none) (F := f_lots_of) (Fa := consA (bin2 ixD (varF 0) (valF (.int 0))) nilA) (ρ := Eg m ls cs dc [[]] .un .un .un) (cons_of (bin_of (r1 := .val (webD m ls)) (r2 := .val (.int 0)) rfl rfl rfl rfl ix_web0) rfl) rfl (lots_of_ok m hm) rfl rfl
    unfold slF
    rw [c]
    show some (Opd.val (.tup (cutL ((bySize (grow (irange 0 m))).map lotD) (some 1) none)), _) = _
    have : cutL ((bySize (grow (irange 0 m))).map lotD) (some 1) none = ((allLots m).drop 1).map lotD := by
      rw [cut_from _ (by decide), List.map_drop]
      rfl
    rw [this]
    rfl
  have hlen := allLots_len hm
  obtain ⟨ρ', e, a4, a5, a6, rfl, _⟩ := loopS_inv (T := nameT 4) (F := seqS (setS 5 (bin2 ixD (varF 4) (valF (.int 0))))
    (seqS (setS 6 (callE none f_times (consA (bin2 ixD (varF 1) (varF 5)) (consA (bin2 ixD (varF 3) (callE none f_without (consA (varF 4) (consA (bin2 ixD (varF 2) (varF 5)) (nilA))))) (nilA)))))
    (itemDS 3 (varF 4) (callE none f_minus (consA (bin2 ixD (varF 3) (slF (varF 4) (some (valF (.int 1))) none)) (consA (varF 6) (nilA)))))))
    (fun j ρ => ∃ a4 a5 a6, ρ = Eg m ls cs dc ((allLots m).take (j + 1)) a4 a5 a6 ∧ frq a4 = true ∧ frq a5 = true ∧ frq a6 = true) (((allLots m).drop 1).map lotD) 0 (Eg m ls cs dc [[]] .un .un .un) (fun j d hd ρ ⟨a4, a5, a6, hρ, f4, f5, f6⟩ => by
      subst hρ
      rw [List.getElem?_map, List.getElem?_drop] at hd
      rw [Nat.zero_add]
      cases q : (allLots m)[1 + j]? with
      | none => rw [q] at hd; cases hd
      | some lot =>
        rw [q] at hd
        cases hd
        rw [Nat.add_comm] at q
        obtain ⟨hne, hnew⟩ := allLots_later q
        have hsub : lot.Sublist (irange 0 m) := allLots_mem.mp (List.mem_of_getElem? q)
        have L := Lt.of hm hsub
        have et : (allLots m).take (j + 1 + 1) = (allLots m).take (j + 1) ++ [lot] := by rw [List.take_add_one, q]; rfl
        cases lot with
        | nil => exact absurd rfl hne
        | cons h t =>
        have hh := L.mem h List.mem_cons_self
        have Lt_ : Lt m t := L.sub (List.sublist_cons_self _ _)
        have inF : (t.filter fun x => !tch ls h x) ∈ (allLots m).take (j + 1) := ahead q ((List.filter_sublist.trans (List.sublist_cons_self _ _)).trans hsub) (by
          have := List.length_filter_le (fun x => !tch ls h x) t
          rw [List.length_cons]
          omega)
        have inT : t ∈ (allLots m).take (j + 1) := ahead q ((List.sublist_cons_self _ _).trans hsub) (by simp)
        have hz : ((allLots m).take (j + 1)).length ≤ 64 := by rw [List.length_take]; omega
        rw [et]
        generalize (allLots m).take (j + 1) = P at *
        let ρ1 : En := Eg m ls cs dc P (.fr (lotD (h :: t))) (.fr (.int h)) a6
        have s5 : setS 5 (bin2 ixD (varF 4) (valF (.int 0))) (Eg m ls cs dc P (.fr (lotD (h :: t))) a5 a6) = some (.nx ρ1) := set_nx (bin_of (r1 := .val (lotD (h :: t))) (r2 := .val (.int 0)) rfl rfl rfl rfl (ix_first h t)) (by simp [frq_free f5, ρ1])
        have w : callE none f_without (consA (varF 4) (consA (bin2 ixD (varF 2) (varF 5)) (nilA))) ρ1 = some (.val (lotD (t.filter fun x => !tch ls h x)), ρ1) := by
          have e := without_ok (l := h :: t) (k := nearL m ls h) (by have := L.few; omega)
          rw [without_near L.mem, List.filter_cons_of_neg (by rw [tch_self]; decide)] at e
          have hat : ixD (.lst ((irange 0 m).map fun h => lotD (nearL m ls h))) (.int h) = some (.val (lotD (nearL m ls h))) := by
            obtain ⟨n, hn⟩ := Int.eq_ofNat_of_zero_le hh.1
            subst hn
            have : (irange 0 m)[n]? = some (n : Int) := by
              unfold irange
              rw [List.getElem?_map, List.getElem?_range (by omega)]
              simp
            simp [ixD, atI_nat, this]
          exact call_of (cons_of (r := .val (lotD (h :: t))) rfl (cons_of (bin_of (r1 := .slot 2) (r2 := .val (.int h)) rfl rfl rfl rfl hat) rfl)) rfl e rfl rfl
        have b1 := C.bit h hh.1 hh.2
        have bf : ∀ k : List Int, Lt m k → Bt (altS (cAt cs) ls k) 1506 := fun k hk => C.balt hk.rng hk.few
        have bF := bf (t.filter fun x => !tch ls h x) (Lt_.sub List.filter_sublist)
        have s6 : setS 6 (callE none f_times (consA (bin2 ixD (varF 1) (varF 5)) (consA (bin2 ixD (varF 3) (callE none f_without (consA (varF 4) (consA (bin2 ixD (varF 2) (varF 5)) (nilA))))) (nilA)))) ρ1 = some (.nx (Eg m ls cs dc P (.fr (lotD (h :: t))) (.fr (.int h)) (.fr (frQ (cAt cs h * altS (cAt cs) ls (t.filter fun x => !tch ls h x)))))) :=
          set_nx (call_of (cons_of (bin_of (r1 := .val (dc)) (r2 := .val (.int h)) rfl rfl rfl rfl ((K.ix h hh.1 hh.2).1)) (cons_of (bin_of (r1 := .slot 3) (r2 := .val (lotD (t.filter fun x => !tch ls h x))) rfl w rfl rfl (ix_pairs inF)) rfl)) rfl (times_ok (K.ix h hh.1 hh.2).2 (sumD_fq _ _ _) b1 bF (by omega)) rfl rfl) (by simp [frq_free f6, ρ1])
        have sl : slF (varF 4) (some (valF (.int 1))) none (Eg m ls cs dc P (.fr (lotD (h :: t))) (.fr (.int h)) (.fr (frQ (cAt cs h * altS (cAt cs) ls (t.filter fun x => !tch ls h x))))) = some (.val (lotD t), Eg m ls cs dc P (.fr (lotD (h :: t))) (.fr (.int h)) (.fr (frQ (cAt cs h * altS (cAt cs) ls (t.filter fun x => !tch ls h x))))) := by
          show some (Opd.val (.tup (cutL ((h :: t).map .int) (some 1) none)), _) = _
          have : cutL ((h :: t).map D.int) (some 1) none = t.map .int := cut_from _ (by decide)
          rw [this]
          rfl
        have mi : callE none f_minus (consA (bin2 ixD (varF 3) (slF (varF 4) (some (valF (.int 1))) none)) (consA (varF 6) (nilA))) (Eg m ls cs dc P (.fr (lotD (h :: t))) (.fr (.int h)) (.fr (frQ (cAt cs h * altS (cAt cs) ls (t.filter fun x => !tch ls h x))))) = some (.val (sumD (cAt cs) ls (h :: t)), Eg m ls cs dc P (.fr (lotD (h :: t))) (.fr (.int h)) (.fr (frQ (cAt cs h * altS (cAt cs) ls (t.filter fun x => !tch ls h x))))) := by
          have e := minus_ok (sumD_fq (cAt cs) ls t) (Fq.fr (cAt cs h * altS (cAt cs) ls (t.filter fun x => !tch ls h x))) (bf t Lt_) (b1.mul bF) (by omega)
          rw [← altS_cons L.asc] at e
          have e2 : sumD (cAt cs) ls (h :: t) = frQ (altS (cAt cs) ls (h :: t)) := by simp [sumD]
          rw [e2]
          exact call_of (cons_of (bin_of (r1 := .slot 3) (r2 := .val (lotD t)) rfl sl rfl rfl (ix_pairs inT)) (cons_of (r := .val (frQ (cAt cs h * altS (cAt cs) ls (t.filter fun x => !tch ls h x)))) rfl rfl)) rfl e rfl rfl
        have hz2 : (pairs (sumD (cAt cs) ls) P).length < 16000000 := by simp only [pairs, List.length_map]; omega
        have fin := itemD_of (s := 3) (fi := varF 4) (ri := .val (lotD (h :: t))) mi rfl rfl rfl rfl rfl (isKey_lot (h :: t)) hz2
        rw [put_pairs _ hnew] at fin
        exact ⟨Eg m ls cs dc P (.fr (lotD (h :: t))) a5 a6, Eg m ls cs dc (P ++ [h :: t]) (.fr (lotD (h :: t))) (.fr (.int h)) (.fr (frQ (cAt cs h * altS (cAt cs) ls (t.filter fun x => !tch ls h x)))), by simp [frq_free f4], .inl (seq_nx s5 (seq_nx s6 fin)), _, _, _, rfl, rfl, rfl, rfl⟩) ⟨.un, .un, .un, by
          have : (allLots m).take 1 = [[]] := by rw [List.take_add_one, allLots_first]; rfl
          rw [this], rfl, rfl, rfl⟩
  have ee : (allLots m).take (0 + (((allLots m).drop 1).map lotD).length + 1) = allLots m := List.take_of_length_le (by simp; omega)
  rw [ee] at e
  exact fn_run (seq_nx s0 (seq_nx (for_nx hit e rfl) (ret_rt (r := .slot 3) rfl))) rfl

/-! ### plain -/
def openB (m : Int) (c : Int → Rat) (ls : List (List Int)) : Bool := (allLots m).all fun l => decide (0 < altS c ls l)
theorem open_iff {c : Int → Rat} : openB m c ls = true ↔ ∀ l, l ∈ allLots m → 0 < altS c ls l := by
  unfold openB
  rw [List.all_eq_true]
  simp
/-- chances of the region, made less by a part one hand after another -/
theorem shrunk_open {c : Int → Rat} {r : Rat} (hm : 0 ≤ m ∧ m ≤ 6) (hr : 0 ≤ r ∧ r < 1) (hz : fltL m c ls = none) : ∀ k : Nat, (k : Int) ≤ m →
    (∀ l, l ∈ allLots m → 0 ≤ altS (fun x => if x < (k : Int) then c x * r else c x) ls l) ∧ ∀ l, l ∈ allLots m → (∀ x ∈ l, x < (k : Int)) → 0 < altS (fun x => if x < (k : Int) then c x * r else c x) ls l
  | 0, _ => by
    have e : ∀ l, l ∈ allLots m → altS (fun x => if x < ((0 : Nat) : Int) then c x * r else c x) ls l = altS c ls l := fun l hl => altS_congr fun x hx => by
      have := mem_ints.mp ((allLots_mem.mp hl).subset hx)
      rw [if_neg (by omega)]
    refine ⟨fun l hl => by rw [e l hl]; exact flt_none.mp hz l hl, fun l hl hx => ?_⟩
    cases l with
    | nil => rw [altS_nil]; decide
    | cons a t =>
      have := mem_ints.mp ((allLots_mem.mp hl).subset List.mem_cons_self)
      have := hx a List.mem_cons_self
      omega
  | k + 1, hk => by
    obtain ⟨i1, i2⟩ := shrunk_open hm hr hz k (by omega)
    have S : Same (k : Int) m (fun x => if x < (k : Int) then c x * r else c x) (fun x => if x < ((k + 1 : Nat) : Int) then c x * r else c x) := fun x _ _ hne => by
      show (if x < ((k + 1 : Nat) : Int) then c x * r else c x) = if x < (k : Int) then c x * r else c x
      by_cases h : x < (k : Int)
      · rw [if_pos h, if_pos (by omega)]
      · rw [if_neg h, if_neg (by omega)]
    have out : ∀ l, l ∈ allLots m → (k : Int) ∉ l → altS (fun x => if x < ((k + 1 : Nat) : Int) then c x * r else c x) ls l = altS (fun x => if x < (k : Int) then c x * r else c x) ls l := fun l hl hh => same_out S (allLots_mem.mp hl) hh
    have inn : ∀ l, l ∈ allLots m → (k : Int) ∈ l → altS (fun x => if x < ((k + 1 : Nat) : Int) then c x * r else c x) ls l = r * altS (fun x => if x < (k : Int) then c x * r else c x) ls l + (1 - r) * altS (fun x => if x < (k : Int) then c x * r else c x) ls (less1 (k : Int) l) := fun l hl hh => by
      have hs := allLots_mem.mp hl
      rw [same_in S hs hh]
      have q := altS_by (c := fun x => if x < (k : Int) then c x * r else c x) (ls := ls) ((irange_pw 0 m).sublist hs) hh
      rw [q]
      simp only [if_neg (show ¬ (k : Int) < (k : Int) by omega), if_pos (show (k : Int) < ((k + 1 : Nat) : Int) by omega)]
      unfold aloneS farS
      grind
    have hr1 : 0 < 1 - r := by grind
    refine ⟨fun l hl => ?_, fun l hl hx => ?_⟩
    · by_cases hh : (k : Int) ∈ l
      · rw [inn l hl hh]
        have a := Rat.mul_nonneg hr.1 (i1 l hl)
        have b := Rat.mul_nonneg (Rat.le_of_lt hr1) (i1 _ (allLots_mem.mpr (less1_sub (h := (k : Int)) (allLots_mem.mp hl))))
        grind
      · rw [out l hl hh]
        exact i1 l hl
    · by_cases hh : (k : Int) ∈ l
      · rw [inn l hl hh]
        have a := Rat.mul_nonneg hr.1 (i1 l hl)
        have b := Rat.mul_pos hr1 (i2 _ (allLots_mem.mpr (less1_sub (h := (k : Int)) (allLots_mem.mp hl))) fun x hx' => by
          obtain ⟨y1, y2⟩ := not_less1 x hx'
          have := hx x y1
          omega)
        grind
      · rw [out l hl hh]
        exact i2 l hl fun x hx' => by
          have h1 := hx x hx'
          have h2 : x ≠ (k : Int) := fun z => hh (z ▸ hx')
          omega
theorem less_open {c c' : Int → Rat} {r : Rat} (hm : 0 ≤ m ∧ m ≤ 6) (hr : 0 ≤ r ∧ r < 1) (hz : fltL m c ls = none) (hc : ∀ x, 0 ≤ x → x < m → c' x = c x * r) : openB m c' ls = true := by
  refine open_iff.mpr fun l hl => ?_
  have hs := allLots_mem.mp hl
  have := (shrunk_open hm hr hz m.toNat (by omega)).2 l hl fun x hx => by have := mem_ints.mp (hs.subset hx); omega
  rw [altS_congr (c' := fun x => if x < ((m.toNat : Nat) : Int) then c x * r else c x) fun x hx => by
    have q := mem_ints.mp (hs.subset hx)
    rw [if_pos (by omega)]
    exact hc x q.1 q.2]
  exact this
/-- on the border -/
theorem border_closed {c c' : Int → Rat} (E : Same h m c c') (h0 : 0 ≤ h) (h1 : h < m) (hb : c' h = brd m c ls h) : openB m c' ls = false := by
  cases q : openB m c' ls with
  | false => rfl
  | true =>
    exfalso
    have ho := open_iff.mp q
    rcases brd_eq m c ls h with e | ⟨l, hl, hh, hf, e⟩
    · have hs : [h].Sublist (irange 0 m) := List.singleton_sublist.mpr (mem_ints.mpr ⟨h0, h1⟩)
      have := ho [h] (allLots_mem.mpr hs)
      rw [same_in E hs List.mem_cons_self, hb, e] at this
      have e1 : less1 h [h] = [] := by simp [less1]
      have e2 : far1 ls h [h] = [] := by simp [far1, tch_self]
      unfold aloneS farS at this
      rw [e1, e2, altS_nil] at this
      exact absurd this (by decide +kernel)
    · have := ho l hl
      rw [same_in E (allLots_mem.mp hl) hh, hb, ← e] at this
      grind
end
end Mi

namespace Mi
open PySem PySem.Spec
open PyProof.Rows hiding St
open L2
namespace K29
def topS (i : Nat) : Stmt := PySem.Challenge.pw_thingsapart_k29_whole_open_ones.main.body.getD i (.Pass ⟨0, 0, 0, 0⟩)
structure Blts (mg : Str → Option Value) : Prop where
  abs : mg "abs" = none
  all : mg "all" = none
  any : mg "any" = none
  bool : mg "bool" = none
  enumerate : mg "enumerate" = none
  int : mg "int" = none
  isinstance : mg "isinstance" = none
  len : mg "len" = none
  list : mg "list" = none
  max : mg "max" = none
  min : mg "min" = none
  range : mg "range" = none
  set : mg "set" = none
  sorted : mg "sorted" = none
  str : mg "str" = none
  tuple : mg "tuple" = none
  zip : mg "zip" = none

/-! common_divisor -/
theorem sc_common_divisor : FnScope ["one", "other"] ["one", "other"] (defScope (topS 4)) := ⟨rfl, rfl, rfl, by decide +kernel, rfl, by decide +kernel, by decide +kernel⟩
abbrev Ok_common_divisor (P : Program) (w : World) (K : PySem.W.Frag) (mg : Str → Option Value) (base : Heap) : Prop := DefOk P w K mg base 1 "common_divisor" "common_divisor" (topS 4) ["one", "other"] none f_common_divisor
theorem ok_common_divisor {P : Program} {w : World} {K : PySem.W.Frag} {mg : Str → Option Value} {base : Heap} (M : Blts mg) (h : Here K mg "common_divisor" "common_divisor" (topS 4)) : Ok_common_divisor P w K mg base :=
  def_ok h sc_common_divisor fun f0 cdv0 A0 outer0 s00 H00 E0 hr =>
    (Sxs.cons (Sx.while_ n_common_divisor_1 PassesOwn.never (Ts.cmp (ck_ne hr.units) (Ex.var 1) (Ex.int)) (Sxs.one (Sx.par2 (i := 0) (j := 1) rfl sc_common_divisor.nd rfl rfl (by decide) rfl rfl (Ar.cons (Ex.var 1) (Ar.cons (Ex.mod (Ex.var 0) (Ex.var 1)) (Ar.nil))))))
    (Sxs.one (Sx.ret (Ex.var 0))))

/-! touches -/
theorem sc_touches : FnScope ["web", "one", "two", "lot"] ["web", "one", "two"] (defScope (topS 6)) := ⟨rfl, rfl, rfl, by decide +kernel, rfl, by decide +kernel, by decide +kernel⟩
abbrev Ok_touches (P : Program) (w : World) (K : PySem.W.Frag) (mg : Str → Option Value) (base : Heap) : Prop := DefOk P w K mg base 1 "touches" "touches" (topS 6) ["web", "one", "two"] none f_touches
theorem ok_touches {P : Program} {w : World} {K : PySem.W.Frag} {mg : Str → Option Value} {base : Heap} (M : Blts mg) (h : Here K mg "touches" "touches" (topS 6)) : Ok_touches P w K mg base :=
  def_ok h sc_touches fun f0 cdv0 A0 outer0 s00 H00 E0 hr =>
    (Sxs.one (Sx.ret (Ex.or (Ex.cmp (ck_eq hr.units) (Ex.var 1) (Ex.var 2)) (Ex.one (Ex.any rfl M.any (Ar.cons (Ex.comp (own := [("lot", 3)]) (is := [3]) rfl sc_touches.nd (blkOk_by (by kernel_rfl)) (by decide) (by decide) (TOk.name 3) (Ix.seq (Ex.ix (hu_of hr) (Ex.var 0) (Ex.int))) (fun Y hY => by obtain ⟨s0, H0, C0, cl0, fp0, rfl⟩ := hY; exact ⟨Tg.name (i := 3) sc_touches.nd rfl (by first | exact .inl rfl | exact .inr rfl), Tts.nil, Ex.and (Ex.cmp (ck_in (u65 hr)) (Ex.var 1) (Ex.var 3)) (Ex.one (Ex.cmp (ck_in (u65 hr)) (Ex.var 2) (Ex.var 3)))⟩)) (Ar.nil)))))))

/-! touching -/
theorem sc_touching : FnScope ["web", "hand", "other"] ["web", "hand"] (defScope (topS 7)) := ⟨rfl, rfl, rfl, by decide +kernel, rfl, by decide +kernel, by decide +kernel⟩
abbrev Ok_touching (P : Program) (w : World) (K : PySem.W.Frag) (mg : Str → Option Value) (base : Heap) : Prop := DefOk P w K mg base 2 "touching" "touching" (topS 7) ["web", "hand"] none f_touching
theorem ok_touching {P : Program} {w : World} {K : PySem.W.Frag} {mg : Str → Option Value} {base : Heap} (M : Blts mg) (h : Here K mg "touching" "touching" (topS 7)) (d_touches : Ok_touches P w K mg base) : Ok_touching P w K mg base :=
  def_ok h sc_touching fun f0 cdv0 A0 outer0 s00 H00 E0 hr =>
    (Sxs.one (Sx.ret (Ex.toTup M.tuple (Ar.cons (Ex.comp (own := [("other", 2)]) (is := [2]) rfl sc_touching.nd (blkOk_by (by kernel_rfl)) (by decide) (by decide) (TOk.name 2) (Ix.range1 M.range (Ar.cons (Ex.ix (hu_of hr) (Ex.var 0) (Ex.int)) (Ar.nil))) (fun Y hY => by obtain ⟨s0, H0, C0, cl0, fp0, rfl⟩ := hY; exact ⟨Tg.name (i := 2) sc_touching.nd rfl (by first | exact .inl rfl | exact .inr rfl), Tts.one (Ts.truth (Ex.callD d_touches hr (by decide) (Ar.cons (Ex.var 0) (Ar.cons (Ex.var 1) (Ar.cons (Ex.var 2) (Ar.nil)))) (fun _ _ _ _ _ _ us hl => match us, hl with | [_, _, _], _ => rfl))), Ex.var 2⟩)) (Ar.nil)))))

/-! lowest -/
theorem sc_lowest : FnScope ["top", "bottom", "common"] ["top", "bottom"] (defScope (topS 11)) := ⟨rfl, rfl, rfl, by decide +kernel, rfl, by decide +kernel, by decide +kernel⟩
abbrev Ok_lowest (P : Program) (w : World) (K : PySem.W.Frag) (mg : Str → Option Value) (base : Heap) : Prop := DefOk P w K mg base 2 "lowest" "lowest" (topS 11) ["top", "bottom"] none f_lowest
theorem ok_lowest {P : Program} {w : World} {K : PySem.W.Frag} {mg : Str → Option Value} {base : Heap} (M : Blts mg) (h : Here K mg "lowest" "lowest" (topS 11)) (d_common_divisor : Ok_common_divisor P w K mg base) : Ok_lowest P w K mg base :=
  def_ok h sc_lowest fun f0 cdv0 A0 outer0 s00 H00 E0 hr =>
    (Sxs.cons (Sx.if_ (Ts.cmp (ck_eq hr.units) (Ex.var 1) (Ex.int)) (Sxs.one (Sx.never)) (Sxs.nil))
    (Sxs.cons (Sx.set (i := 2) sc_lowest.nd rfl (by first | exact .inl rfl | exact .inr rfl) (Ex.callD d_common_divisor hr (by decide) (Ar.cons (Ex.abs M.abs (Ar.cons (Ex.var 0) (Ar.nil))) (Ar.cons (Ex.abs M.abs (Ar.cons (Ex.var 1) (Ar.nil))) (Ar.nil))) (fun _ _ _ _ _ _ us hl => match us, hl with | [_, _], _ => rfl)))
    (Sxs.cons (Sx.if_ (Ts.cmp (ck_lt hr.units) (Ex.var 1) (Ex.int)) (Sxs.one (Sx.set (i := 2) sc_lowest.nd rfl (by first | exact .inl rfl | exact .inr rfl) (Ex.sub (Ex.int) (Ex.var 2)))) (Sxs.nil))
    (Sxs.one (Sx.ret (Ex.tup (Ar.cons (Ex.fdiv (Ex.var 0) (Ex.var 2)) (Ar.cons (Ex.fdiv (Ex.var 1) (Ex.var 2)) (Ar.nil)))))))))

/-! minus -/
theorem sc_minus : FnScope ["one", "two"] ["one", "two"] (defScope (topS 12)) := ⟨rfl, rfl, rfl, by decide +kernel, rfl, by decide +kernel, by decide +kernel⟩
abbrev Ok_minus (P : Program) (w : World) (K : PySem.W.Frag) (mg : Str → Option Value) (base : Heap) : Prop := DefOk P w K mg base 3 "minus" "minus" (topS 12) ["one", "two"] none f_minus
theorem ok_minus {P : Program} {w : World} {K : PySem.W.Frag} {mg : Str → Option Value} {base : Heap} (M : Blts mg) (h : Here K mg "minus" "minus" (topS 12)) (d_lowest : Ok_lowest P w K mg base) : Ok_minus P w K mg base :=
  def_ok h sc_minus fun f0 cdv0 A0 outer0 s00 H00 E0 hr =>
    (Sxs.one (Sx.ret (Ex.callD d_lowest hr (by decide) (Ar.cons (Ex.sub (Ex.mul (Ex.ix (hu_of hr) (Ex.var 0) (Ex.int)) (Ex.ix (hu_of hr) (Ex.var 1) (Ex.int))) (Ex.mul (Ex.ix (hu_of hr) (Ex.var 1) (Ex.int)) (Ex.ix (hu_of hr) (Ex.var 0) (Ex.int)))) (Ar.cons (Ex.mul (Ex.ix (hu_of hr) (Ex.var 0) (Ex.int)) (Ex.ix (hu_of hr) (Ex.var 1) (Ex.int))) (Ar.nil))) (fun _ _ _ _ _ _ us hl => match us, hl with | [_, _], _ => rfl))))

/-! times -/
theorem sc_times : FnScope ["one", "two"] ["one", "two"] (defScope (topS 13)) := ⟨rfl, rfl, rfl, by decide +kernel, rfl, by decide +kernel, by decide +kernel⟩
abbrev Ok_times (P : Program) (w : World) (K : PySem.W.Frag) (mg : Str → Option Value) (base : Heap) : Prop := DefOk P w K mg base 3 "times" "times" (topS 13) ["one", "two"] none f_times
theorem ok_times {P : Program} {w : World} {K : PySem.W.Frag} {mg : Str → Option Value} {base : Heap} (M : Blts mg) (h : Here K mg "times" "times" (topS 13)) (d_lowest : Ok_lowest P w K mg base) : Ok_times P w K mg base :=
  def_ok h sc_times fun f0 cdv0 A0 outer0 s00 H00 E0 hr =>
    (Sxs.one (Sx.ret (Ex.callD d_lowest hr (by decide) (Ar.cons (Ex.mul (Ex.ix (hu_of hr) (Ex.var 0) (Ex.int)) (Ex.ix (hu_of hr) (Ex.var 1) (Ex.int))) (Ar.cons (Ex.mul (Ex.ix (hu_of hr) (Ex.var 0) (Ex.int)) (Ex.ix (hu_of hr) (Ex.var 1) (Ex.int))) (Ar.nil))) (fun _ _ _ _ _ _ us hl => match us, hl with | [_, _], _ => rfl))))

/-! over -/
theorem sc_over : FnScope ["one", "two"] ["one", "two"] (defScope (topS 14)) := ⟨rfl, rfl, rfl, by decide +kernel, rfl, by decide +kernel, by decide +kernel⟩
abbrev Ok_over (P : Program) (w : World) (K : PySem.W.Frag) (mg : Str → Option Value) (base : Heap) : Prop := DefOk P w K mg base 3 "over" "over" (topS 14) ["one", "two"] none f_over
theorem ok_over {P : Program} {w : World} {K : PySem.W.Frag} {mg : Str → Option Value} {base : Heap} (M : Blts mg) (h : Here K mg "over" "over" (topS 14)) (d_lowest : Ok_lowest P w K mg base) : Ok_over P w K mg base :=
  def_ok h sc_over fun f0 cdv0 A0 outer0 s00 H00 E0 hr =>
    (Sxs.one (Sx.ret (Ex.callD d_lowest hr (by decide) (Ar.cons (Ex.mul (Ex.ix (hu_of hr) (Ex.var 0) (Ex.int)) (Ex.ix (hu_of hr) (Ex.var 1) (Ex.int))) (Ar.cons (Ex.mul (Ex.ix (hu_of hr) (Ex.var 0) (Ex.int)) (Ex.ix (hu_of hr) (Ex.var 1) (Ex.int))) (Ar.nil))) (fun _ _ _ _ _ _ us hl => match us, hl with | [_, _], _ => rfl))))

/-! is_less -/
theorem sc_is_less : FnScope ["one", "two"] ["one", "two"] (defScope (topS 15)) := ⟨rfl, rfl, rfl, by decide +kernel, rfl, by decide +kernel, by decide +kernel⟩
abbrev Ok_is_less (P : Program) (w : World) (K : PySem.W.Frag) (mg : Str → Option Value) (base : Heap) : Prop := DefOk P w K mg base 1 "is_less" "is_less" (topS 15) ["one", "two"] none f_is_less
theorem ok_is_less {P : Program} {w : World} {K : PySem.W.Frag} {mg : Str → Option Value} {base : Heap} (M : Blts mg) (h : Here K mg "is_less" "is_less" (topS 15)) : Ok_is_less P w K mg base :=
  def_ok h sc_is_less fun f0 cdv0 A0 outer0 s00 H00 E0 hr =>
    (Sxs.one (Sx.ret (Ex.cmp (ck_lt hr.units) (Ex.mul (Ex.ix (hu_of hr) (Ex.var 0) (Ex.int)) (Ex.ix (hu_of hr) (Ex.var 1) (Ex.int))) (Ex.mul (Ex.ix (hu_of hr) (Ex.var 1) (Ex.int)) (Ex.ix (hu_of hr) (Ex.var 0) (Ex.int))))))

/-! lot_order -/
theorem sc_lot_order : FnScope ["lot"] ["lot"] (defScope (topS 17)) := ⟨rfl, rfl, rfl, by decide +kernel, rfl, by decide +kernel, by decide +kernel⟩
abbrev Ok_lot_order (P : Program) (w : World) (K : PySem.W.Frag) (mg : Str → Option Value) (base : Heap) : Prop := DefOk P w K mg base 1 "lot_order" "lot_order" (topS 17) ["lot"] none f_lot_order
theorem ok_lot_order {P : Program} {w : World} {K : PySem.W.Frag} {mg : Str → Option Value} {base : Heap} (M : Blts mg) (h : Here K mg "lot_order" "lot_order" (topS 17)) : Ok_lot_order P w K mg base :=
  def_ok h sc_lot_order fun f0 cdv0 A0 outer0 s00 H00 E0 hr =>
    (Sxs.one (Sx.ret (Ex.tup (Ar.cons (Ex.len M.len (Ar.cons (Ex.var 0) (Ar.nil))) (Ar.cons (Ex.var 0) (Ar.nil))))))

/-! lots_of -/
theorem sc_lots_of : FnScope ["many", "found", "hand", "lot"] ["many"] (defScope (topS 16)) := ⟨rfl, rfl, rfl, by decide +kernel, rfl, by decide +kernel, by decide +kernel⟩
abbrev Ok_lots_of (P : Program) (w : World) (K : PySem.W.Frag) (mg : Str → Option Value) (base : Heap) : Prop := DefOk P w K mg base 4 "lots_of" "lots_of" (topS 16) ["many"] none f_lots_of
theorem ok_lots_of {P : Program} {w : World} {K : PySem.W.Frag} {mg : Str → Option Value} {base : Heap} (M : Blts mg) (h : Here K mg "lots_of" "lots_of" (topS 16)) (d_lot_order : Ok_lot_order P w K mg base) : Ok_lots_of P w K mg base :=
  def_ok h sc_lots_of fun f0 cdv0 A0 outer0 s00 H00 E0 hr =>
    (Sxs.cons (Sx.set (i := 1) sc_lots_of.nd rfl (by first | exact .inl rfl | exact .inr rfl) (Ex.lst (Ar.cons (Ex.tup (Ar.nil)) (Ar.nil))))
    (Sxs.cons (Sx.for_ PassesOwn.never rfl (Ix.range1 M.range (Ar.cons (Ex.var 0) (Ar.nil))) (Tg.name (i := 2) sc_lots_of.nd rfl (by first | exact .inl rfl | exact .inr rfl)) (Sxs.one (Sx.expr (Ex.extend (pv 1) (Ex.comp (own := [("lot", 3)]) (is := [3]) rfl sc_lots_of.nd (blkOk_by (by kernel_rfl)) (by decide) (by decide) (TOk.name 3) (Ix.seq (Ex.var 1)) (fun Y hY => by obtain ⟨s0, H0, C0, cl0, fp0, rfl⟩ := hY; exact ⟨Tg.name (i := 3) sc_lots_of.nd rfl (by first | exact .inl rfl | exact .inr rfl), Tts.nil, Ex.add (Ex.var 3) (Ex.tup (Ar.cons (Ex.var 2) (Ar.nil)))⟩))))))
    (Sxs.one (Sx.ret (Ex.toTup M.tuple (Ar.cons (Ex.sortedKey d_lot_order hr (by decide) (fun _ _ _ _ _ _ us hl => match us, hl with | [_], _ => rfl) M.sorted (Ar.cons (Ex.var 1) (Ar.nil))) (Ar.nil)))))))

/-! without -/
theorem sc_without : FnScope ["lot", "gone", "hand"] ["lot", "gone"] (defScope (topS 18)) := ⟨rfl, rfl, rfl, by decide +kernel, rfl, by decide +kernel, by decide +kernel⟩
abbrev Ok_without (P : Program) (w : World) (K : PySem.W.Frag) (mg : Str → Option Value) (base : Heap) : Prop := DefOk P w K mg base 1 "without" "without" (topS 18) ["lot", "gone"] none f_without
theorem ok_without {P : Program} {w : World} {K : PySem.W.Frag} {mg : Str → Option Value} {base : Heap} (M : Blts mg) (h : Here K mg "without" "without" (topS 18)) : Ok_without P w K mg base :=
  def_ok h sc_without fun f0 cdv0 A0 outer0 s00 H00 E0 hr =>
    (Sxs.one (Sx.ret (Ex.toTup M.tuple (Ar.cons (Ex.comp (own := [("hand", 2)]) (is := [2]) rfl sc_without.nd (blkOk_by (by kernel_rfl)) (by decide) (by decide) (TOk.name 2) (Ix.seq (Ex.var 0)) (fun Y hY => by obtain ⟨s0, H0, C0, cl0, fp0, rfl⟩ := hY; exact ⟨Tg.name (i := 2) sc_without.nd rfl (by first | exact .inl rfl | exact .inr rfl), Tts.one (Ts.cmp (ck_notin (u65 hr)) (Ex.var 2) (Ex.var 1)), Ex.var 2⟩)) (Ar.nil)))))

/-! sums_within -/
theorem sc_sums_within : FnScope ["web", "chances", "near", "found", "lot", "hand", "less"] ["web", "chances"] (defScope (topS 19)) := ⟨rfl, rfl, rfl, by decide +kernel, rfl, by decide +kernel, by decide +kernel⟩
abbrev Ok_sums_within (P : Program) (w : World) (K : PySem.W.Frag) (mg : Str → Option Value) (base : Heap) : Prop := DefOk P w K mg base 5 "sums_within" "sums_within" (topS 19) ["web", "chances"] none f_sums_within
theorem ok_sums_within {P : Program} {w : World} {K : PySem.W.Frag} {mg : Str → Option Value} {base : Heap} (M : Blts mg) (h : Here K mg "sums_within" "sums_within" (topS 19)) (d_touching : Ok_touching P w K mg base) (d_lots_of : Ok_lots_of P w K mg base) (d_times : Ok_times P w K mg base) (d_without : Ok_without P w K mg base) (d_minus : Ok_minus P w K mg base) (g_ONE : GlobC K mg "ONE" (.kt [.int 1, .int 1])) : Ok_sums_within P w K mg base :=
  def_ok h sc_sums_within fun f0 cdv0 A0 outer0 s00 H00 E0 hr =>
    (Sxs.cons (Sx.par2 (i := 2) (j := 3) rfl sc_sums_within.nd rfl rfl (by decide) rfl rfl (Ar.cons (Ex.comp (own := [("hand", 5)]) (is := [5]) rfl sc_sums_within.nd (blkOk_by (by kernel_rfl)) (by decide) (by decide) (TOk.name 5) (Ix.range1 M.range (Ar.cons (Ex.ix (hu_of hr) (Ex.var 0) (Ex.int)) (Ar.nil))) (fun Y hY => by obtain ⟨s0, H0, C0, cl0, fp0, rfl⟩ := hY; exact ⟨Tg.name (i := 5) sc_sums_within.nd rfl (by first | exact .inl rfl | exact .inr rfl), Tts.nil, Ex.callD d_touching hr (by decide) (Ar.cons (Ex.var 0) (Ar.cons (Ex.var 5) (Ar.nil))) (fun _ _ _ _ _ _ us hl => match us, hl with | [_, _], _ => rfl)⟩)) (Ar.cons (Ex.disp1 (hu_of hr) (Ex.tup (Ar.nil)) (Ex.glob g_ONE)) (Ar.nil))))
    (Sxs.cons (Sx.for_ PassesOwn.never rfl (Ix.seq (Ex.slice (Ex.callD d_lots_of hr (by decide) (Ar.cons (Ex.ix (hu_of hr) (Ex.var 0) (Ex.int)) (Ar.nil)) (fun _ _ _ _ _ _ us hl => match us, hl with | [_], _ => rfl)) (Op.some (Ex.int)) Op.none)) (Tg.name (i := 4) sc_sums_within.nd rfl (by first | exact .inl rfl | exact .inr rfl)) (Sxs.cons (Sx.set (i := 5) sc_sums_within.nd rfl (by first | exact .inl rfl | exact .inr rfl) (Ex.ix (hu_of hr) (Ex.var 4) (Ex.int)))
    (Sxs.cons (Sx.set (i := 6) sc_sums_within.nd rfl (by first | exact .inl rfl | exact .inr rfl) (Ex.callD d_times hr (by decide) (Ar.cons (Ex.ix (hu_of hr) (Ex.var 1) (Ex.var 5)) (Ar.cons (Ex.ix (hu_of hr) (Ex.var 3) (Ex.callD d_without hr (by decide) (Ar.cons (Ex.var 4) (Ar.cons (Ex.ix (hu_of hr) (Ex.var 2) (Ex.var 5)) (Ar.nil))) (fun _ _ _ _ _ _ us hl => match us, hl with | [_, _], _ => rfl))) (Ar.nil))) (fun _ _ _ _ _ _ us hl => match us, hl with | [_, _], _ => rfl)))
    (Sxs.one (Sx.itemD (s := 3) (hu_of hr) (pv 3) (Ex.var 4) (Ex.callD d_minus hr (by decide) (Ar.cons (Ex.ix (hu_of hr) (Ex.var 3) (Ex.slice (Ex.var 4) (Op.some (Ex.int)) Op.none)) (Ar.cons (Ex.var 6) (Ar.nil))) (fun _ _ _ _ _ _ us hl => match us, hl with | [_, _], _ => rfl)))))))
    (Sxs.one (Sx.ret (Ex.var 3)))))

/-! first_below -/
theorem sc_first_below : FnScope ["web", "sums", "lots", "lot"] ["web", "sums", "lots"] (defScope (topS 21)) := ⟨rfl, rfl, rfl, by decide +kernel, rfl, by decide +kernel, by decide +kernel⟩
abbrev Ok_first_below (P : Program) (w : World) (K : PySem.W.Frag) (mg : Str → Option Value) (base : Heap) : Prop := DefOk P w K mg base 2 "first_below" "first_below" (topS 21) ["web", "sums", "lots"] none f_first_below
theorem ok_first_below {P : Program} {w : World} {K : PySem.W.Frag} {mg : Str → Option Value} {base : Heap} (M : Blts mg) (h : Here K mg "first_below" "first_below" (topS 21)) (d_is_less : Ok_is_less P w K mg base) (g_NOUGHT : GlobC K mg "NOUGHT" (.kt [.int 0, .int 1])) : Ok_first_below P w K mg base :=
  def_ok h sc_first_below fun f0 cdv0 A0 outer0 s00 H00 E0 hr =>
    (Sxs.cons (Sx.for_ PassesOwn.never rfl (Ix.seq (Ex.var 2)) (Tg.name (i := 3) sc_first_below.nd rfl (by first | exact .inl rfl | exact .inr rfl)) (Sxs.one (Sx.if_ (Ts.truth (Ex.callD d_is_less hr (by decide) (Ar.cons (Ex.ix (hu_of hr) (Ex.var 1) (Ex.var 3)) (Ar.cons (Ex.glob g_NOUGHT) (Ar.nil))) (fun _ _ _ _ _ _ us hl => match us, hl with | [_, _], _ => rfl))) (Sxs.one (Sx.ret (Ex.var 3))) (Sxs.nil))))
    (Sxs.one (Sx.ret (Ex.non))))

/-! is_open -/
theorem sc_is_open : FnScope ["web", "chances", "told"] ["web", "chances"] (defScope (topS 22)) := ⟨rfl, rfl, rfl, by decide +kernel, rfl, by decide +kernel, by decide +kernel⟩
def b_is_open : SS :=
    retS (bltE allK (consA (compE [2] (valsI (callE none f_sums_within (consA (varF 0) (consA (varF 1) (nilA))))) (nameT 2) (yesT) (callE none f_is_less (consA (valF (.kt [.int 0, .int 1])) (consA (varF 2) (nilA))))) (nilA)))
def f_is_open : Fn := fnD 3 none b_is_open
abbrev Ok_is_open (P : Program) (w : World) (K : PySem.W.Frag) (mg : Str → Option Value) (base : Heap) : Prop := DefOk P w K mg base 6 "is_open" "is_open" (topS 22) ["web", "chances"] none f_is_open
theorem ok_is_open {P : Program} {w : World} {K : PySem.W.Frag} {mg : Str → Option Value} {base : Heap} (M : Blts mg) (h : Here K mg "is_open" "is_open" (topS 22)) (d_sums_within : Ok_sums_within P w K mg base) (d_is_less : Ok_is_less P w K mg base) (g_NOUGHT : GlobC K mg "NOUGHT" (.kt [.int 0, .int 1])) : Ok_is_open P w K mg base :=
  def_ok h sc_is_open fun f0 cdv0 A0 outer0 s00 H00 E0 hr =>
    (Sxs.one (Sx.ret (Ex.all rfl M.all (Ar.cons (Ex.comp (own := [("told", 2)]) (is := [2]) rfl sc_is_open.nd (blkOk_by (by kernel_rfl)) (by decide) (by decide) (TOk.name 2) (Ix.valsT (Ex.callD d_sums_within hr (by decide) (Ar.cons (Ex.var 0) (Ar.cons (Ex.var 1) (Ar.nil))) (fun _ _ _ _ _ _ us hl => match us, hl with | [_, _], _ => rfl))) (fun Y hY => by obtain ⟨s0, H0, C0, cl0, fp0, rfl⟩ := hY; exact ⟨Tg.name (i := 2) sc_is_open.nd rfl (by first | exact .inl rfl | exact .inr rfl), Tts.nil, Ex.callD d_is_less hr (by decide) (Ar.cons (Ex.glob g_NOUGHT) (Ar.cons (Ex.var 2) (Ar.nil))) (fun _ _ _ _ _ _ us hl => match us, hl with | [_, _], _ => rfl)⟩)) (Ar.nil)))))

/-! border_rows -/
theorem sc_border_rows : FnScope ["web", "chances", "hand", "sums", "near", "rows", "lot"] ["web", "chances", "hand"] (defScope (topS 23)) := ⟨rfl, rfl, rfl, by decide +kernel, rfl, by decide +kernel, by decide +kernel⟩
abbrev Ok_border_rows (P : Program) (w : World) (K : PySem.W.Frag) (mg : Str → Option Value) (base : Heap) : Prop := DefOk P w K mg base 6 "border_rows" "border_rows" (topS 23) ["web", "chances", "hand"] none f_border_rows
theorem ok_border_rows {P : Program} {w : World} {K : PySem.W.Frag} {mg : Str → Option Value} {base : Heap} (M : Blts mg) (h : Here K mg "border_rows" "border_rows" (topS 23)) (d_touching : Ok_touching P w K mg base) (d_sums_within : Ok_sums_within P w K mg base) (d_first_below : Ok_first_below P w K mg base) (d_lots_of : Ok_lots_of P w K mg base) (d_without : Ok_without P w K mg base) : Ok_border_rows P w K mg base :=
  def_ok h sc_border_rows fun f0 cdv0 A0 outer0 s00 H00 E0 hr =>
    (Sxs.cons (Sx.par3 (i := 3) (j := 4) (l := 5) rfl sc_border_rows.nd rfl rfl rfl (by decide) (by decide) (by decide) rfl rfl rfl (Ar.cons (Ex.callD d_sums_within hr (by decide) (Ar.cons (Ex.var 0) (Ar.cons (Ex.var 1) (Ar.nil))) (fun _ _ _ _ _ _ us hl => match us, hl with | [_, _], _ => rfl)) (Ar.cons (Ex.callD d_touching hr (by decide) (Ar.cons (Ex.var 0) (Ar.cons (Ex.var 2) (Ar.nil))) (fun _ _ _ _ _ _ us hl => match us, hl with | [_, _], _ => rfl)) (Ar.cons (Ex.lst (Ar.nil)) (Ar.nil)))))
    (Sxs.cons (Sx.set (i := 6) sc_border_rows.nd rfl (by first | exact .inl rfl | exact .inr rfl) (Ex.callD d_first_below hr (by decide) (Ar.cons (Ex.var 0) (Ar.cons (Ex.var 3) (Ar.cons (Ex.comp (own := [("lot", 6)]) (is := [6]) rfl sc_border_rows.nd (blkOk_by (by kernel_rfl)) (by decide) (by decide) (TOk.name 6) (Ix.seq (Ex.callD d_lots_of hr (by decide) (Ar.cons (Ex.ix (hu_of hr) (Ex.var 0) (Ex.int)) (Ar.nil)) (fun _ _ _ _ _ _ us hl => match us, hl with | [_], _ => rfl))) (fun Y hY => by obtain ⟨s0, H0, C0, cl0, fp0, rfl⟩ := hY; exact ⟨Tg.name (i := 6) sc_border_rows.nd rfl (by first | exact .inl rfl | exact .inr rfl), Tts.one (Ts.cmp (ck_notin (u65 hr)) (Ex.var 2) (Ex.var 6)), Ex.var 6⟩)) (Ar.nil)))) (fun _ _ _ _ _ _ us hl => match us, hl with | [_, _, _], _ => rfl)))
    (Sxs.cons (Sx.if_ (Ts.cmp ck_isnot (Ex.var 6) (Ex.non)) (Sxs.one (Sx.never)) (Sxs.nil))
    (Sxs.cons (Sx.for_ PassesOwn.never rfl (Ix.seq (Ex.callD d_lots_of hr (by decide) (Ar.cons (Ex.ix (hu_of hr) (Ex.var 0) (Ex.int)) (Ar.nil)) (fun _ _ _ _ _ _ us hl => match us, hl with | [_], _ => rfl))) (Tg.name (i := 6) sc_border_rows.nd rfl (by first | exact .inl rfl | exact .inr rfl)) (Sxs.one (Sx.if_ (Ts.cmp (ck_in (u65 hr)) (Ex.var 2) (Ex.var 6)) (Sxs.one (Sx.expr (Ex.append (pv 5) (Ex.tup (Ar.cons (Ex.ix (hu_of hr) (Ex.var 3) (Ex.callD d_without hr (by decide) (Ar.cons (Ex.var 6) (Ar.cons (Ex.tup (Ar.cons (Ex.var 2) (Ar.nil))) (Ar.nil))) (fun _ _ _ _ _ _ us hl => match us, hl with | [_, _], _ => rfl))) (Ar.cons (Ex.ix (hu_of hr) (Ex.var 3) (Ex.callD d_without hr (by decide) (Ar.cons (Ex.var 6) (Ar.cons (Ex.var 4) (Ar.nil))) (fun _ _ _ _ _ _ us hl => match us, hl with | [_, _], _ => rfl))) (Ar.nil))))))) (Sxs.nil))))
    (Sxs.one (Sx.ret (Ex.var 5)))))))

/-! border_chance -/
theorem sc_border_chance : FnScope ["web", "chances", "hand", "least", "alone", "far"] ["web", "chances", "hand"] (defScope (topS 24)) := ⟨rfl, rfl, rfl, by decide +kernel, rfl, by decide +kernel, by decide +kernel⟩
abbrev Ok_border_chance (P : Program) (w : World) (K : PySem.W.Frag) (mg : Str → Option Value) (base : Heap) : Prop := DefOk P w K mg base 7 "border_chance" "border_chance" (topS 24) ["web", "chances", "hand"] none f_border_chance
theorem ok_border_chance {P : Program} {w : World} {K : PySem.W.Frag} {mg : Str → Option Value} {base : Heap} (M : Blts mg) (h : Here K mg "border_chance" "border_chance" (topS 24)) (d_border_rows : Ok_border_rows P w K mg base) (d_is_less : Ok_is_less P w K mg base) (d_over : Ok_over P w K mg base) (g_ONE : GlobC K mg "ONE" (.kt [.int 1, .int 1])) (g_NOUGHT : GlobC K mg "NOUGHT" (.kt [.int 0, .int 1])) : Ok_border_chance P w K mg base :=
  def_ok h sc_border_chance fun f0 cdv0 A0 outer0 s00 H00 E0 hr =>
    (Sxs.cons (Sx.set (i := 3) sc_border_chance.nd rfl (by first | exact .inl rfl | exact .inr rfl) (Ex.glob g_ONE))
    (Sxs.cons (Sx.for_ PassesOwn.never rfl (Ix.seq (Ex.callD d_border_rows hr (by decide) (Ar.cons (Ex.var 0) (Ar.cons (Ex.var 1) (Ar.cons (Ex.var 2) (Ar.nil)))) (fun _ _ _ _ _ _ us hl => match us, hl with | [_, _, _], _ => rfl))) (Tg.tup rfl (pgs_cons (pg_name (i := 4) sc_border_chance.nd rfl (by first | exact .inl rfl | exact .inr rfl)) (pgs_cons (pg_name (i := 5) sc_border_chance.nd rfl (by first | exact .inl rfl | exact .inr rfl)) (pgs_nil))) rfl) (Sxs.one (Sx.if_ (Ts.ofW (Tw.and (Ts.truth (Ex.callD d_is_less hr (by decide) (Ar.cons (Ex.glob g_NOUGHT) (Ar.cons (Ex.var 5) (Ar.nil))) (fun _ _ _ _ _ _ us hl => match us, hl with | [_, _], _ => rfl))) (Tw.and1 (Ts.truth (Ex.callD d_is_less hr (by decide) (Ar.cons (Ex.callD d_over hr (by decide) (Ar.cons (Ex.var 4) (Ar.cons (Ex.var 5) (Ar.nil))) (fun _ _ _ _ _ _ us hl => match us, hl with | [_, _], _ => rfl)) (Ar.cons (Ex.var 3) (Ar.nil))) (fun _ _ _ _ _ _ us hl => match us, hl with | [_, _], _ => rfl)))))) (Sxs.one (Sx.set (i := 3) sc_border_chance.nd rfl (by first | exact .inl rfl | exact .inr rfl) (Ex.callD d_over hr (by decide) (Ar.cons (Ex.var 4) (Ar.cons (Ex.var 5) (Ar.nil))) (fun _ _ _ _ _ _ us hl => match us, hl with | [_, _], _ => rfl)))) (Sxs.nil))))
    (Sxs.one (Sx.ret (Ex.var 3)))))

/-! _law_box -/
theorem sc_law_box : FnScope ["script", "k", "cell", "great"] ["script", "k"] (defScope (topS 26)) := ⟨rfl, rfl, rfl, by decide +kernel, rfl, by decide +kernel, by decide +kernel⟩
abbrev Ok_law_box (P : Program) (w : World) (K : PySem.W.Frag) (mg : Str → Option Value) (base : Heap) : Prop := DefOk P w K mg base 1 "_law_box" "_law_box" (topS 26) ["script", "k"] none f_law_box
theorem ok_law_box {P : Program} {w : World} {K : PySem.W.Frag} {mg : Str → Option Value} {base : Heap} (M : Blts mg) (h : Here K mg "_law_box" "_law_box" (topS 26)) : Ok_law_box P w K mg base :=
  def_ok h sc_law_box fun f0 cdv0 A0 outer0 s00 H00 E0 hr =>
    (Sxs.cons (Sx.set (i := 2) sc_law_box.nd rfl (by first | exact .inl rfl | exact .inr rfl) (Ex.add (Ex.mul (Ex.int) (Ex.var 1)) (Ex.int)))
    (Sxs.cons (Sx.if_ (Ts.cmp (ck_lt hr.units) (Ex.var 1) (Ex.len M.len (Ar.cons (Ex.var 0) (Ar.nil)))) (Sxs.one (Sx.set (i := 2) sc_law_box.nd rfl (by first | exact .inl rfl | exact .inr rfl) (Ex.abs M.abs (Ar.cons (Ex.toInt M.int (Ar.cons (Ex.ix (hu_of hr) (Ex.var 0) (Ex.var 1)) (Ar.nil))) (Ar.nil))))) (Sxs.one (Sx.if_ (Ts.cmp ck_gt (Ex.len M.len (Ar.cons (Ex.var 0) (Ar.nil))) (Ex.int)) (Sxs.one (Sx.set (i := 2) sc_law_box.nd rfl (by first | exact .inl rfl | exact .inr rfl) (Ex.add (Ex.var 2) (Ex.mul (Ex.mod (Ex.toInt M.int (Ar.cons (Ex.abs M.abs (Ar.cons (Ex.toInt M.int (Ar.cons (Ex.ix (hu_of hr) (Ex.var 0) (Ex.mod (Ex.toInt M.int (Ar.cons (Ex.var 1) (Ar.nil))) (Ex.len M.len (Ar.cons (Ex.var 0) (Ar.nil))))) (Ar.nil))) (Ar.nil))) (Ar.nil))) (Ex.int)) (Ex.int))))) (Sxs.nil))))
    (Sxs.cons (Sx.set (i := 3) sc_law_box.nd rfl (by first | exact .inl rfl | exact .inr rfl) (Ex.ife (Ts.cmp ck_ge (Ex.var 2) (Ex.pow (Ex.int) (Ex.int))) (Ex.var 2) (Ex.int)))
    (Sxs.one (Sx.ret (Ex.lst (Ar.cons (Ex.var 3) (Ar.cons (Ex.add (Ex.mod (Ex.toInt M.int (Ar.cons (Ex.add (Ex.mul (Ex.mod (Ex.toInt M.int (Ar.cons (Ex.var 2) (Ar.nil))) (Ex.int)) (Ex.int)) (Ex.mul (Ex.int) (Ex.var 1))) (Ar.nil))) (Ex.int)) (Ex.int)) (Ar.nil)))))))))

/-! _law_take -/
theorem sc_law_take : FnScope ["box", "many", "digit", "raw"] ["box", "many"] (defScope (topS 27)) := ⟨rfl, rfl, rfl, by decide +kernel, rfl, by decide +kernel, by decide +kernel⟩
abbrev Ok_law_take (P : Program) (w : World) (K : PySem.W.Frag) (mg : Str → Option Value) (base : Heap) : Prop := DefOk P w K mg base 1 "_law_take" "_law_take" (topS 27) ["box", "many"] (some 0) f_law_take
theorem ok_law_take {P : Program} {w : World} {K : PySem.W.Frag} {mg : Str → Option Value} {base : Heap} (M : Blts mg) (h : Here K mg "_law_take" "_law_take" (topS 27)) : Ok_law_take P w K mg base :=
  def_ok h sc_law_take fun f0 cdv0 A0 outer0 s00 H00 E0 hr =>
    (Sxs.cons (Sx.if_ (Ts.cmp ck_gt (Ex.ix (hu_of hr) (Ex.var 0) (Ex.int)) (Ex.int)) (Sxs.cons (Sx.set (i := 2) sc_law_take.nd rfl (by first | exact .inl rfl | exact .inr rfl) (Ex.mod (Ex.toInt M.int (Ar.cons (Ex.ix (hu_of hr) (Ex.var 0) (Ex.int)) (Ar.nil))) (Ex.var 1)))
    (Sxs.cons (Sx.item (s := 0) (pv 0) (Ex.int) (Ex.fdiv (Ex.ix (hu_of hr) (Ex.var 0) (Ex.int)) (Ex.var 1)))
    (Sxs.one (Sx.ret (Ex.var 2))))) (Sxs.nil))
    (Sxs.cons (Sx.set (i := 3) sc_law_take.nd rfl (by first | exact .inl rfl | exact .inr rfl) (Ex.mod (Ex.toInt M.int (Ar.cons (Ex.add (Ex.mul (Ex.ix (hu_of hr) (Ex.var 0) (Ex.int)) (Ex.int)) (Ex.int)) (Ar.nil))) (Ex.int)))
    (Sxs.cons (Sx.item (s := 0) (pv 0) (Ex.int) (Ex.add (Ex.mod (Ex.toInt M.int (Ar.cons (Ex.add (Ex.mul (Ex.var 3) (Ex.int)) (Ex.int)) (Ar.nil))) (Ex.int)) (Ex.int)))
    (Sxs.one (Sx.ret (Ex.mod (Ex.toInt M.int (Ar.cons (Ex.fdiv (Ex.add (Ex.mul (Ex.var 3) (Ex.int)) (Ex.ix (hu_of hr) (Ex.var 0) (Ex.int))) (Ex.int)) (Ar.nil))) (Ex.var 1)))))))

/-! _law_pick -/
theorem sc_law_pick : FnScope ["box", "some"] ["box", "some"] (defScope (topS 28)) := ⟨rfl, rfl, rfl, by decide +kernel, rfl, by decide +kernel, by decide +kernel⟩
abbrev Ok_law_pick (P : Program) (w : World) (K : PySem.W.Frag) (mg : Str → Option Value) (base : Heap) : Prop := DefOk P w K mg base 2 "_law_pick" "_law_pick" (topS 28) ["box", "some"] (some 0) f_law_pick
theorem ok_law_pick {P : Program} {w : World} {K : PySem.W.Frag} {mg : Str → Option Value} {base : Heap} (M : Blts mg) (h : Here K mg "_law_pick" "_law_pick" (topS 28)) (d_law_take : Ok_law_take P w K mg base) : Ok_law_pick P w K mg base :=
  def_ok h sc_law_pick fun f0 cdv0 A0 outer0 s00 H00 E0 hr =>
    (Sxs.one (Sx.ret (Ex.ix (hu_of hr) (Ex.var 1) (Ex.callD d_law_take hr (by decide) (Ar.cons (Ex.var 0) (Ar.cons (Ex.len M.len (Ar.cons (Ex.var 1) (Ar.nil))) (Ar.nil))) (fun _ _ _ _ _ _ us hl => match us, hl with | [_, _], _ => rfl)))))

/-! _law_like -/
theorem sc_law_like : FnScope ["told", "due", "left", "turn", "one", "two"] ["told", "due"] (defScope (topS 29)) := ⟨rfl, rfl, rfl, by decide +kernel, rfl, by decide +kernel, by decide +kernel⟩
abbrev Ok_law_like (P : Program) (w : World) (K : PySem.W.Frag) (mg : Str → Option Value) (base : Heap) : Prop := DefOk P w K mg base 1 "_law_like" "_law_like" (topS 29) ["told", "due"] none f_law_like
theorem ok_law_like {P : Program} {w : World} {K : PySem.W.Frag} {mg : Str → Option Value} {base : Heap} (M : Blts mg) (h : Here K mg "_law_like" "_law_like" (topS 29)) : Ok_law_like P w K mg base :=
  def_ok h sc_law_like fun f0 cdv0 A0 outer0 s00 H00 E0 hr =>
    (Sxs.cons (Sx.set (i := 2) sc_law_like.nd rfl (by first | exact .inl rfl | exact .inr rfl) (Ex.lst (Ar.cons (Ex.tup (Ar.cons (Ex.var 0) (Ar.cons (Ex.var 1) (Ar.nil)))) (Ar.nil))))
    (Sxs.cons (Sx.for_ PassesOwn.never rfl (Ix.range1 M.range (Ar.cons (Ex.int) (Ar.nil))) (Tg.name (i := 3) sc_law_like.nd rfl (by first | exact .inl rfl | exact .inr rfl)) (Sxs.cons (Sx.if_ (Ts.cmp (ck_eq hr.units) (Ex.var 2) (Ex.lst (Ar.nil))) (Sxs.one (Sx.ret (Ex.bl))) (Sxs.nil))
    (Sxs.cons (Sx.unp (Ex.pop (pv 2)) (Tg.tup rfl (pgs_cons (pg_name (i := 4) sc_law_like.nd rfl (by first | exact .inl rfl | exact .inr rfl)) (pgs_cons (pg_name (i := 5) sc_law_like.nd rfl (by first | exact .inl rfl | exact .inr rfl)) (pgs_nil))) rfl))
    (Sxs.one (Sx.if_ (Ts.cmp ck_is (Ex.var 5) (Ex.non)) (Sxs.one (Sx.if_ (Ts.cmp ck_isnot (Ex.var 4) (Ex.non)) (Sxs.one (Sx.ret (Ex.bl))) (Sxs.nil))) (Sxs.one (Sx.if_ (Ts.truth (Ex.isi (T := "bool") M.isinstance M.bool (Ex.var 5) (by decide) boot_bool (by decide) (by decide))) (Sxs.one (Sx.if_ (Ts.ofW (Tw.or (Ts.not (Ts.truth (Ex.isi (T := "bool") M.isinstance M.bool (Ex.var 4) (by decide) boot_bool (by decide) (by decide)))) (Tw.or1 (Ts.cmp (ck_ne hr.units) (Ex.var 4) (Ex.var 5))))) (Sxs.one (Sx.ret (Ex.bl))) (Sxs.nil))) (Sxs.one (Sx.if_ (Ts.truth (Ex.isi (T := "tuple") M.isinstance M.tuple (Ex.var 5) (by decide) boot_tuple (by decide) (by decide))) (Sxs.cons (Sx.if_ (Ts.ofW (Tw.or (Ts.not (Ts.truth (Ex.isi (T := "tuple") M.isinstance M.tuple (Ex.var 4) (by decide) boot_tuple (by decide) (by decide)))) (Tw.or1 (Ts.cmp (ck_ne hr.units) (Ex.len M.len (Ar.cons (Ex.var 4) (Ar.nil))) (Ex.len M.len (Ar.cons (Ex.var 5) (Ar.nil))))))) (Sxs.one (Sx.ret (Ex.bl))) (Sxs.nil))
    (Sxs.one (Sx.expr (Ex.extend (pv 2) (Ex.listZip rfl M.list M.zip (Ar.cons (Ex.var 4) (Ar.cons (Ex.var 5) (Ar.nil)))))))) (Sxs.one (Sx.if_ (Ts.truth (Ex.isi (T := "str") M.isinstance M.str (Ex.var 5) (by decide) boot_str (by decide) (by decide))) (Sxs.one (Sx.if_ (Ts.ofW (Tw.or (Ts.not (Ts.truth (Ex.isi (T := "str") M.isinstance M.str (Ex.var 4) (by decide) boot_str (by decide) (by decide)))) (Tw.or1 (Ts.cmp (ck_ne hr.units) (Ex.var 4) (Ex.var 5))))) (Sxs.one (Sx.ret (Ex.bl))) (Sxs.nil))) (Sxs.one (Sx.if_ (Ts.ofW (Tw.or (Ts.not (Ts.truth (Ex.isi (T := "int") M.isinstance M.int (Ex.var 4) (by decide) boot_int (by decide) (by decide)))) (Tw.or (Ts.truth (Ex.isi (T := "bool") M.isinstance M.bool (Ex.var 4) (by decide) boot_bool (by decide) (by decide))) (Tw.or1 (Ts.cmp (ck_ne hr.units) (Ex.var 4) (Ex.var 5)))))) (Sxs.one (Sx.ret (Ex.bl))) (Sxs.nil))))))))))))))
    (Sxs.one (Sx.ret (Ex.bl)))))

/-! _law_shuffled -/
theorem sc_law_shuffled : FnScope ["box", "some", "left", "found", "turn"] ["box", "some"] (defScope (topS 30)) := ⟨rfl, rfl, rfl, by decide +kernel, rfl, by decide +kernel, by decide +kernel⟩
abbrev Ok_law_shuffled (P : Program) (w : World) (K : PySem.W.Frag) (mg : Str → Option Value) (base : Heap) : Prop := DefOk P w K mg base 2 "_law_shuffled" "_law_shuffled" (topS 30) ["box", "some"] (some 0) f_law_shuffled
theorem ok_law_shuffled {P : Program} {w : World} {K : PySem.W.Frag} {mg : Str → Option Value} {base : Heap} (M : Blts mg) (h : Here K mg "_law_shuffled" "_law_shuffled" (topS 30)) (d_law_take : Ok_law_take P w K mg base) : Ok_law_shuffled P w K mg base :=
  def_ok h sc_law_shuffled fun f0 cdv0 A0 outer0 s00 H00 E0 hr =>
    (Sxs.cons (Sx.par2 (i := 2) (j := 3) rfl sc_law_shuffled.nd rfl rfl (by decide) rfl rfl (Ar.cons (Ex.toLst M.list (Ar.cons (Ex.var 1) (Ar.nil))) (Ar.cons (Ex.lst (Ar.nil)) (Ar.nil))))
    (Sxs.cons (Sx.for_ PassesOwn.never rfl (Ix.range1 M.range (Ar.cons (Ex.len M.len (Ar.cons (Ex.var 1) (Ar.nil))) (Ar.nil))) (Tg.name (i := 4) sc_law_shuffled.nd rfl (by first | exact .inl rfl | exact .inr rfl)) (Sxs.one (Sx.expr (Ex.append (pv 3) (Ex.popAt (pv 2) (Ex.callD d_law_take hr (by decide) (Ar.cons (Ex.var 0) (Ar.cons (Ex.len M.len (Ar.cons (Ex.var 2) (Ar.nil))) (Ar.nil))) (fun _ _ _ _ _ _ us hl => match us, hl with | [_, _], _ => rfl)))))))
    (Sxs.one (Sx.ret (Ex.var 3)))))

/-! _law_lots -/
theorem sc_law_lots : FnScope ["many", "found", "hand", "row", "lot"] ["many"] (defScope (topS 31)) := ⟨rfl, rfl, rfl, by decide +kernel, rfl, by decide +kernel, by decide +kernel⟩
abbrev Ok_law_lots (P : Program) (w : World) (K : PySem.W.Frag) (mg : Str → Option Value) (base : Heap) : Prop := DefOk P w K mg base 1 "_law_lots" "_law_lots" (topS 31) ["many"] none f_law_lots
theorem ok_law_lots {P : Program} {w : World} {K : PySem.W.Frag} {mg : Str → Option Value} {base : Heap} (M : Blts mg) (h : Here K mg "_law_lots" "_law_lots" (topS 31)) : Ok_law_lots P w K mg base :=
  def_ok h sc_law_lots fun f0 cdv0 A0 outer0 s00 H00 E0 hr =>
    (Sxs.cons (Sx.set (i := 1) sc_law_lots.nd rfl (by first | exact .inl rfl | exact .inr rfl) (Ex.lst (Ar.cons (Ex.tup (Ar.nil)) (Ar.nil))))
    (Sxs.cons (Sx.for_ PassesOwn.never rfl (Ix.range1 M.range (Ar.cons (Ex.var 0) (Ar.nil))) (Tg.name (i := 2) sc_law_lots.nd rfl (by first | exact .inl rfl | exact .inr rfl)) (Sxs.one (Sx.set (i := 1) sc_law_lots.nd rfl (by first | exact .inl rfl | exact .inr rfl) (Ex.add (Ex.var 1) (Ex.comp (own := [("lot", 4)]) (is := [4]) rfl sc_law_lots.nd (blkOk_by (by kernel_rfl)) (by decide) (by decide) (TOk.name 4) (Ix.seq (Ex.var 1)) (fun Y hY => by obtain ⟨s0, H0, C0, cl0, fp0, rfl⟩ := hY; exact ⟨Tg.name (i := 4) sc_law_lots.nd rfl (by first | exact .inl rfl | exact .inr rfl), Tts.nil, Ex.add (Ex.var 4) (Ex.tup (Ar.cons (Ex.var 2) (Ar.nil)))⟩))))))
    (Sxs.one (Sx.ret (Ex.comp (own := [("row", 3)]) (is := [3]) rfl sc_law_lots.nd (blkOk_by (by kernel_rfl)) (by decide) (by decide) (TOk.name 3) (Ix.seq (Ex.sorted hr.units M.sorted (Ar.cons (Ex.comp (own := [("lot", 4)]) (is := [4]) rfl sc_law_lots.nd (blkOk_by (by kernel_rfl)) (by decide) (by decide) (TOk.name 4) (Ix.seq (Ex.var 1)) (fun Y hY => by obtain ⟨s0, H0, C0, cl0, fp0, rfl⟩ := hY; exact ⟨Tg.name (i := 4) sc_law_lots.nd rfl (by first | exact .inl rfl | exact .inr rfl), Tts.nil, Ex.tup (Ar.cons (Ex.len M.len (Ar.cons (Ex.var 4) (Ar.nil))) (Ar.cons (Ex.var 4) (Ar.nil)))⟩)) (Ar.nil)))) (fun Y hY => by obtain ⟨s0, H0, C0, cl0, fp0, rfl⟩ := hY; exact ⟨Tg.name (i := 3) sc_law_lots.nd rfl (by first | exact .inl rfl | exact .inr rfl), Tts.nil, Ex.ix (hu_of hr) (Ex.var 3) (Ex.int)⟩))))))

/-! _law_named -/
theorem sc_law_named : FnScope ["box", "many", "things", "names", "lot", "hand"] ["box", "many", "things"] (defScope (topS 32)) := ⟨rfl, rfl, rfl, by decide +kernel, rfl, by decide +kernel, by decide +kernel⟩
abbrev Ok_law_named (P : Program) (w : World) (K : PySem.W.Frag) (mg : Str → Option Value) (base : Heap) : Prop := DefOk P w K mg base 3 "_law_named" "_law_named" (topS 32) ["box", "many", "things"] (some 0) f_law_named
theorem ok_law_named {P : Program} {w : World} {K : PySem.W.Frag} {mg : Str → Option Value} {base : Heap} (M : Blts mg) (h : Here K mg "_law_named" "_law_named" (topS 32)) (d_law_shuffled : Ok_law_shuffled P w K mg base) : Ok_law_named P w K mg base :=
  def_ok h sc_law_named fun f0 cdv0 A0 outer0 s00 H00 E0 hr =>
    (Sxs.cons (Sx.set (i := 3) sc_law_named.nd rfl (by first | exact .inl rfl | exact .inr rfl) (Ex.callD d_law_shuffled hr (by decide) (Ar.cons (Ex.var 0) (Ar.cons (Ex.lstRng rfl M.list M.range (Ex.var 1)) (Ar.nil))) (fun _ _ _ _ _ _ us hl => match us, hl with | [_, _], _ => rfl)))
    (Sxs.one (Sx.ret (Ex.tup (Ar.cons (Ex.var 1) (Ar.cons (Ex.toTup M.tuple (Ar.cons (Ex.sorted hr.units M.sorted (Ar.cons (Ex.comp (own := [("lot", 4)]) (is := [4]) rfl sc_law_named.nd (blkOk_by (by kernel_rfl)) (by decide) (by decide) (TOk.name 4) (Ix.seq (Ex.var 2)) (fun Y hY => by obtain ⟨s0, H0, C0, cl0, fp0, rfl⟩ := hY; exact ⟨Tg.name (i := 4) sc_law_named.nd rfl (by first | exact .inl rfl | exact .inr rfl), Tts.nil, Ex.toTup M.tuple (Ar.cons (Ex.sorted hr.units M.sorted (Ar.cons (Ex.comp (own := [("hand", 5)]) (is := [5]) rfl sc_law_named.nd (blkOk_by (by kernel_rfl)) (by decide) (by decide) (TOk.name 5) (Ix.seq (Ex.var 4)) (fun Y hY => by obtain ⟨s0, H0, C0, cl0, fp0, rfl⟩ := hY; exact ⟨Tg.name (i := 5) sc_law_named.nd rfl (by first | exact .inl rfl | exact .inr rfl), Tts.nil, Ex.ix (hu_of hr) (Ex.var 3) (Ex.var 5)⟩)) (Ar.nil))) (Ar.nil))⟩)) (Ar.nil))) (Ar.nil))) (Ar.nil)))))))

/-! _law_forest -/
theorem sc_law_forest : FnScope ["box", "most", "many", "things", "turn", "size", "old"] ["box", "most"] (defScope (topS 33)) := ⟨rfl, rfl, rfl, by decide +kernel, rfl, by decide +kernel, by decide +kernel⟩
abbrev Ok_law_forest (P : Program) (w : World) (K : PySem.W.Frag) (mg : Str → Option Value) (base : Heap) : Prop := DefOk P w K mg base 4 "_law_forest" "_law_forest" (topS 33) ["box", "most"] (some 0) f_law_forest
theorem ok_law_forest {P : Program} {w : World} {K : PySem.W.Frag} {mg : Str → Option Value} {base : Heap} (M : Blts mg) (h : Here K mg "_law_forest" "_law_forest" (topS 33)) (d_law_take : Ok_law_take P w K mg base) (d_law_named : Ok_law_named P w K mg base) : Ok_law_forest P w K mg base :=
  def_ok h sc_law_forest fun f0 cdv0 A0 outer0 s00 H00 E0 hr =>
    (Sxs.cons (Sx.par2 (i := 2) (j := 3) rfl sc_law_forest.nd rfl rfl (by decide) rfl rfl (Ar.cons (Ex.add (Ex.int) (Ex.callD d_law_take hr (by decide) (Ar.cons (Ex.var 0) (Ar.cons (Ex.int) (Ar.nil))) (fun _ _ _ _ _ _ us hl => match us, hl with | [_, _], _ => rfl))) (Ar.cons (Ex.lst (Ar.nil)) (Ar.nil))))
    (Sxs.cons (Sx.expr (Ex.append (pv 3) (Ex.tupRng rfl M.tuple M.range (Ex.var 2))))
    (Sxs.cons (Sx.for_ PassesOwn.never rfl (Ix.range1 M.range (Ar.cons (Ex.callD d_law_take hr (by decide) (Ar.cons (Ex.var 0) (Ar.cons (Ex.int) (Ar.nil))) (fun _ _ _ _ _ _ us hl => match us, hl with | [_, _], _ => rfl)) (Ar.nil))) (Tg.name (i := 4) sc_law_forest.nd rfl (by first | exact .inl rfl | exact .inr rfl)) (Sxs.one (Sx.if_ (Ts.cmp (ck_lt hr.units) (Ex.var 2) (Ex.var 1)) (Sxs.cons (Sx.set (i := 5) sc_law_forest.nd rfl (by first | exact .inl rfl | exact .inr rfl) (Ex.min2 rfl M.min (Ar.cons (Ex.add (Ex.int) (Ex.callD d_law_take hr (by decide) (Ar.cons (Ex.var 0) (Ar.cons (Ex.int) (Ar.nil))) (fun _ _ _ _ _ _ us hl => match us, hl with | [_, _], _ => rfl))) (Ar.cons (Ex.sub (Ex.var 1) (Ex.var 2)) (Ar.nil)))))
    (Sxs.cons (Sx.set (i := 6) sc_law_forest.nd rfl (by first | exact .inl rfl | exact .inr rfl) (Ex.ife (Ts.cmp (ck_eq hr.units) (Ex.callD d_law_take hr (by decide) (Ar.cons (Ex.var 0) (Ar.cons (Ex.int) (Ar.nil))) (fun _ _ _ _ _ _ us hl => match us, hl with | [_, _], _ => rfl)) (Ex.int)) (Ex.tup (Ar.nil)) (Ex.tup (Ar.cons (Ex.callD d_law_take hr (by decide) (Ar.cons (Ex.var 0) (Ar.cons (Ex.var 2) (Ar.nil))) (fun _ _ _ _ _ _ us hl => match us, hl with | [_, _], _ => rfl)) (Ar.nil)))))
    (Sxs.cons (Sx.expr (Ex.append (pv 3) (Ex.add (Ex.var 6) (Ex.tupRng2 rfl M.tuple M.range (Ex.var 2) (Ex.add (Ex.var 2) (Ex.var 5))))))
    (Sxs.one (Sx.set (i := 2) sc_law_forest.nd rfl (by first | exact .inl rfl | exact .inr rfl) (Ex.add (Ex.var 2) (Ex.var 5))))))) (Sxs.nil))))
    (Sxs.cons (Sx.if_ (Ts.ofW (Tw.and (Ts.cmp (ck_eq hr.units) (Ex.var 2) (Ex.int)) (Tw.and1 (Ts.cmp ck_gt (Ex.var 1) (Ex.int))))) (Sxs.one (Sx.par2 (i := 3) (j := 2) rfl sc_law_forest.nd rfl rfl (by decide) rfl rfl (Ar.cons (Ex.lst (Ar.cons (Ex.tup (Ar.cons (Ex.int) (Ar.cons (Ex.int) (Ar.nil)))) (Ar.nil))) (Ar.cons (Ex.int) (Ar.nil))))) (Sxs.nil))
    (Sxs.cons (Sx.if_ (Ts.cmp (ck_eq hr.units) (Ex.callD d_law_take hr (by decide) (Ar.cons (Ex.var 0) (Ar.cons (Ex.int) (Ar.nil))) (fun _ _ _ _ _ _ us hl => match us, hl with | [_, _], _ => rfl)) (Ex.int)) (Sxs.one (Sx.expr (Ex.append (pv 3) (Ex.tup (Ar.cons (Ex.callD d_law_take hr (by decide) (Ar.cons (Ex.var 0) (Ar.cons (Ex.var 2) (Ar.nil))) (fun _ _ _ _ _ _ us hl => match us, hl with | [_, _], _ => rfl)) (Ar.nil)))))) (Sxs.nil))
    (Sxs.one (Sx.ret (Ex.callD d_law_named hr (by decide) (Ar.cons (Ex.var 0) (Ar.cons (Ex.var 2) (Ar.cons (Ex.var 3) (Ar.nil)))) (fun _ _ _ _ _ _ us hl => match us, hl with | [_, _, _], _ => rfl)))))))))

/-! _law_ring -/
theorem sc_law_ring : FnScope ["box", "most", "many", "things", "hand"] ["box", "most"] (defScope (topS 34)) := ⟨rfl, rfl, rfl, by decide +kernel, rfl, by decide +kernel, by decide +kernel⟩
abbrev Ok_law_ring (P : Program) (w : World) (K : PySem.W.Frag) (mg : Str → Option Value) (base : Heap) : Prop := DefOk P w K mg base 4 "_law_ring" "_law_ring" (topS 34) ["box", "most"] (some 0) f_law_ring
theorem ok_law_ring {P : Program} {w : World} {K : PySem.W.Frag} {mg : Str → Option Value} {base : Heap} (M : Blts mg) (h : Here K mg "_law_ring" "_law_ring" (topS 34)) (d_law_take : Ok_law_take P w K mg base) (d_law_named : Ok_law_named P w K mg base) : Ok_law_ring P w K mg base :=
  def_ok h sc_law_ring fun f0 cdv0 A0 outer0 s00 H00 E0 hr =>
    (Sxs.cons (Sx.set (i := 2) sc_law_ring.nd rfl (by first | exact .inl rfl | exact .inr rfl) (Ex.add (Ex.int) (Ex.callD d_law_take hr (by decide) (Ar.cons (Ex.var 0) (Ar.cons (Ex.sub (Ex.var 1) (Ex.int)) (Ar.nil))) (fun _ _ _ _ _ _ us hl => match us, hl with | [_, _], _ => rfl))))
    (Sxs.cons (Sx.set (i := 3) sc_law_ring.nd rfl (by first | exact .inl rfl | exact .inr rfl) (Ex.ife (Ts.cmp (ck_eq hr.units) (Ex.var 2) (Ex.int)) (Ex.lst (Ar.cons (Ex.tup (Ar.cons (Ex.int) (Ar.cons (Ex.int) (Ar.nil)))) (Ar.cons (Ex.tup (Ar.cons (Ex.int) (Ar.cons (Ex.int) (Ar.nil)))) (Ar.nil)))) (Ex.comp (own := [("hand", 4)]) (is := [4]) rfl sc_law_ring.nd (blkOk_by (by kernel_rfl)) (by decide) (by decide) (TOk.name 4) (Ix.range1 M.range (Ar.cons (Ex.var 2) (Ar.nil))) (fun Y hY => by obtain ⟨s0, H0, C0, cl0, fp0, rfl⟩ := hY; exact ⟨Tg.name (i := 4) sc_law_ring.nd rfl (by first | exact .inl rfl | exact .inr rfl), Tts.nil, Ex.toTup M.tuple (Ar.cons (Ex.sorted hr.units M.sorted (Ar.cons (Ex.lst (Ar.cons (Ex.var 4) (Ar.cons (Ex.mod (Ex.toInt M.int (Ar.cons (Ex.add (Ex.var 4) (Ex.int)) (Ar.nil))) (Ex.var 2)) (Ar.nil)))) (Ar.nil))) (Ar.nil))⟩))))
    (Sxs.cons (Sx.if_ (Ts.ofW (Tw.and (Ts.cmp ck_gt (Ex.var 2) (Ex.int)) (Tw.and1 (Ts.cmp (ck_eq hr.units) (Ex.callD d_law_take hr (by decide) (Ar.cons (Ex.var 0) (Ar.cons (Ex.int) (Ar.nil))) (fun _ _ _ _ _ _ us hl => match us, hl with | [_, _], _ => rfl)) (Ex.int))))) (Sxs.one (Sx.item (s := 3) (pv 3) (Ex.int) (Ex.toTup M.tuple (Ar.cons (Ex.sortedSet rfl M.sorted M.set (Ex.add (Ex.ix (hu_of hr) (Ex.var 3) (Ex.int)) (Ex.tup (Ar.cons (Ex.callD d_law_take hr (by decide) (Ar.cons (Ex.var 0) (Ar.cons (Ex.var 2) (Ar.nil))) (fun _ _ _ _ _ _ us hl => match us, hl with | [_, _], _ => rfl)) (Ar.nil))))) (Ar.nil))))) (Sxs.nil))
    (Sxs.one (Sx.ret (Ex.callD d_law_named hr (by decide) (Ar.cons (Ex.var 0) (Ar.cons (Ex.var 2) (Ar.cons (Ex.var 3) (Ar.nil)))) (fun _ _ _ _ _ _ us hl => match us, hl with | [_, _, _], _ => rfl)))))))

/-! _law_any_web -/
theorem sc_law_any_web : FnScope ["box", "most", "many", "things", "turn", "lot", "hand"] ["box", "most"] (defScope (topS 35)) := ⟨rfl, rfl, rfl, by decide +kernel, rfl, by decide +kernel, by decide +kernel⟩
abbrev Ok_law_any_web (P : Program) (w : World) (K : PySem.W.Frag) (mg : Str → Option Value) (base : Heap) : Prop := DefOk P w K mg base 4 "_law_any_web" "_law_any_web" (topS 35) ["box", "most"] (some 0) f_law_any_web
theorem ok_law_any_web {P : Program} {w : World} {K : PySem.W.Frag} {mg : Str → Option Value} {base : Heap} (M : Blts mg) (h : Here K mg "_law_any_web" "_law_any_web" (topS 35)) (d_law_take : Ok_law_take P w K mg base) (d_law_named : Ok_law_named P w K mg base) : Ok_law_any_web P w K mg base :=
  def_ok h sc_law_any_web fun f0 cdv0 A0 outer0 s00 H00 E0 hr =>
    (Sxs.cons (Sx.set (i := 2) sc_law_any_web.nd rfl (by first | exact .inl rfl | exact .inr rfl) (Ex.add (Ex.int) (Ex.callD d_law_take hr (by decide) (Ar.cons (Ex.var 0) (Ar.cons (Ex.var 1) (Ar.nil))) (fun _ _ _ _ _ _ us hl => match us, hl with | [_, _], _ => rfl))))
    (Sxs.cons (Sx.set (i := 3) sc_law_any_web.nd rfl (by first | exact .inl rfl | exact .inr rfl) (Ex.comp (own := [("turn", 4)]) (is := [4]) rfl sc_law_any_web.nd (blkOk_by (by kernel_rfl)) (by decide) (by decide) (TOk.name 4) (Ix.range1 M.range (Ar.cons (Ex.add (Ex.int) (Ex.callD d_law_take hr (by decide) (Ar.cons (Ex.var 0) (Ar.cons (Ex.ife (Ts.cmp (ck_lt hr.units) (Ex.var 2) (Ex.int)) (Ex.int) (Ex.int)) (Ar.nil))) (fun _ _ _ _ _ _ us hl => match us, hl with | [_, _], _ => rfl))) (Ar.nil))) (fun Y hY => by obtain ⟨s0, H0, C0, cl0, fp0, rfl⟩ := hY; exact ⟨Tg.name (i := 4) sc_law_any_web.nd rfl (by first | exact .inl rfl | exact .inr rfl), Tts.nil, Ex.toTup M.tuple (Ar.cons (Ex.comp (own := [("hand", 6)]) (is := [6]) rfl sc_law_any_web.nd (blkOk_by (by kernel_rfl)) (by decide) (by decide) (TOk.name 6) (Ix.range1 M.range (Ar.cons (Ex.var 2) (Ar.nil))) (fun Y hY => by obtain ⟨s0, H0, C0, cl0, fp0, rfl⟩ := hY; exact ⟨Tg.name (i := 6) sc_law_any_web.nd rfl (by first | exact .inl rfl | exact .inr rfl), Tts.one (Ts.cmp (ck_eq hr.units) (Ex.callD d_law_take hr (by decide) (Ar.cons (Ex.var 0) (Ar.cons (Ex.int) (Ar.nil))) (fun _ _ _ _ _ _ us hl => match us, hl with | [_, _], _ => rfl)) (Ex.int)), Ex.var 6⟩)) (Ar.nil))⟩)))
    (Sxs.cons (Sx.set (i := 3) sc_law_any_web.nd rfl (by first | exact .inl rfl | exact .inr rfl) (Ex.comp (own := [("lot", 5)]) (is := [5]) rfl sc_law_any_web.nd (blkOk_by (by kernel_rfl)) (by decide) (by decide) (TOk.name 5) (Ix.seq (Ex.var 3)) (fun Y hY => by obtain ⟨s0, H0, C0, cl0, fp0, rfl⟩ := hY; exact ⟨Tg.name (i := 5) sc_law_any_web.nd rfl (by first | exact .inl rfl | exact .inr rfl), Tts.one (Ts.cmp (ck_ne hr.units) (Ex.var 5) (Ex.tup (Ar.nil))), Ex.var 5⟩)))
    (Sxs.cons (Sx.set (i := 3) sc_law_any_web.nd rfl (by first | exact .inl rfl | exact .inr rfl) (Ex.add (Ex.var 3) (Ex.comp (own := [("hand", 6)]) (is := [6]) rfl sc_law_any_web.nd (blkOk_by (by kernel_rfl)) (by decide) (by decide) (TOk.name 6) (Ix.range1 M.range (Ar.cons (Ex.var 2) (Ar.nil))) (fun Y hY => by obtain ⟨s0, H0, C0, cl0, fp0, rfl⟩ := hY; exact ⟨Tg.name (i := 6) sc_law_any_web.nd rfl (by first | exact .inl rfl | exact .inr rfl), Tts.one (Ts.cmp (ck_eq hr.units) (Ex.comp (own := [("lot", 5)]) (is := [5]) rfl sc_law_any_web.nd (blkOk_by (by kernel_rfl)) (by decide) (by decide) (TOk.name 5) (Ix.seq (Ex.var 3)) (fun Y hY => by obtain ⟨s0, H0, C0, cl0, fp0, rfl⟩ := hY; exact ⟨Tg.name (i := 5) sc_law_any_web.nd rfl (by first | exact .inl rfl | exact .inr rfl), Tts.one (Ts.cmp (ck_in (u65 hr)) (Ex.var 6) (Ex.var 5)), Ex.int⟩)) (Ex.lst (Ar.nil))), Ex.tup (Ar.cons (Ex.var 6) (Ar.nil))⟩))))
    (Sxs.one (Sx.ret (Ex.callD d_law_named hr (by decide) (Ar.cons (Ex.var 0) (Ar.cons (Ex.var 2) (Ar.cons (Ex.var 3) (Ar.nil)))) (fun _ _ _ _ _ _ us hl => match us, hl with | [_, _, _], _ => rfl))))))))

/-! _law_web -/
theorem sc_law_web : FnScope ["box", "most", "way", "many"] ["box", "most"] (defScope (topS 36)) := ⟨rfl, rfl, rfl, by decide +kernel, rfl, by decide +kernel, by decide +kernel⟩
abbrev Ok_law_web (P : Program) (w : World) (K : PySem.W.Frag) (mg : Str → Option Value) (base : Heap) : Prop := DefOk P w K mg base 5 "_law_web" "_law_web" (topS 36) ["box", "most"] (some 0) f_law_web
theorem ok_law_web {P : Program} {w : World} {K : PySem.W.Frag} {mg : Str → Option Value} {base : Heap} (M : Blts mg) (h : Here K mg "_law_web" "_law_web" (topS 36)) (d_law_take : Ok_law_take P w K mg base) (d_law_forest : Ok_law_forest P w K mg base) (d_law_ring : Ok_law_ring P w K mg base) (d_law_any_web : Ok_law_any_web P w K mg base) : Ok_law_web P w K mg base :=
  def_ok h sc_law_web fun f0 cdv0 A0 outer0 s00 H00 E0 hr =>
    (Sxs.cons (Sx.set (i := 2) sc_law_web.nd rfl (by first | exact .inl rfl | exact .inr rfl) (Ex.callD d_law_take hr (by decide) (Ar.cons (Ex.var 0) (Ar.cons (Ex.int) (Ar.nil))) (fun _ _ _ _ _ _ us hl => match us, hl with | [_, _], _ => rfl)))
    (Sxs.cons (Sx.if_ (Ts.cmp (ck_lt hr.units) (Ex.var 2) (Ex.int)) (Sxs.one (Sx.ret (Ex.callD d_law_forest hr (by decide) (Ar.cons (Ex.var 0) (Ar.cons (Ex.var 1) (Ar.nil))) (fun _ _ _ _ _ _ us hl => match us, hl with | [_, _], _ => rfl)))) (Sxs.nil))
    (Sxs.cons (Sx.if_ (Ts.cmp (ck_lt hr.units) (Ex.var 2) (Ex.int)) (Sxs.one (Sx.ret (Ex.callD d_law_ring hr (by decide) (Ar.cons (Ex.var 0) (Ar.cons (Ex.var 1) (Ar.nil))) (fun _ _ _ _ _ _ us hl => match us, hl with | [_, _], _ => rfl)))) (Sxs.nil))
    (Sxs.cons (Sx.if_ (Ts.cmp (ck_eq hr.units) (Ex.var 2) (Ex.int)) (Sxs.cons (Sx.set (i := 3) sc_law_web.nd rfl (by first | exact .inl rfl | exact .inr rfl) (Ex.add (Ex.int) (Ex.callD d_law_take hr (by decide) (Ar.cons (Ex.var 0) (Ar.cons (Ex.sub (Ex.var 1) (Ex.int)) (Ar.nil))) (fun _ _ _ _ _ _ us hl => match us, hl with | [_, _], _ => rfl))))
    (Sxs.one (Sx.ret (Ex.tup (Ar.cons (Ex.var 3) (Ar.cons (Ex.tup (Ar.cons (Ex.tupRng rfl M.tuple M.range (Ex.var 3)) (Ar.nil))) (Ar.nil))))))) (Sxs.nil))
    (Sxs.one (Sx.ret (Ex.callD d_law_any_web hr (by decide) (Ar.cons (Ex.var 0) (Ar.cons (Ex.var 1) (Ar.nil))) (fun _ _ _ _ _ _ us hl => match us, hl with | [_, _], _ => rfl))))))))

/-! _law_touch -/
theorem sc_law_touch : FnScope ["web", "one", "two", "lot"] ["web", "one", "two"] (defScope (topS 37)) := ⟨rfl, rfl, rfl, by decide +kernel, rfl, by decide +kernel, by decide +kernel⟩
abbrev Ok_law_touch (P : Program) (w : World) (K : PySem.W.Frag) (mg : Str → Option Value) (base : Heap) : Prop := DefOk P w K mg base 1 "_law_touch" "_law_touch" (topS 37) ["web", "one", "two"] none f_law_touch
theorem ok_law_touch {P : Program} {w : World} {K : PySem.W.Frag} {mg : Str → Option Value} {base : Heap} (M : Blts mg) (h : Here K mg "_law_touch" "_law_touch" (topS 37)) : Ok_law_touch P w K mg base :=
  def_ok h sc_law_touch fun f0 cdv0 A0 outer0 s00 H00 E0 hr =>
    (Sxs.one (Sx.ret (Ex.or (Ex.cmp (ck_eq hr.units) (Ex.var 1) (Ex.var 2)) (Ex.one (Ex.cmp (ck_ne hr.units) (Ex.comp (own := [("lot", 3)]) (is := [3]) rfl sc_law_touch.nd (blkOk_by (by kernel_rfl)) (by decide) (by decide) (TOk.name 3) (Ix.seq (Ex.ix (hu_of hr) (Ex.var 0) (Ex.int))) (fun Y hY => by obtain ⟨s0, H0, C0, cl0, fp0, rfl⟩ := hY; exact ⟨Tg.name (i := 3) sc_law_touch.nd rfl (by first | exact .inl rfl | exact .inr rfl), Tts.one (Ts.ofW (Tw.and (Ts.cmp (ck_in (u65 hr)) (Ex.var 1) (Ex.var 3)) (Tw.and1 (Ts.cmp (ck_in (u65 hr)) (Ex.var 2) (Ex.var 3))))), Ex.int⟩)) (Ex.lst (Ar.nil)))))))

/-! _law_apart -/
theorem sc_law_apart : FnScope ["web", "lot", "one", "two"] ["web", "lot"] (defScope (topS 38)) := ⟨rfl, rfl, rfl, by decide +kernel, rfl, by decide +kernel, by decide +kernel⟩
abbrev Ok_law_apart (P : Program) (w : World) (K : PySem.W.Frag) (mg : Str → Option Value) (base : Heap) : Prop := DefOk P w K mg base 2 "_law_apart" "_law_apart" (topS 38) ["web", "lot"] none f_law_apart
theorem ok_law_apart {P : Program} {w : World} {K : PySem.W.Frag} {mg : Str → Option Value} {base : Heap} (M : Blts mg) (h : Here K mg "_law_apart" "_law_apart" (topS 38)) (d_law_touch : Ok_law_touch P w K mg base) : Ok_law_apart P w K mg base :=
  def_ok h sc_law_apart fun f0 cdv0 A0 outer0 s00 H00 E0 hr =>
    (Sxs.one (Sx.ret (Ex.cmp (ck_eq hr.units) (Ex.comp (own := [("one", 2)]) (is := [2]) rfl sc_law_apart.nd (blkOk_by (by kernel_rfl)) (by decide) (by decide) (TOk.name 2) (Ix.seq (Ex.var 1)) (fun Y hY => by obtain ⟨s0, H0, C0, cl0, fp0, rfl⟩ := hY; exact ⟨Tg.name (i := 2) sc_law_apart.nd rfl (by first | exact .inl rfl | exact .inr rfl), Tts.one (Ts.cmp (ck_ne hr.units) (Ex.comp (own := [("two", 3)]) (is := [3]) rfl sc_law_apart.nd (blkOk_by (by kernel_rfl)) (by decide) (by decide) (TOk.name 3) (Ix.seq (Ex.var 1)) (fun Y hY => by obtain ⟨s0, H0, C0, cl0, fp0, rfl⟩ := hY; exact ⟨Tg.name (i := 3) sc_law_apart.nd rfl (by first | exact .inl rfl | exact .inr rfl), Tts.one (Ts.ofW (Tw.and (Ts.cmp (ck_lt hr.units) (Ex.var 2) (Ex.var 3)) (Tw.and1 (Ts.truth (Ex.callD d_law_touch hr (by decide) (Ar.cons (Ex.var 0) (Ar.cons (Ex.var 2) (Ar.cons (Ex.var 3) (Ar.nil)))) (fun _ _ _ _ _ _ us hl => match us, hl with | [_, _, _], _ => rfl)))))), Ex.int⟩)) (Ex.lst (Ar.nil))), Ex.int⟩)) (Ex.lst (Ar.nil)))))

/-! _law_gcd -/
theorem sc_law_gcd : FnScope ["one", "two"] ["one", "two"] (defScope (topS 39)) := ⟨rfl, rfl, rfl, by decide +kernel, rfl, by decide +kernel, by decide +kernel⟩
abbrev Ok_law_gcd (P : Program) (w : World) (K : PySem.W.Frag) (mg : Str → Option Value) (base : Heap) : Prop := DefOk P w K mg base 1 "_law_gcd" "_law_gcd" (topS 39) ["one", "two"] none f_law_gcd
theorem ok_law_gcd {P : Program} {w : World} {K : PySem.W.Frag} {mg : Str → Option Value} {base : Heap} (M : Blts mg) (h : Here K mg "_law_gcd" "_law_gcd" (topS 39)) : Ok_law_gcd P w K mg base :=
  def_ok h sc_law_gcd fun f0 cdv0 A0 outer0 s00 H00 E0 hr =>
    (Sxs.cons (Sx.while_ n_law_gcd_1 PassesOwn.never (Ts.cmp (ck_ne hr.units) (Ex.var 1) (Ex.int)) (Sxs.one (Sx.par2 (i := 0) (j := 1) rfl sc_law_gcd.nd rfl rfl (by decide) rfl rfl (Ar.cons (Ex.var 1) (Ar.cons (Ex.mod (Ex.toInt M.int (Ar.cons (Ex.var 0) (Ar.nil))) (Ex.var 1)) (Ar.nil))))))
    (Sxs.one (Sx.ret (Ex.var 0))))

/-! _law_part -/
theorem sc_law_part : FnScope ["top", "bottom", "common"] ["top", "bottom"] (defScope (topS 40)) := ⟨rfl, rfl, rfl, by decide +kernel, rfl, by decide +kernel, by decide +kernel⟩
abbrev Ok_law_part (P : Program) (w : World) (K : PySem.W.Frag) (mg : Str → Option Value) (base : Heap) : Prop := DefOk P w K mg base 2 "_law_part" "_law_part" (topS 40) ["top", "bottom"] none f_law_part
theorem ok_law_part {P : Program} {w : World} {K : PySem.W.Frag} {mg : Str → Option Value} {base : Heap} (M : Blts mg) (h : Here K mg "_law_part" "_law_part" (topS 40)) (d_law_gcd : Ok_law_gcd P w K mg base) : Ok_law_part P w K mg base :=
  def_ok h sc_law_part fun f0 cdv0 A0 outer0 s00 H00 E0 hr =>
    (Sxs.cons (Sx.if_ (Ts.cmp (ck_lt hr.units) (Ex.var 1) (Ex.int)) (Sxs.one (Sx.par2 (i := 0) (j := 1) rfl sc_law_part.nd rfl rfl (by decide) rfl rfl (Ar.cons (Ex.sub (Ex.int) (Ex.var 0)) (Ar.cons (Ex.sub (Ex.int) (Ex.var 1)) (Ar.nil))))) (Sxs.nil))
    (Sxs.cons (Sx.set (i := 2) sc_law_part.nd rfl (by first | exact .inl rfl | exact .inr rfl) (Ex.callD d_law_gcd hr (by decide) (Ar.cons (Ex.abs M.abs (Ar.cons (Ex.var 0) (Ar.nil))) (Ar.cons (Ex.var 1) (Ar.nil))) (fun _ _ _ _ _ _ us hl => match us, hl with | [_, _], _ => rfl)))
    (Sxs.one (Sx.ret (Ex.tup (Ar.cons (Ex.fdiv (Ex.var 0) (Ex.var 2)) (Ar.cons (Ex.fdiv (Ex.var 1) (Ex.var 2)) (Ar.nil))))))))

/-! _law_plus -/
theorem sc_law_plus : FnScope ["one", "two"] ["one", "two"] (defScope (topS 41)) := ⟨rfl, rfl, rfl, by decide +kernel, rfl, by decide +kernel, by decide +kernel⟩
abbrev Ok_law_plus (P : Program) (w : World) (K : PySem.W.Frag) (mg : Str → Option Value) (base : Heap) : Prop := DefOk P w K mg base 3 "_law_plus" "_law_plus" (topS 41) ["one", "two"] none f_law_plus
theorem ok_law_plus {P : Program} {w : World} {K : PySem.W.Frag} {mg : Str → Option Value} {base : Heap} (M : Blts mg) (h : Here K mg "_law_plus" "_law_plus" (topS 41)) (d_law_part : Ok_law_part P w K mg base) : Ok_law_plus P w K mg base :=
  def_ok h sc_law_plus fun f0 cdv0 A0 outer0 s00 H00 E0 hr =>
    (Sxs.one (Sx.ret (Ex.callD d_law_part hr (by decide) (Ar.cons (Ex.add (Ex.mul (Ex.ix (hu_of hr) (Ex.var 0) (Ex.int)) (Ex.ix (hu_of hr) (Ex.var 1) (Ex.int))) (Ex.mul (Ex.ix (hu_of hr) (Ex.var 1) (Ex.int)) (Ex.ix (hu_of hr) (Ex.var 0) (Ex.int)))) (Ar.cons (Ex.mul (Ex.ix (hu_of hr) (Ex.var 0) (Ex.int)) (Ex.ix (hu_of hr) (Ex.var 1) (Ex.int))) (Ar.nil))) (fun _ _ _ _ _ _ us hl => match us, hl with | [_, _], _ => rfl))))

/-! _law_times -/
theorem sc_law_times : FnScope ["one", "two"] ["one", "two"] (defScope (topS 42)) := ⟨rfl, rfl, rfl, by decide +kernel, rfl, by decide +kernel, by decide +kernel⟩
abbrev Ok_law_times (P : Program) (w : World) (K : PySem.W.Frag) (mg : Str → Option Value) (base : Heap) : Prop := DefOk P w K mg base 3 "_law_times" "_law_times" (topS 42) ["one", "two"] none f_law_times
theorem ok_law_times {P : Program} {w : World} {K : PySem.W.Frag} {mg : Str → Option Value} {base : Heap} (M : Blts mg) (h : Here K mg "_law_times" "_law_times" (topS 42)) (d_law_part : Ok_law_part P w K mg base) : Ok_law_times P w K mg base :=
  def_ok h sc_law_times fun f0 cdv0 A0 outer0 s00 H00 E0 hr =>
    (Sxs.one (Sx.ret (Ex.callD d_law_part hr (by decide) (Ar.cons (Ex.mul (Ex.ix (hu_of hr) (Ex.var 0) (Ex.int)) (Ex.ix (hu_of hr) (Ex.var 1) (Ex.int))) (Ar.cons (Ex.mul (Ex.ix (hu_of hr) (Ex.var 0) (Ex.int)) (Ex.ix (hu_of hr) (Ex.var 1) (Ex.int))) (Ar.nil))) (fun _ _ _ _ _ _ us hl => match us, hl with | [_, _], _ => rfl))))

/-! _law_over -/
theorem sc_law_over : FnScope ["one", "two"] ["one", "two"] (defScope (topS 43)) := ⟨rfl, rfl, rfl, by decide +kernel, rfl, by decide +kernel, by decide +kernel⟩
abbrev Ok_law_over (P : Program) (w : World) (K : PySem.W.Frag) (mg : Str → Option Value) (base : Heap) : Prop := DefOk P w K mg base 3 "_law_over" "_law_over" (topS 43) ["one", "two"] none f_law_over
theorem ok_law_over {P : Program} {w : World} {K : PySem.W.Frag} {mg : Str → Option Value} {base : Heap} (M : Blts mg) (h : Here K mg "_law_over" "_law_over" (topS 43)) (d_law_part : Ok_law_part P w K mg base) : Ok_law_over P w K mg base :=
  def_ok h sc_law_over fun f0 cdv0 A0 outer0 s00 H00 E0 hr =>
    (Sxs.one (Sx.ret (Ex.callD d_law_part hr (by decide) (Ar.cons (Ex.mul (Ex.ix (hu_of hr) (Ex.var 0) (Ex.int)) (Ex.ix (hu_of hr) (Ex.var 1) (Ex.int))) (Ar.cons (Ex.mul (Ex.ix (hu_of hr) (Ex.var 0) (Ex.int)) (Ex.ix (hu_of hr) (Ex.var 1) (Ex.int))) (Ar.nil))) (fun _ _ _ _ _ _ us hl => match us, hl with | [_, _], _ => rfl))))

/-! _law_chances -/
theorem sc_law_chances : FnScope ["marks", "number"] ["marks"] (defScope (topS 44)) := ⟨rfl, rfl, rfl, by decide +kernel, rfl, by decide +kernel, by decide +kernel⟩
abbrev Ok_law_chances (P : Program) (w : World) (K : PySem.W.Frag) (mg : Str → Option Value) (base : Heap) : Prop := DefOk P w K mg base 1 "_law_chances" "_law_chances" (topS 44) ["marks"] none f_law_chances
theorem ok_law_chances {P : Program} {w : World} {K : PySem.W.Frag} {mg : Str → Option Value} {base : Heap} (M : Blts mg) (h : Here K mg "_law_chances" "_law_chances" (topS 44)) : Ok_law_chances P w K mg base :=
  def_ok h sc_law_chances fun f0 cdv0 A0 outer0 s00 H00 E0 hr =>
    (Sxs.one (Sx.ret (Ex.toTup M.tuple (Ar.cons (Ex.comp (own := [("number", 1)]) (is := [1]) rfl sc_law_chances.nd (blkOk_by (by kernel_rfl)) (by decide) (by decide) (TOk.name 1) (Ix.seq (Ex.var 0)) (fun Y hY => by obtain ⟨s0, H0, C0, cl0, fp0, rfl⟩ := hY; exact ⟨Tg.name (i := 1) sc_law_chances.nd rfl (by first | exact .inl rfl | exact .inr rfl), Tts.nil, Ex.tup (Ar.cons (Ex.int) (Ar.cons (Ex.var 1) (Ar.nil)))⟩)) (Ar.nil)))))

/-! _law_sum_of -/
theorem sc_law_sum_of : FnScope ["web", "chances", "lot", "total", "place", "some", "part", "hand", "spot"] ["web", "chances", "lot"] (defScope (topS 45)) := ⟨rfl, rfl, rfl, by decide +kernel, rfl, by decide +kernel, by decide +kernel⟩
abbrev Ok_law_sum_of (P : Program) (w : World) (K : PySem.W.Frag) (mg : Str → Option Value) (base : Heap) : Prop := DefOk P w K mg base 4 "_law_sum_of" "_law_sum_of" (topS 45) ["web", "chances", "lot"] none f_law_sum_of
theorem ok_law_sum_of {P : Program} {w : World} {K : PySem.W.Frag} {mg : Str → Option Value} {base : Heap} (M : Blts mg) (h : Here K mg "_law_sum_of" "_law_sum_of" (topS 45)) (d_law_apart : Ok_law_apart P w K mg base) (d_law_times : Ok_law_times P w K mg base) (d_law_plus : Ok_law_plus P w K mg base) : Ok_law_sum_of P w K mg base :=
  def_ok h sc_law_sum_of fun f0 cdv0 A0 outer0 s00 H00 E0 hr =>
    (Sxs.cons (Sx.set (i := 3) sc_law_sum_of.nd rfl (by first | exact .inl rfl | exact .inr rfl) (Ex.tup (Ar.cons (Ex.int) (Ar.cons (Ex.int) (Ar.nil)))))
    (Sxs.cons (Sx.for_ PassesOwn.never rfl (Ix.range1 M.range (Ar.cons (Ex.shl (Ex.int) (Ex.len M.len (Ar.cons (Ex.var 2) (Ar.nil)))) (Ar.nil))) (Tg.name (i := 4) sc_law_sum_of.nd rfl (by first | exact .inl rfl | exact .inr rfl)) (Sxs.cons (Sx.set (i := 5) sc_law_sum_of.nd rfl (by first | exact .inl rfl | exact .inr rfl) (Ex.toTup M.tuple (Ar.cons (Ex.comp (own := [("spot", 8), ("hand", 7)]) (is := [8, 7]) rfl sc_law_sum_of.nd (blkOk_by (by kernel_rfl)) (by decide) (by decide) (TOk.tup [8, 7]) (Ix.enum M.enumerate (Ar.cons (Ex.var 2) (Ar.nil))) (fun Y hY => by obtain ⟨s0, H0, C0, cl0, fp0, rfl⟩ := hY; exact ⟨Tg.tup rfl (pgs_cons (pg_name (i := 8) sc_law_sum_of.nd rfl (by first | exact .inl rfl | exact .inr rfl)) (pgs_cons (pg_name (i := 7) sc_law_sum_of.nd rfl (by first | exact .inl rfl | exact .inr rfl)) (pgs_nil))) rfl, Tts.one (Ts.cmp (ck_eq hr.units) (Ex.band (Ex.shr (Ex.var 4) (Ex.var 8)) (Ex.int)) (Ex.int)), Ex.var 7⟩)) (Ar.nil))))
    (Sxs.one (Sx.if_ (Ts.truth (Ex.callD d_law_apart hr (by decide) (Ar.cons (Ex.var 0) (Ar.cons (Ex.var 5) (Ar.nil))) (fun _ _ _ _ _ _ us hl => match us, hl with | [_, _], _ => rfl))) (Sxs.cons (Sx.set (i := 6) sc_law_sum_of.nd rfl (by first | exact .inl rfl | exact .inr rfl) (Ex.tup (Ar.cons (Ex.int) (Ar.cons (Ex.int) (Ar.nil)))))
    (Sxs.cons (Sx.for_ PassesOwn.never rfl (Ix.seq (Ex.var 5)) (Tg.name (i := 7) sc_law_sum_of.nd rfl (by first | exact .inl rfl | exact .inr rfl)) (Sxs.one (Sx.set (i := 6) sc_law_sum_of.nd rfl (by first | exact .inl rfl | exact .inr rfl) (Ex.callD d_law_times hr (by decide) (Ar.cons (Ex.var 6) (Ar.cons (Ex.tup (Ar.cons (Ex.sub (Ex.int) (Ex.ix (hu_of hr) (Ex.ix (hu_of hr) (Ex.var 1) (Ex.var 7)) (Ex.int))) (Ar.cons (Ex.ix (hu_of hr) (Ex.ix (hu_of hr) (Ex.var 1) (Ex.var 7)) (Ex.int)) (Ar.nil)))) (Ar.nil))) (fun _ _ _ _ _ _ us hl => match us, hl with | [_, _], _ => rfl)))))
    (Sxs.one (Sx.set (i := 3) sc_law_sum_of.nd rfl (by first | exact .inl rfl | exact .inr rfl) (Ex.callD d_law_plus hr (by decide) (Ar.cons (Ex.var 3) (Ar.cons (Ex.var 6) (Ar.nil))) (fun _ _ _ _ _ _ us hl => match us, hl with | [_, _], _ => rfl)))))) (Sxs.nil)))))
    (Sxs.one (Sx.ret (Ex.var 3)))))

/-! _law_fault -/
theorem sc_law_fault : FnScope ["web", "chances", "lot"] ["web", "chances"] (defScope (topS 46)) := ⟨rfl, rfl, rfl, by decide +kernel, rfl, by decide +kernel, by decide +kernel⟩
abbrev Ok_law_fault (P : Program) (w : World) (K : PySem.W.Frag) (mg : Str → Option Value) (base : Heap) : Prop := DefOk P w K mg base 5 "_law_fault" "_law_fault" (topS 46) ["web", "chances"] none f_law_fault
theorem ok_law_fault {P : Program} {w : World} {K : PySem.W.Frag} {mg : Str → Option Value} {base : Heap} (M : Blts mg) (h : Here K mg "_law_fault" "_law_fault" (topS 46)) (d_law_lots : Ok_law_lots P w K mg base) (d_law_sum_of : Ok_law_sum_of P w K mg base) : Ok_law_fault P w K mg base :=
  def_ok h sc_law_fault fun f0 cdv0 A0 outer0 s00 H00 E0 hr =>
    (Sxs.cons (Sx.for_ PassesOwn.never rfl (Ix.seq (Ex.callD d_law_lots hr (by decide) (Ar.cons (Ex.ix (hu_of hr) (Ex.var 0) (Ex.int)) (Ar.nil)) (fun _ _ _ _ _ _ us hl => match us, hl with | [_], _ => rfl))) (Tg.name (i := 2) sc_law_fault.nd rfl (by first | exact .inl rfl | exact .inr rfl)) (Sxs.one (Sx.if_ (Ts.cmp (ck_lt hr.units) (Ex.ix (hu_of hr) (Ex.callD d_law_sum_of hr (by decide) (Ar.cons (Ex.var 0) (Ar.cons (Ex.var 1) (Ar.cons (Ex.var 2) (Ar.nil)))) (fun _ _ _ _ _ _ us hl => match us, hl with | [_, _, _], _ => rfl)) (Ex.int)) (Ex.int)) (Sxs.one (Sx.ret (Ex.var 2))) (Sxs.nil))))
    (Sxs.one (Sx.ret (Ex.non))))

/-! _law_enough_for -/
theorem sc_law_enough_for : FnScope ["web", "marks", "hand", "number"] ["web", "marks", "hand"] (defScope (topS 47)) := ⟨rfl, rfl, rfl, by decide +kernel, rfl, by decide +kernel, by decide +kernel⟩
abbrev Ok_law_enough_for (P : Program) (w : World) (K : PySem.W.Frag) (mg : Str → Option Value) (base : Heap) : Prop := DefOk P w K mg base 6 "_law_enough_for" "_law_enough_for" (topS 47) ["web", "marks", "hand"] none f_law_enough_for
theorem ok_law_enough_for {P : Program} {w : World} {K : PySem.W.Frag} {mg : Str → Option Value} {base : Heap} (M : Blts mg) (h : Here K mg "_law_enough_for" "_law_enough_for" (topS 47)) (d_law_fault : Ok_law_fault P w K mg base) (d_law_chances : Ok_law_chances P w K mg base) : Ok_law_enough_for P w K mg base :=
  def_ok h sc_law_enough_for fun f0 cdv0 A0 outer0 s00 H00 E0 hr =>
    (Sxs.cons (Sx.for_ PassesOwn.never rfl (Ix.range2 M.range (Ar.cons (Ex.int) (Ar.cons (Ex.int) (Ar.nil)))) (Tg.name (i := 3) sc_law_enough_for.nd rfl (by first | exact .inl rfl | exact .inr rfl)) (Sxs.one (Sx.if_ (Ts.cmp ck_is (Ex.callD d_law_fault hr (by decide) (Ar.cons (Ex.var 0) (Ar.cons (Ex.callD d_law_chances hr (by decide) (Ar.cons (Ex.add (Ex.add (Ex.slice (Ex.var 1) Op.none (Op.some (Ex.var 2))) (Ex.tup (Ar.cons (Ex.var 3) (Ar.nil)))) (Ex.slice (Ex.var 1) (Op.some (Ex.add (Ex.var 2) (Ex.int))) Op.none)) (Ar.nil)) (fun _ _ _ _ _ _ us hl => match us, hl with | [_], _ => rfl)) (Ar.nil))) (fun _ _ _ _ _ _ us hl => match us, hl with | [_, _], _ => rfl)) (Ex.non)) (Sxs.one (Sx.ret (Ex.var 3))) (Sxs.nil))))
    (Sxs.one (Sx.ret (Ex.non))))

/-! _law_marks -/
theorem sc_law_marks : FnScope ["box", "web", "way", "marks", "turn", "hand", "least", "number"] ["box", "web", "way"] (defScope (topS 48)) := ⟨rfl, rfl, rfl, by decide +kernel, rfl, by decide +kernel, by decide +kernel⟩
abbrev Ok_law_marks (P : Program) (w : World) (K : PySem.W.Frag) (mg : Str → Option Value) (base : Heap) : Prop := DefOk P w K mg base 7 "_law_marks" "_law_marks" (topS 48) ["box", "web", "way"] (some 0) f_law_marks
theorem ok_law_marks {P : Program} {w : World} {K : PySem.W.Frag} {mg : Str → Option Value} {base : Heap} (M : Blts mg) (h : Here K mg "_law_marks" "_law_marks" (topS 48)) (d_law_pick : Ok_law_pick P w K mg base) (d_law_take : Ok_law_take P w K mg base) (d_law_fault : Ok_law_fault P w K mg base) (d_law_chances : Ok_law_chances P w K mg base) (d_law_enough_for : Ok_law_enough_for P w K mg base) : Ok_law_marks P w K mg base :=
  def_ok h sc_law_marks fun f0 cdv0 A0 outer0 s00 H00 E0 hr =>
    (Sxs.cons (Sx.set (i := 3) sc_law_marks.nd rfl (by first | exact .inl rfl | exact .inr rfl) (Ex.toTup M.tuple (Ar.cons (Ex.comp (own := [("hand", 5)]) (is := [5]) rfl sc_law_marks.nd (blkOk_by (by kernel_rfl)) (by decide) (by decide) (TOk.name 5) (Ix.range1 M.range (Ar.cons (Ex.ix (hu_of hr) (Ex.var 1) (Ex.int)) (Ar.nil))) (fun Y hY => by obtain ⟨s0, H0, C0, cl0, fp0, rfl⟩ := hY; exact ⟨Tg.name (i := 5) sc_law_marks.nd rfl (by first | exact .inl rfl | exact .inr rfl), Tts.nil, Ex.callD d_law_pick hr (by decide) (Ar.cons (Ex.var 0) (Ar.cons (Ex.ife (Ts.cmp (ck_ne hr.units) (Ex.var 2) (Ex.int)) (Ex.lst (Ar.cons (Ex.int) (Ar.cons (Ex.int) (Ar.cons (Ex.int) (Ar.cons (Ex.int) (Ar.cons (Ex.int) (Ar.cons (Ex.int) (Ar.cons (Ex.int) (Ar.cons (Ex.int) (Ar.nil)))))))))) (Ex.lst (Ar.cons (Ex.int) (Ar.cons (Ex.int) (Ar.cons (Ex.int) (Ar.cons (Ex.int) (Ar.cons (Ex.int) (Ar.cons (Ex.int) (Ar.nil))))))))) (Ar.nil))) (fun _ _ _ _ _ _ us hl => match us, hl with | [_, _], _ => rfl)⟩)) (Ar.nil))))
    (Sxs.cons (Sx.if_ (Ts.cmp (ck_eq hr.units) (Ex.var 2) (Ex.int)) (Sxs.one (Sx.ret (Ex.toTup M.tuple (Ar.cons (Ex.comp (own := [("number", 7)]) (is := [7]) rfl sc_law_marks.nd (blkOk_by (by kernel_rfl)) (by decide) (by decide) (TOk.name 7) (Ix.seq (Ex.var 3)) (fun Y hY => by obtain ⟨s0, H0, C0, cl0, fp0, rfl⟩ := hY; exact ⟨Tg.name (i := 7) sc_law_marks.nd rfl (by first | exact .inl rfl | exact .inr rfl), Tts.nil, Ex.max2 rfl M.max (Ar.cons (Ex.int) (Ar.cons (Ex.sub (Ex.var 7) (Ex.callD d_law_take hr (by decide) (Ar.cons (Ex.var 0) (Ar.cons (Ex.int) (Ar.nil))) (fun _ _ _ _ _ _ us hl => match us, hl with | [_, _], _ => rfl))) (Ar.nil)))⟩)) (Ar.nil))))) (Sxs.nil))
    (Sxs.cons (Sx.if_ (Ts.cmp (ck_eq hr.units) (Ex.var 2) (Ex.int)) (Sxs.one (Sx.ret (Ex.var 3))) (Sxs.nil))
    (Sxs.cons (Sx.for_ PassesOwn.never rfl (Ix.range1 M.range (Ar.cons (Ex.int) (Ar.nil))) (Tg.name (i := 4) sc_law_marks.nd rfl (by first | exact .inl rfl | exact .inr rfl)) (Sxs.cons (Sx.if_ (Ts.cmp ck_is (Ex.callD d_law_fault hr (by decide) (Ar.cons (Ex.var 1) (Ar.cons (Ex.callD d_law_chances hr (by decide) (Ar.cons (Ex.var 3) (Ar.nil)) (fun _ _ _ _ _ _ us hl => match us, hl with | [_], _ => rfl)) (Ar.nil))) (fun _ _ _ _ _ _ us hl => match us, hl with | [_, _], _ => rfl)) (Ex.non)) (Sxs.one (Sx.brk)) (Sxs.nil))
    (Sxs.one (Sx.set (i := 3) sc_law_marks.nd rfl (by first | exact .inl rfl | exact .inr rfl) (Ex.toTup M.tuple (Ar.cons (Ex.comp (own := [("number", 7)]) (is := [7]) rfl sc_law_marks.nd (blkOk_by (by kernel_rfl)) (by decide) (by decide) (TOk.name 7) (Ix.seq (Ex.var 3)) (fun Y hY => by obtain ⟨s0, H0, C0, cl0, fp0, rfl⟩ := hY; exact ⟨Tg.name (i := 7) sc_law_marks.nd rfl (by first | exact .inl rfl | exact .inr rfl), Tts.nil, Ex.add (Ex.add (Ex.var 7) (Ex.int)) (Ex.fdiv (Ex.var 7) (Ex.int))⟩)) (Ar.nil)))))))
    (Sxs.cons (Sx.if_ (Ts.cmp (ck_eq hr.units) (Ex.var 2) (Ex.int)) (Sxs.cons (Sx.set (i := 5) sc_law_marks.nd rfl (by first | exact .inl rfl | exact .inr rfl) (Ex.callD d_law_take hr (by decide) (Ar.cons (Ex.var 0) (Ar.cons (Ex.ix (hu_of hr) (Ex.var 1) (Ex.int)) (Ar.nil))) (fun _ _ _ _ _ _ us hl => match us, hl with | [_, _], _ => rfl)))
    (Sxs.cons (Sx.set (i := 6) sc_law_marks.nd rfl (by first | exact .inl rfl | exact .inr rfl) (Ex.callD d_law_enough_for hr (by decide) (Ar.cons (Ex.var 1) (Ar.cons (Ex.var 3) (Ar.cons (Ex.var 5) (Ar.nil)))) (fun _ _ _ _ _ _ us hl => match us, hl with | [_, _, _], _ => rfl)))
    (Sxs.one (Sx.set (i := 3) sc_law_marks.nd rfl (by first | exact .inl rfl | exact .inr rfl) (Ex.add (Ex.add (Ex.slice (Ex.var 3) Op.none (Op.some (Ex.var 5))) (Ex.tup (Ar.cons (Ex.ife (Ts.cmp ck_isnot (Ex.var 6) (Ex.non)) (Ex.var 6) (Ex.ix (hu_of hr) (Ex.var 3) (Ex.var 5))) (Ar.nil)))) (Ex.slice (Ex.var 3) (Op.some (Ex.add (Ex.var 5) (Ex.int))) Op.none)))))) (Sxs.nil))
    (Sxs.one (Sx.ret (Ex.var 3))))))))

/-! _law_below -/
theorem sc_law_below : FnScope ["one", "two"] ["one", "two"] (defScope (topS 49)) := ⟨rfl, rfl, rfl, by decide +kernel, rfl, by decide +kernel, by decide +kernel⟩
abbrev Ok_law_below (P : Program) (w : World) (K : PySem.W.Frag) (mg : Str → Option Value) (base : Heap) : Prop := DefOk P w K mg base 1 "_law_below" "_law_below" (topS 49) ["one", "two"] none f_law_below
theorem ok_law_below {P : Program} {w : World} {K : PySem.W.Frag} {mg : Str → Option Value} {base : Heap} (M : Blts mg) (h : Here K mg "_law_below" "_law_below" (topS 49)) : Ok_law_below P w K mg base :=
  def_ok h sc_law_below fun f0 cdv0 A0 outer0 s00 H00 E0 hr =>
    (Sxs.one (Sx.ret (Ex.cmp (ck_lt hr.units) (Ex.mul (Ex.ix (hu_of hr) (Ex.var 0) (Ex.int)) (Ex.ix (hu_of hr) (Ex.var 1) (Ex.int))) (Ex.mul (Ex.ix (hu_of hr) (Ex.var 1) (Ex.int)) (Ex.ix (hu_of hr) (Ex.var 0) (Ex.int))))))

/-! _law_drawn_chances -/
theorem sc_law_drawn_chances : FnScope ["box", "web", "told", "hand", "bottom"] ["box", "web"] (defScope (topS 50)) := ⟨rfl, rfl, rfl, by decide +kernel, rfl, by decide +kernel, by decide +kernel⟩
abbrev Ok_law_drawn_chances (P : Program) (w : World) (K : PySem.W.Frag) (mg : Str → Option Value) (base : Heap) : Prop := DefOk P w K mg base 8 "_law_drawn_chances" "_law_drawn_chances" (topS 50) ["box", "web"] (some 0) f_law_drawn_chances
theorem ok_law_drawn_chances {P : Program} {w : World} {K : PySem.W.Frag} {mg : Str → Option Value} {base : Heap} (M : Blts mg) (h : Here K mg "_law_drawn_chances" "_law_drawn_chances" (topS 50)) (d_law_take : Ok_law_take P w K mg base) (d_law_chances : Ok_law_chances P w K mg base) (d_law_marks : Ok_law_marks P w K mg base) (d_law_part : Ok_law_part P w K mg base) : Ok_law_drawn_chances P w K mg base :=
  def_ok h sc_law_drawn_chances fun f0 cdv0 A0 outer0 s00 H00 E0 hr =>
    (Sxs.cons (Sx.if_ (Ts.cmp (ck_eq hr.units) (Ex.callD d_law_take hr (by decide) (Ar.cons (Ex.var 0) (Ar.cons (Ex.int) (Ar.nil))) (fun _ _ _ _ _ _ us hl => match us, hl with | [_, _], _ => rfl)) (Ex.int)) (Sxs.one (Sx.ret (Ex.callD d_law_chances hr (by decide) (Ar.cons (Ex.callD d_law_marks hr (by decide) (Ar.cons (Ex.var 0) (Ar.cons (Ex.var 1) (Ar.cons (Ex.callD d_law_take hr (by decide) (Ar.cons (Ex.var 0) (Ar.cons (Ex.int) (Ar.nil))) (fun _ _ _ _ _ _ us hl => match us, hl with | [_, _], _ => rfl)) (Ar.nil)))) (fun _ _ _ _ _ _ us hl => match us, hl with | [_, _, _], _ => rfl)) (Ar.nil)) (fun _ _ _ _ _ _ us hl => match us, hl with | [_], _ => rfl)))) (Sxs.nil))
    (Sxs.cons (Sx.set (i := 2) sc_law_drawn_chances.nd rfl (by first | exact .inl rfl | exact .inr rfl) (Ex.lst (Ar.nil)))
    (Sxs.cons (Sx.for_ PassesOwn.never rfl (Ix.range1 M.range (Ar.cons (Ex.ix (hu_of hr) (Ex.var 1) (Ex.int)) (Ar.nil))) (Tg.name (i := 3) sc_law_drawn_chances.nd rfl (by first | exact .inl rfl | exact .inr rfl)) (Sxs.cons (Sx.set (i := 4) sc_law_drawn_chances.nd rfl (by first | exact .inl rfl | exact .inr rfl) (Ex.add (Ex.int) (Ex.callD d_law_take hr (by decide) (Ar.cons (Ex.var 0) (Ar.cons (Ex.int) (Ar.nil))) (fun _ _ _ _ _ _ us hl => match us, hl with | [_, _], _ => rfl))))
    (Sxs.one (Sx.expr (Ex.append (pv 2) (Ex.callD d_law_part hr (by decide) (Ar.cons (Ex.min2 rfl M.min (Ar.cons (Ex.var 4) (Ar.cons (Ex.callD d_law_take hr (by decide) (Ar.cons (Ex.var 0) (Ar.cons (Ex.add (Ex.add (Ex.int) (Ex.fdiv (Ex.var 4) (Ex.int))) (Ex.callD d_law_take hr (by decide) (Ar.cons (Ex.var 0) (Ar.cons (Ex.int) (Ar.nil))) (fun _ _ _ _ _ _ us hl => match us, hl with | [_, _], _ => rfl))) (Ar.nil))) (fun _ _ _ _ _ _ us hl => match us, hl with | [_, _], _ => rfl)) (Ar.nil)))) (Ar.cons (Ex.var 4) (Ar.nil))) (fun _ _ _ _ _ _ us hl => match us, hl with | [_, _], _ => rfl)))))))
    (Sxs.one (Sx.ret (Ex.toTup M.tuple (Ar.cons (Ex.var 2) (Ar.nil))))))))

/-! _law_border -/
theorem sc_law_border : FnScope ["web", "chances", "hand", "least", "lot", "alone", "far", "one"] ["web", "chances", "hand"] (defScope (topS 52)) := ⟨rfl, rfl, rfl, by decide +kernel, rfl, by decide +kernel, by decide +kernel⟩
abbrev Ok_law_border (P : Program) (w : World) (K : PySem.W.Frag) (mg : Str → Option Value) (base : Heap) : Prop := DefOk P w K mg base 5 "_law_border" "_law_border" (topS 52) ["web", "chances", "hand"] none f_law_border
theorem ok_law_border {P : Program} {w : World} {K : PySem.W.Frag} {mg : Str → Option Value} {base : Heap} (M : Blts mg) (h : Here K mg "_law_border" "_law_border" (topS 52)) (d_law_lots : Ok_law_lots P w K mg base) (d_law_sum_of : Ok_law_sum_of P w K mg base) (d_law_touch : Ok_law_touch P w K mg base) (d_law_below : Ok_law_below P w K mg base) (d_law_over : Ok_law_over P w K mg base) : Ok_law_border P w K mg base :=
  def_ok h sc_law_border fun f0 cdv0 A0 outer0 s00 H00 E0 hr =>
    (Sxs.cons (Sx.set (i := 3) sc_law_border.nd rfl (by first | exact .inl rfl | exact .inr rfl) (Ex.tup (Ar.cons (Ex.int) (Ar.cons (Ex.int) (Ar.nil)))))
    (Sxs.cons (Sx.for_ PassesOwn.never rfl (Ix.seq (Ex.callD d_law_lots hr (by decide) (Ar.cons (Ex.ix (hu_of hr) (Ex.var 0) (Ex.int)) (Ar.nil)) (fun _ _ _ _ _ _ us hl => match us, hl with | [_], _ => rfl))) (Tg.name (i := 4) sc_law_border.nd rfl (by first | exact .inl rfl | exact .inr rfl)) (Sxs.one (Sx.if_ (Ts.cmp (ck_in (u65 hr)) (Ex.var 2) (Ex.var 4)) (Sxs.cons (Sx.set (i := 5) sc_law_border.nd rfl (by first | exact .inl rfl | exact .inr rfl) (Ex.callD d_law_sum_of hr (by decide) (Ar.cons (Ex.var 0) (Ar.cons (Ex.var 1) (Ar.cons (Ex.toTup M.tuple (Ar.cons (Ex.comp (own := [("one", 7)]) (is := [7]) rfl sc_law_border.nd (blkOk_by (by kernel_rfl)) (by decide) (by decide) (TOk.name 7) (Ix.seq (Ex.var 4)) (fun Y hY => by obtain ⟨s0, H0, C0, cl0, fp0, rfl⟩ := hY; exact ⟨Tg.name (i := 7) sc_law_border.nd rfl (by first | exact .inl rfl | exact .inr rfl), Tts.one (Ts.cmp (ck_ne hr.units) (Ex.var 7) (Ex.var 2)), Ex.var 7⟩)) (Ar.nil))) (Ar.nil)))) (fun _ _ _ _ _ _ us hl => match us, hl with | [_, _, _], _ => rfl)))
    (Sxs.cons (Sx.set (i := 6) sc_law_border.nd rfl (by first | exact .inl rfl | exact .inr rfl) (Ex.callD d_law_sum_of hr (by decide) (Ar.cons (Ex.var 0) (Ar.cons (Ex.var 1) (Ar.cons (Ex.toTup M.tuple (Ar.cons (Ex.comp (own := [("one", 7)]) (is := [7]) rfl sc_law_border.nd (blkOk_by (by kernel_rfl)) (by decide) (by decide) (TOk.name 7) (Ix.seq (Ex.var 4)) (fun Y hY => by obtain ⟨s0, H0, C0, cl0, fp0, rfl⟩ := hY; exact ⟨Tg.name (i := 7) sc_law_border.nd rfl (by first | exact .inl rfl | exact .inr rfl), Tts.one (Ts.not (Ts.truth (Ex.callD d_law_touch hr (by decide) (Ar.cons (Ex.var 0) (Ar.cons (Ex.var 7) (Ar.cons (Ex.var 2) (Ar.nil)))) (fun _ _ _ _ _ _ us hl => match us, hl with | [_, _, _], _ => rfl)))), Ex.var 7⟩)) (Ar.nil))) (Ar.nil)))) (fun _ _ _ _ _ _ us hl => match us, hl with | [_, _, _], _ => rfl)))
    (Sxs.one (Sx.if_ (Ts.ofW (Tw.and (Ts.cmp ck_gt (Ex.ix (hu_of hr) (Ex.var 6) (Ex.int)) (Ex.int)) (Tw.and1 (Ts.truth (Ex.callD d_law_below hr (by decide) (Ar.cons (Ex.callD d_law_over hr (by decide) (Ar.cons (Ex.var 5) (Ar.cons (Ex.var 6) (Ar.nil))) (fun _ _ _ _ _ _ us hl => match us, hl with | [_, _], _ => rfl)) (Ar.cons (Ex.var 3) (Ar.nil))) (fun _ _ _ _ _ _ us hl => match us, hl with | [_, _], _ => rfl)))))) (Sxs.one (Sx.set (i := 3) sc_law_border.nd rfl (by first | exact .inl rfl | exact .inr rfl) (Ex.callD d_law_over hr (by decide) (Ar.cons (Ex.var 5) (Ar.cons (Ex.var 6) (Ar.nil))) (fun _ _ _ _ _ _ us hl => match us, hl with | [_, _], _ => rfl)))) (Sxs.nil))))) (Sxs.nil))))
    (Sxs.one (Sx.ret (Ex.var 3)))))

/-! _law_inside -/
theorem sc_law_inside : FnScope ["box", "web", "chances", "turn", "hand", "one"] ["box", "web"] (defScope (topS 51)) := ⟨rfl, rfl, rfl, by decide +kernel, rfl, by decide +kernel, by decide +kernel⟩
abbrev Ok_law_inside (P : Program) (w : World) (K : PySem.W.Frag) (mg : Str → Option Value) (base : Heap) : Prop := DefOk P w K mg base 9 "_law_inside" "_law_inside" (topS 51) ["box", "web"] (some 0) f_law_inside
theorem ok_law_inside {P : Program} {w : World} {K : PySem.W.Frag} {mg : Str → Option Value} {base : Heap} (M : Blts mg) (h : Here K mg "_law_inside" "_law_inside" (topS 51)) (d_law_drawn_chances : Ok_law_drawn_chances P w K mg base) (d_law_fault : Ok_law_fault P w K mg base) (d_law_times : Ok_law_times P w K mg base) (d_law_take : Ok_law_take P w K mg base) (d_law_border : Ok_law_border P w K mg base) : Ok_law_inside P w K mg base :=
  def_ok h sc_law_inside fun f0 cdv0 A0 outer0 s00 H00 E0 hr =>
    (Sxs.cons (Sx.set (i := 2) sc_law_inside.nd rfl (by first | exact .inl rfl | exact .inr rfl) (Ex.callD d_law_drawn_chances hr (by decide) (Ar.cons (Ex.var 0) (Ar.cons (Ex.var 1) (Ar.nil))) (fun _ _ _ _ _ _ us hl => match us, hl with | [_, _], _ => rfl)))
    (Sxs.cons (Sx.for_ PassesOwn.never rfl (Ix.range1 M.range (Ar.cons (Ex.int) (Ar.nil))) (Tg.name (i := 3) sc_law_inside.nd rfl (by first | exact .inl rfl | exact .inr rfl)) (Sxs.cons (Sx.if_ (Ts.cmp ck_is (Ex.callD d_law_fault hr (by decide) (Ar.cons (Ex.var 1) (Ar.cons (Ex.var 2) (Ar.nil))) (fun _ _ _ _ _ _ us hl => match us, hl with | [_, _], _ => rfl)) (Ex.non)) (Sxs.one (Sx.brk)) (Sxs.nil))
    (Sxs.one (Sx.set (i := 2) sc_law_inside.nd rfl (by first | exact .inl rfl | exact .inr rfl) (Ex.toTup M.tuple (Ar.cons (Ex.comp (own := [("one", 5)]) (is := [5]) rfl sc_law_inside.nd (blkOk_by (by kernel_rfl)) (by decide) (by decide) (TOk.name 5) (Ix.seq (Ex.var 2)) (fun Y hY => by obtain ⟨s0, H0, C0, cl0, fp0, rfl⟩ := hY; exact ⟨Tg.name (i := 5) sc_law_inside.nd rfl (by first | exact .inl rfl | exact .inr rfl), Tts.nil, Ex.callD d_law_times hr (by decide) (Ar.cons (Ex.var 5) (Ar.cons (Ex.tup (Ar.cons (Ex.int) (Ar.cons (Ex.int) (Ar.nil)))) (Ar.nil))) (fun _ _ _ _ _ _ us hl => match us, hl with | [_, _], _ => rfl)⟩)) (Ar.nil)))))))
    (Sxs.cons (Sx.if_ (Ts.cmp (ck_eq hr.units) (Ex.callD d_law_take hr (by decide) (Ar.cons (Ex.var 0) (Ar.cons (Ex.int) (Ar.nil))) (fun _ _ _ _ _ _ us hl => match us, hl with | [_, _], _ => rfl)) (Ex.int)) (Sxs.cons (Sx.set (i := 4) sc_law_inside.nd rfl (by first | exact .inl rfl | exact .inr rfl) (Ex.callD d_law_take hr (by decide) (Ar.cons (Ex.var 0) (Ar.cons (Ex.ix (hu_of hr) (Ex.var 1) (Ex.int)) (Ar.nil))) (fun _ _ _ _ _ _ us hl => match us, hl with | [_, _], _ => rfl)))
    (Sxs.one (Sx.set (i := 2) sc_law_inside.nd rfl (by first | exact .inl rfl | exact .inr rfl) (Ex.add (Ex.add (Ex.slice (Ex.var 2) Op.none (Op.some (Ex.var 4))) (Ex.tup (Ar.cons (Ex.callD d_law_border hr (by decide) (Ar.cons (Ex.var 1) (Ar.cons (Ex.var 2) (Ar.cons (Ex.var 4) (Ar.nil)))) (fun _ _ _ _ _ _ us hl => match us, hl with | [_, _, _], _ => rfl)) (Ar.nil)))) (Ex.slice (Ex.var 2) (Op.some (Ex.add (Ex.var 4) (Ex.int))) Op.none))))) (Sxs.nil))
    (Sxs.one (Sx.ret (Ex.var 2))))))

/-! _law_slim -/
theorem sc_law_slim : FnScope ["web", "things", "kept", "lot", "other", "hand"] ["web"] (defScope (topS 53)) := ⟨rfl, rfl, rfl, by decide +kernel, rfl, by decide +kernel, by decide +kernel⟩
abbrev Ok_law_slim (P : Program) (w : World) (K : PySem.W.Frag) (mg : Str → Option Value) (base : Heap) : Prop := DefOk P w K mg base 1 "_law_slim" "_law_slim" (topS 53) ["web"] none f_law_slim
theorem ok_law_slim {P : Program} {w : World} {K : PySem.W.Frag} {mg : Str → Option Value} {base : Heap} (M : Blts mg) (h : Here K mg "_law_slim" "_law_slim" (topS 53)) : Ok_law_slim P w K mg base :=
  def_ok h sc_law_slim fun f0 cdv0 A0 outer0 s00 H00 E0 hr =>
    (Sxs.cons (Sx.set (i := 1) sc_law_slim.nd rfl (by first | exact .inl rfl | exact .inr rfl) (Ex.sortedSet rfl M.sorted M.set (Ex.ix (hu_of hr) (Ex.var 0) (Ex.int))))
    (Sxs.cons (Sx.setComp (i := 2) (own := [("lot", 3)]) (is := [3]) rfl sc_law_slim.nd rfl (blkOk_by (by kernel_rfl)) (by decide) (by decide) (TOk.name 3) (Ix.seq (Ex.var 1)) (fun Y hY => by obtain ⟨s0, H0, C0, cl0, fp0, rfl⟩ := hY; exact ⟨Tg.name (i := 3) sc_law_slim.nd rfl (by first | exact .inl rfl | exact .inr rfl), Tts.one (Ts.cmp (ck_eq hr.units) (Ex.comp (own := [("other", 4)]) (is := [4]) rfl sc_law_slim.nd (blkOk_by (by kernel_rfl)) (by decide) (by decide) (TOk.name 4) (Ix.seq (Ex.var 1)) (fun Y hY => by obtain ⟨s0, H0, C0, cl0, fp0, rfl⟩ := hY; exact ⟨Tg.name (i := 4) sc_law_slim.nd rfl (by first | exact .inl rfl | exact .inr rfl), Tts.one (Ts.ofW (Tw.and (Ts.cmp (ck_ne hr.units) (Ex.var 4) (Ex.var 3)) (Tw.and1 (Ts.cmp (ck_eq hr.units) (Ex.comp (own := [("hand", 5)]) (is := [5]) rfl sc_law_slim.nd (blkOk_by (by kernel_rfl)) (by decide) (by decide) (TOk.name 5) (Ix.seq (Ex.var 3)) (fun Y hY => by obtain ⟨s0, H0, C0, cl0, fp0, rfl⟩ := hY; exact ⟨Tg.name (i := 5) sc_law_slim.nd rfl (by first | exact .inl rfl | exact .inr rfl), Tts.one (Ts.cmp (ck_notin (u65 hr)) (Ex.var 5) (Ex.var 4)), Ex.int⟩)) (Ex.lst (Ar.nil)))))), Ex.int⟩)) (Ex.lst (Ar.nil))), Ex.var 3⟩))
    (Sxs.one (Sx.ret (Ex.tup (Ar.cons (Ex.ix (hu_of hr) (Ex.var 0) (Ex.int)) (Ar.cons (Ex.toTup M.tuple (Ar.cons (Ex.var 2) (Ar.nil))) (Ar.nil))))))))

/-! _law_court -/
theorem sc_law_court : FnScope ["box", "most", "web"] ["box", "most"] (defScope (topS 54)) := ⟨rfl, rfl, rfl, by decide +kernel, rfl, by decide +kernel, by decide +kernel⟩
abbrev Ok_law_court (P : Program) (w : World) (K : PySem.W.Frag) (mg : Str → Option Value) (base : Heap) : Prop := DefOk P w K mg base 6 "_law_court" "_law_court" (topS 54) ["box", "most"] (some 0) f_law_court
theorem ok_law_court {P : Program} {w : World} {K : PySem.W.Frag} {mg : Str → Option Value} {base : Heap} (M : Blts mg) (h : Here K mg "_law_court" "_law_court" (topS 54)) (d_law_web : Ok_law_web P w K mg base) (d_law_slim : Ok_law_slim P w K mg base) : Ok_law_court P w K mg base :=
  def_ok h sc_law_court fun f0 cdv0 A0 outer0 s00 H00 E0 hr =>
    (Sxs.cons (Sx.set (i := 2) sc_law_court.nd rfl (by first | exact .inl rfl | exact .inr rfl) (Ex.callD d_law_web hr (by decide) (Ar.cons (Ex.var 0) (Ar.cons (Ex.var 1) (Ar.nil))) (fun _ _ _ _ _ _ us hl => match us, hl with | [_, _], _ => rfl)))
    (Sxs.one (Sx.ret (Ex.ife (Ts.cmp (ck_lt hr.units) (Ex.len M.len (Ar.cons (Ex.ix (hu_of hr) (Ex.var 2) (Ex.int)) (Ar.nil))) (Ex.int)) (Ex.var 2) (Ex.callD d_law_slim hr (by decide) (Ar.cons (Ex.var 2) (Ar.nil)) (fun _ _ _ _ _ _ us hl => match us, hl with | [_], _ => rfl))))))

/-! law -/
theorem sc_law : FnScope ["script", "k", "box", "web", "chances", "due", "small", "hand", "told", "lot", "one"] ["script"] (defScope (topS 55)) := ⟨rfl, rfl, rfl, by decide +kernel, rfl, by decide +kernel, by decide +kernel⟩
def b_law : SS :=
    seqS (ifS (orT (ofV (bin2 (cmpV isNotN) (callE none f_is_open (consA (tupF (consA (valF (.int 2)) (consA (tupF (consA (tupF (consA (valF (.int 0)) (consA (valF (.int 1)) (nilA)))) (nilA))) (nilA)))) (consA (tupF (consA (tupF (consA (valF (.int 1)) (consA (valF (.int 2)) (nilA)))) (consA (tupF (consA (valF (.int 1)) (consA (valF (.int 2)) (nilA)))) (nilA)))) (nilA)))) (valF (.bl false)))) (ofV (bin2 (cmpV isNotN) (callE none f_is_open (consA (tupF (consA (valF (.int 2)) (consA (tupF (consA (tupF (consA (valF (.int 0)) (consA (valF (.int 1)) (nilA)))) (nilA))) (nilA)))) (consA (tupF (consA (tupF (consA (valF (.int 1)) (consA (valF (.int 2)) (nilA)))) (consA (tupF (consA (valF (.int 1)) (consA (valF (.int 3)) (nilA)))) (nilA)))) (nilA)))) (valF (.bl true))))) (retS (valF (.bl false))) (skipS))
    (seqS (forS (rng1I (consA (bltE max2K (consA (valF (.int 3)) (consA (bltE min2K (consA (bltE lenK (consA (varF 0) (nilA))) (consA (valF (.int 6)) (nilA)))) (nilA)))) (nilA))) (nameT 1) (seqS (setS 2 (callE none f_law_box (consA (varF 0) (consA (varF 1) (nilA)))))
    (seqS (setS 3 (callE (some 0) f_law_court (consA (varF 2) (consA (valF (.int 6)) (nilA)))))
    (seqS (setS 4 (callE (some 0) f_law_inside (consA (varF 2) (consA (varF 3) (nilA)))))
    (seqS (setS 5 (bin2 (cmpV eqK) (compE [9] (seqI (callE none f_law_lots (consA (bin2 ixD (varF 3) (valF (.int 0))) (nilA)))) (nameT 9) (ofV (bin2 (cmpV (iiB fun i j => decide (i ≤ j))) (bin2 ixD (callE none f_law_sum_of (consA (varF 3) (consA (varF 4) (consA (varF 9) (nilA))))) (valF (.int 0))) (valF (.int 0)))) (valF (.int 1))) (lstF (nilA))))
    (seqS (ifS (notT (truT (callE none f_law_like (consA (callE none f_is_open (appA (consA (varF 3) (nilA)) (consA (varF 4) (nilA)))) (consA (varF 5) (nilA)))))) (retS (valF (.bl false))) (skipS))
    (seqS (setS 6 (callE (some 0) f_law_pick (consA (varF 2) (consA (lstF (consA (tupF (consA (valF (.int 1)) (consA (valF (.int 2)) (nilA)))) (consA (tupF (consA (valF (.int 99)) (consA (valF (.int 100)) (nilA)))) (consA (tupF (consA (bin2 (iiD subI) (bin2 (iiD powI) (valF (.int 10)) (valF (.int 6))) (valF (.int 1))) (consA (bin2 (iiD powI) (valF (.int 10)) (valF (.int 6))) (nilA)))) (nilA))))) (nilA)))))
    (seqS (ifS (ofV (bin2 (cmpV isNotN) (callE none f_is_open (consA (varF 3) (consA (bltE tupK (consA (compE [10] (seqI (varF 4)) (nameT 10) (yesT) (callE none f_law_times (consA (varF 10) (consA (varF 6) (nilA))))) (nilA))) (nilA)))) (valF (.bl true)))) (retS (valF (.bl false))) (skipS))
    (seqS (setS 7 (callE (some 0) f_law_take (consA (varF 2) (consA (bin2 ixD (varF 3) (valF (.int 0))) (nilA)))))
    (seqS (setS 8 (callE none f_border_chance (consA (varF 3) (consA (varF 4) (consA (varF 7) (nilA))))))
    (ifS (orT (notT (truT (callE none f_law_like (consA (varF 8) (consA (callE none f_law_border (consA (varF 3) (consA (varF 4) (consA (varF 7) (nilA))))) (nilA)))))) (ofV (bin2 (cmpV isNotN) (callE none f_is_open (consA (varF 3) (consA (bin2 addD (bin2 addD (slF (varF 4) none (some (varF 7))) (tupF (consA (varF 8) (nilA)))) (slF (varF 4) (some (bin2 addD (varF 7) (valF (.int 1)))) none)) (nilA)))) (valF (.bl false))))) (retS (valF (.bl false))) (skipS))))))))))))
    (retS (valF (.bl true))))
def f_law : Fn := fnD 11 none b_law
abbrev Ok_law (P : Program) (w : World) (K : PySem.W.Frag) (mg : Str → Option Value) (base : Heap) : Prop := DefOk P w K mg base 10 "law" "law" (topS 55) ["script"] none f_law
theorem ok_law {P : Program} {w : World} {K : PySem.W.Frag} {mg : Str → Option Value} {base : Heap} (M : Blts mg) (h : Here K mg "law" "law" (topS 55)) (d_is_open : Ok_is_open P w K mg base) (d_law_box : Ok_law_box P w K mg base) (d_law_court : Ok_law_court P w K mg base) (d_law_inside : Ok_law_inside P w K mg base) (d_law_lots : Ok_law_lots P w K mg base) (d_law_sum_of : Ok_law_sum_of P w K mg base) (d_law_like : Ok_law_like P w K mg base) (d_law_pick : Ok_law_pick P w K mg base) (d_law_times : Ok_law_times P w K mg base) (d_law_take : Ok_law_take P w K mg base) (d_border_chance : Ok_border_chance P w K mg base) (d_law_border : Ok_law_border P w K mg base) : Ok_law P w K mg base :=
  def_ok h sc_law fun f0 cdv0 A0 outer0 s00 H00 E0 hr =>
    (Sxs.cons (Sx.if_ (Ts.ofW (Tw.or (Ts.cmp ck_isnot (Ex.callD d_is_open hr (by decide) (Ar.cons (Ex.tup (Ar.cons (Ex.int) (Ar.cons (Ex.tup (Ar.cons (Ex.tup (Ar.cons (Ex.int) (Ar.cons (Ex.int) (Ar.nil)))) (Ar.nil))) (Ar.nil)))) (Ar.cons (Ex.tup (Ar.cons (Ex.tup (Ar.cons (Ex.int) (Ar.cons (Ex.int) (Ar.nil)))) (Ar.cons (Ex.tup (Ar.cons (Ex.int) (Ar.cons (Ex.int) (Ar.nil)))) (Ar.nil)))) (Ar.nil))) (fun _ _ _ _ _ _ us hl => match us, hl with | [_, _], _ => rfl)) (Ex.bl)) (Tw.or1 (Ts.cmp ck_isnot (Ex.callD d_is_open hr (by decide) (Ar.cons (Ex.tup (Ar.cons (Ex.int) (Ar.cons (Ex.tup (Ar.cons (Ex.tup (Ar.cons (Ex.int) (Ar.cons (Ex.int) (Ar.nil)))) (Ar.nil))) (Ar.nil)))) (Ar.cons (Ex.tup (Ar.cons (Ex.tup (Ar.cons (Ex.int) (Ar.cons (Ex.int) (Ar.nil)))) (Ar.cons (Ex.tup (Ar.cons (Ex.int) (Ar.cons (Ex.int) (Ar.nil)))) (Ar.nil)))) (Ar.nil))) (fun _ _ _ _ _ _ us hl => match us, hl with | [_, _], _ => rfl)) (Ex.bl))))) (Sxs.one (Sx.ret (Ex.bl))) (Sxs.nil))
    (Sxs.cons (Sx.for_ PassesOwn.never rfl (Ix.range1 M.range (Ar.cons (Ex.max2 rfl M.max (Ar.cons (Ex.int) (Ar.cons (Ex.min2 rfl M.min (Ar.cons (Ex.len M.len (Ar.cons (Ex.var 0) (Ar.nil))) (Ar.cons (Ex.int) (Ar.nil)))) (Ar.nil)))) (Ar.nil))) (Tg.name (i := 1) sc_law.nd rfl (by first | exact .inl rfl | exact .inr rfl)) (Sxs.cons (Sx.set (i := 2) sc_law.nd rfl (by first | exact .inl rfl | exact .inr rfl) (Ex.callD d_law_box hr (by decide) (Ar.cons (Ex.var 0) (Ar.cons (Ex.var 1) (Ar.nil))) (fun _ _ _ _ _ _ us hl => match us, hl with | [_, _], _ => rfl)))
    (Sxs.cons (Sx.set (i := 3) sc_law.nd rfl (by first | exact .inl rfl | exact .inr rfl) (Ex.callD d_law_court hr (by decide) (Ar.cons (Ex.var 2) (Ar.cons (Ex.int) (Ar.nil))) (fun _ _ _ _ _ _ us hl => match us, hl with | [_, _], _ => rfl)))
    (Sxs.cons (Sx.set (i := 4) sc_law.nd rfl (by first | exact .inl rfl | exact .inr rfl) (Ex.callD d_law_inside hr (by decide) (Ar.cons (Ex.var 2) (Ar.cons (Ex.var 3) (Ar.nil))) (fun _ _ _ _ _ _ us hl => match us, hl with | [_, _], _ => rfl)))
    (Sxs.cons (Sx.set (i := 5) sc_law.nd rfl (by first | exact .inl rfl | exact .inr rfl) (Ex.cmp (ck_eq hr.units) (Ex.comp (own := [("lot", 9)]) (is := [9]) rfl sc_law.nd (blkOk_by (by kernel_rfl)) (by decide) (by decide) (TOk.name 9) (Ix.seq (Ex.callD d_law_lots hr (by decide) (Ar.cons (Ex.ix (hu_of hr) (Ex.var 3) (Ex.int)) (Ar.nil)) (fun _ _ _ _ _ _ us hl => match us, hl with | [_], _ => rfl))) (fun Y hY => by obtain ⟨s0, H0, C0, cl0, fp0, rfl⟩ := hY; exact ⟨Tg.name (i := 9) sc_law.nd rfl (by first | exact .inl rfl | exact .inr rfl), Tts.one (Ts.cmp ck_le (Ex.ix (hu_of hr) (Ex.callD d_law_sum_of hr (by decide) (Ar.cons (Ex.var 3) (Ar.cons (Ex.var 4) (Ar.cons (Ex.var 9) (Ar.nil)))) (fun _ _ _ _ _ _ us hl => match us, hl with | [_, _, _], _ => rfl)) (Ex.int)) (Ex.int)), Ex.int⟩)) (Ex.lst (Ar.nil))))
    (Sxs.cons (Sx.if_ (Ts.not (Ts.truth (Ex.callD d_law_like hr (by decide) (Ar.cons (Ex.callKD (ks := ["chances"]) d_is_open hr (by decide) (Ar.cons (Ex.var 3) (Ar.nil)) (Kw.cons (Ex.var 4) (Kw.nil)) (by decide) (fun _ _ _ _ _ _ us ws h1 h2 => match us, ws, h1, h2 with | [_], [_], _, _ => rfl)) (Ar.cons (Ex.var 5) (Ar.nil))) (fun _ _ _ _ _ _ us hl => match us, hl with | [_, _], _ => rfl)))) (Sxs.one (Sx.ret (Ex.bl))) (Sxs.nil))
    (Sxs.cons (Sx.set (i := 6) sc_law.nd rfl (by first | exact .inl rfl | exact .inr rfl) (Ex.callD d_law_pick hr (by decide) (Ar.cons (Ex.var 2) (Ar.cons (Ex.lst (Ar.cons (Ex.tup (Ar.cons (Ex.int) (Ar.cons (Ex.int) (Ar.nil)))) (Ar.cons (Ex.tup (Ar.cons (Ex.int) (Ar.cons (Ex.int) (Ar.nil)))) (Ar.cons (Ex.tup (Ar.cons (Ex.sub (Ex.pow (Ex.int) (Ex.int)) (Ex.int)) (Ar.cons (Ex.pow (Ex.int) (Ex.int)) (Ar.nil)))) (Ar.nil))))) (Ar.nil))) (fun _ _ _ _ _ _ us hl => match us, hl with | [_, _], _ => rfl)))
    (Sxs.cons (Sx.if_ (Ts.cmp ck_isnot (Ex.callD d_is_open hr (by decide) (Ar.cons (Ex.var 3) (Ar.cons (Ex.toTup M.tuple (Ar.cons (Ex.comp (own := [("one", 10)]) (is := [10]) rfl sc_law.nd (blkOk_by (by kernel_rfl)) (by decide) (by decide) (TOk.name 10) (Ix.seq (Ex.var 4)) (fun Y hY => by obtain ⟨s0, H0, C0, cl0, fp0, rfl⟩ := hY; exact ⟨Tg.name (i := 10) sc_law.nd rfl (by first | exact .inl rfl | exact .inr rfl), Tts.nil, Ex.callD d_law_times hr (by decide) (Ar.cons (Ex.var 10) (Ar.cons (Ex.var 6) (Ar.nil))) (fun _ _ _ _ _ _ us hl => match us, hl with | [_, _], _ => rfl)⟩)) (Ar.nil))) (Ar.nil))) (fun _ _ _ _ _ _ us hl => match us, hl with | [_, _], _ => rfl)) (Ex.bl)) (Sxs.one (Sx.ret (Ex.bl))) (Sxs.nil))
    (Sxs.cons (Sx.set (i := 7) sc_law.nd rfl (by first | exact .inl rfl | exact .inr rfl) (Ex.callD d_law_take hr (by decide) (Ar.cons (Ex.var 2) (Ar.cons (Ex.ix (hu_of hr) (Ex.var 3) (Ex.int)) (Ar.nil))) (fun _ _ _ _ _ _ us hl => match us, hl with | [_, _], _ => rfl)))
    (Sxs.cons (Sx.set (i := 8) sc_law.nd rfl (by first | exact .inl rfl | exact .inr rfl) (Ex.callD d_border_chance hr (by decide) (Ar.cons (Ex.var 3) (Ar.cons (Ex.var 4) (Ar.cons (Ex.var 7) (Ar.nil)))) (fun _ _ _ _ _ _ us hl => match us, hl with | [_, _, _], _ => rfl)))
    (Sxs.one (Sx.if_ (Ts.ofW (Tw.or (Ts.not (Ts.truth (Ex.callD d_law_like hr (by decide) (Ar.cons (Ex.var 8) (Ar.cons (Ex.callD d_law_border hr (by decide) (Ar.cons (Ex.var 3) (Ar.cons (Ex.var 4) (Ar.cons (Ex.var 7) (Ar.nil)))) (fun _ _ _ _ _ _ us hl => match us, hl with | [_, _, _], _ => rfl)) (Ar.nil))) (fun _ _ _ _ _ _ us hl => match us, hl with | [_, _], _ => rfl)))) (Tw.or1 (Ts.cmp ck_isnot (Ex.callD d_is_open hr (by decide) (Ar.cons (Ex.var 3) (Ar.cons (Ex.add (Ex.add (Ex.slice (Ex.var 4) Op.none (Op.some (Ex.var 7))) (Ex.tup (Ar.cons (Ex.var 8) (Ar.nil)))) (Ex.slice (Ex.var 4) (Op.some (Ex.add (Ex.var 7) (Ex.int))) Op.none)) (Ar.nil))) (fun _ _ _ _ _ _ us hl => match us, hl with | [_, _], _ => rfl)) (Ex.bl))))) (Sxs.one (Sx.ret (Ex.bl))) (Sxs.nil)))))))))))))
    (Sxs.one (Sx.ret (Ex.bl)))))

/-! all of it -/
structure Heres (K : PySem.W.Frag) (mg : Str → Option Value) : Prop where
  M : Blts mg
  h_common_divisor : Here K mg "common_divisor" "common_divisor" (topS 4)
  h_touches : Here K mg "touches" "touches" (topS 6)
  h_touching : Here K mg "touching" "touching" (topS 7)
  h_lowest : Here K mg "lowest" "lowest" (topS 11)
  h_minus : Here K mg "minus" "minus" (topS 12)
  h_times : Here K mg "times" "times" (topS 13)
  h_over : Here K mg "over" "over" (topS 14)
  h_is_less : Here K mg "is_less" "is_less" (topS 15)
  h_lot_order : Here K mg "lot_order" "lot_order" (topS 17)
  h_lots_of : Here K mg "lots_of" "lots_of" (topS 16)
  h_without : Here K mg "without" "without" (topS 18)
  h_sums_within : Here K mg "sums_within" "sums_within" (topS 19)
  h_first_below : Here K mg "first_below" "first_below" (topS 21)
  h_is_open : Here K mg "is_open" "is_open" (topS 22)
  h_border_rows : Here K mg "border_rows" "border_rows" (topS 23)
  h_border_chance : Here K mg "border_chance" "border_chance" (topS 24)
  h_law_box : Here K mg "_law_box" "_law_box" (topS 26)
  h_law_take : Here K mg "_law_take" "_law_take" (topS 27)
  h_law_pick : Here K mg "_law_pick" "_law_pick" (topS 28)
  h_law_like : Here K mg "_law_like" "_law_like" (topS 29)
  h_law_shuffled : Here K mg "_law_shuffled" "_law_shuffled" (topS 30)
  h_law_lots : Here K mg "_law_lots" "_law_lots" (topS 31)
  h_law_named : Here K mg "_law_named" "_law_named" (topS 32)
  h_law_forest : Here K mg "_law_forest" "_law_forest" (topS 33)
  h_law_ring : Here K mg "_law_ring" "_law_ring" (topS 34)
  h_law_any_web : Here K mg "_law_any_web" "_law_any_web" (topS 35)
  h_law_web : Here K mg "_law_web" "_law_web" (topS 36)
  h_law_touch : Here K mg "_law_touch" "_law_touch" (topS 37)
  h_law_apart : Here K mg "_law_apart" "_law_apart" (topS 38)
  h_law_gcd : Here K mg "_law_gcd" "_law_gcd" (topS 39)
  h_law_part : Here K mg "_law_part" "_law_part" (topS 40)
  h_law_plus : Here K mg "_law_plus" "_law_plus" (topS 41)
  h_law_times : Here K mg "_law_times" "_law_times" (topS 42)
  h_law_over : Here K mg "_law_over" "_law_over" (topS 43)
  h_law_chances : Here K mg "_law_chances" "_law_chances" (topS 44)
  h_law_sum_of : Here K mg "_law_sum_of" "_law_sum_of" (topS 45)
  h_law_fault : Here K mg "_law_fault" "_law_fault" (topS 46)
  h_law_enough_for : Here K mg "_law_enough_for" "_law_enough_for" (topS 47)
  h_law_marks : Here K mg "_law_marks" "_law_marks" (topS 48)
  h_law_below : Here K mg "_law_below" "_law_below" (topS 49)
  h_law_drawn_chances : Here K mg "_law_drawn_chances" "_law_drawn_chances" (topS 50)
  h_law_border : Here K mg "_law_border" "_law_border" (topS 52)
  h_law_inside : Here K mg "_law_inside" "_law_inside" (topS 51)
  h_law_slim : Here K mg "_law_slim" "_law_slim" (topS 53)
  h_law_court : Here K mg "_law_court" "_law_court" (topS 54)
  h_law : Here K mg "law" "law" (topS 55)
  g_NOUGHT : GlobC K mg "NOUGHT" (.kt [.int 0, .int 1])
  g_ONE : GlobC K mg "ONE" (.kt [.int 1, .int 1])
section
variable {P : Program} {w : World} {K : PySem.W.Frag} {mg : Str → Option Value} {base : Heap}
theorem all_common_divisor (T : Heres K mg) : Ok_common_divisor P w K mg base := ok_common_divisor T.M T.h_common_divisor
theorem all_touches (T : Heres K mg) : Ok_touches P w K mg base := ok_touches T.M T.h_touches
theorem all_touching (T : Heres K mg) : Ok_touching P w K mg base := ok_touching T.M T.h_touching (all_touches T)
theorem all_lowest (T : Heres K mg) : Ok_lowest P w K mg base := ok_lowest T.M T.h_lowest (all_common_divisor T)
theorem all_minus (T : Heres K mg) : Ok_minus P w K mg base := ok_minus T.M T.h_minus (all_lowest T)
theorem all_times (T : Heres K mg) : Ok_times P w K mg base := ok_times T.M T.h_times (all_lowest T)
theorem all_over (T : Heres K mg) : Ok_over P w K mg base := ok_over T.M T.h_over (all_lowest T)
theorem all_is_less (T : Heres K mg) : Ok_is_less P w K mg base := ok_is_less T.M T.h_is_less
theorem all_lot_order (T : Heres K mg) : Ok_lot_order P w K mg base := ok_lot_order T.M T.h_lot_order
theorem all_lots_of (T : Heres K mg) : Ok_lots_of P w K mg base := ok_lots_of T.M T.h_lots_of (all_lot_order T)
theorem all_without (T : Heres K mg) : Ok_without P w K mg base := ok_without T.M T.h_without
theorem all_sums_within (T : Heres K mg) : Ok_sums_within P w K mg base := ok_sums_within T.M T.h_sums_within (all_touching T) (all_lots_of T) (all_times T) (all_without T) (all_minus T) T.g_ONE
theorem all_first_below (T : Heres K mg) : Ok_first_below P w K mg base := ok_first_below T.M T.h_first_below (all_is_less T) T.g_NOUGHT
theorem all_is_open (T : Heres K mg) : Ok_is_open P w K mg base := ok_is_open T.M T.h_is_open (all_sums_within T) (all_is_less T) T.g_NOUGHT
theorem all_border_rows (T : Heres K mg) : Ok_border_rows P w K mg base := ok_border_rows T.M T.h_border_rows (all_touching T) (all_sums_within T) (all_first_below T) (all_lots_of T) (all_without T)
theorem all_border_chance (T : Heres K mg) : Ok_border_chance P w K mg base := ok_border_chance T.M T.h_border_chance (all_border_rows T) (all_is_less T) (all_over T) T.g_ONE T.g_NOUGHT
theorem all_law_box (T : Heres K mg) : Ok_law_box P w K mg base := ok_law_box T.M T.h_law_box
theorem all_law_take (T : Heres K mg) : Ok_law_take P w K mg base := ok_law_take T.M T.h_law_take
theorem all_law_pick (T : Heres K mg) : Ok_law_pick P w K mg base := ok_law_pick T.M T.h_law_pick (all_law_take T)
theorem all_law_like (T : Heres K mg) : Ok_law_like P w K mg base := ok_law_like T.M T.h_law_like
theorem all_law_shuffled (T : Heres K mg) : Ok_law_shuffled P w K mg base := ok_law_shuffled T.M T.h_law_shuffled (all_law_take T)
theorem all_law_lots (T : Heres K mg) : Ok_law_lots P w K mg base := ok_law_lots T.M T.h_law_lots
theorem all_law_named (T : Heres K mg) : Ok_law_named P w K mg base := ok_law_named T.M T.h_law_named (all_law_shuffled T)
theorem all_law_forest (T : Heres K mg) : Ok_law_forest P w K mg base := ok_law_forest T.M T.h_law_forest (all_law_take T) (all_law_named T)
theorem all_law_ring (T : Heres K mg) : Ok_law_ring P w K mg base := ok_law_ring T.M T.h_law_ring (all_law_take T) (all_law_named T)
theorem all_law_any_web (T : Heres K mg) : Ok_law_any_web P w K mg base := ok_law_any_web T.M T.h_law_any_web (all_law_take T) (all_law_named T)
theorem all_law_web (T : Heres K mg) : Ok_law_web P w K mg base := ok_law_web T.M T.h_law_web (all_law_take T) (all_law_forest T) (all_law_ring T) (all_law_any_web T)
theorem all_law_touch (T : Heres K mg) : Ok_law_touch P w K mg base := ok_law_touch T.M T.h_law_touch
theorem all_law_apart (T : Heres K mg) : Ok_law_apart P w K mg base := ok_law_apart T.M T.h_law_apart (all_law_touch T)
theorem all_law_gcd (T : Heres K mg) : Ok_law_gcd P w K mg base := ok_law_gcd T.M T.h_law_gcd
theorem all_law_part (T : Heres K mg) : Ok_law_part P w K mg base := ok_law_part T.M T.h_law_part (all_law_gcd T)
theorem all_law_plus (T : Heres K mg) : Ok_law_plus P w K mg base := ok_law_plus T.M T.h_law_plus (all_law_part T)
theorem all_law_times (T : Heres K mg) : Ok_law_times P w K mg base := ok_law_times T.M T.h_law_times (all_law_part T)
theorem all_law_over (T : Heres K mg) : Ok_law_over P w K mg base := ok_law_over T.M T.h_law_over (all_law_part T)
theorem all_law_chances (T : Heres K mg) : Ok_law_chances P w K mg base := ok_law_chances T.M T.h_law_chances
theorem all_law_sum_of (T : Heres K mg) : Ok_law_sum_of P w K mg base := ok_law_sum_of T.M T.h_law_sum_of (all_law_apart T) (all_law_times T) (all_law_plus T)
theorem all_law_fault (T : Heres K mg) : Ok_law_fault P w K mg base := ok_law_fault T.M T.h_law_fault (all_law_lots T) (all_law_sum_of T)
theorem all_law_enough_for (T : Heres K mg) : Ok_law_enough_for P w K mg base := ok_law_enough_for T.M T.h_law_enough_for (all_law_fault T) (all_law_chances T)
theorem all_law_marks (T : Heres K mg) : Ok_law_marks P w K mg base := ok_law_marks T.M T.h_law_marks (all_law_pick T) (all_law_take T) (all_law_fault T) (all_law_chances T) (all_law_enough_for T)
theorem all_law_below (T : Heres K mg) : Ok_law_below P w K mg base := ok_law_below T.M T.h_law_below
theorem all_law_drawn_chances (T : Heres K mg) : Ok_law_drawn_chances P w K mg base := ok_law_drawn_chances T.M T.h_law_drawn_chances (all_law_take T) (all_law_chances T) (all_law_marks T) (all_law_part T)
theorem all_law_border (T : Heres K mg) : Ok_law_border P w K mg base := ok_law_border T.M T.h_law_border (all_law_lots T) (all_law_sum_of T) (all_law_touch T) (all_law_below T) (all_law_over T)
theorem all_law_inside (T : Heres K mg) : Ok_law_inside P w K mg base := ok_law_inside T.M T.h_law_inside (all_law_drawn_chances T) (all_law_fault T) (all_law_times T) (all_law_take T) (all_law_border T)
theorem all_law_slim (T : Heres K mg) : Ok_law_slim P w K mg base := ok_law_slim T.M T.h_law_slim
theorem all_law_court (T : Heres K mg) : Ok_law_court P w K mg base := ok_law_court T.M T.h_law_court (all_law_web T) (all_law_slim T)
theorem all_law (T : Heres K mg) : Ok_law P w K mg base := ok_law T.M T.h_law (all_is_open T) (all_law_box T) (all_law_court T) (all_law_inside T) (all_law_lots T) (all_law_sum_of T) (all_law_like T) (all_law_pick T) (all_law_times T) (all_law_take T) (all_border_chance T) (all_law_border T)
end
theorem heres {K : PySem.W.Frag} {h : Heap} {mg : Str → Option Value} (X : K.In h) (G : h.Ns mainGlobals mg)
    {f0 : Addr} {oc0 kV0 dc0 pm0 cd0 ct0 : Value} {od0 an0 : Option Addr} {sl0 : Array (Option Value)}
    {f1 : Addr} {oc1 kV1 dc1 pm1 cd1 ct1 : Value} {od1 an1 : Option Addr} {sl1 : Array (Option Value)}
    {f2 : Addr} {oc2 kV2 dc2 pm2 cd2 ct2 : Value} {od2 an2 : Option Addr} {sl2 : Array (Option Value)}
    {f3 : Addr} {oc3 kV3 dc3 pm3 cd3 ct3 : Value} {od3 an3 : Option Addr} {sl3 : Array (Option Value)}
    {f4 : Addr} {oc4 kV4 dc4 pm4 cd4 ct4 : Value} {od4 an4 : Option Addr} {sl4 : Array (Option Value)}
    {f5 : Addr} {oc5 kV5 dc5 pm5 cd5 ct5 : Value} {od5 an5 : Option Addr} {sl5 : Array (Option Value)}
    {f6 : Addr} {oc6 kV6 dc6 pm6 cd6 ct6 : Value} {od6 an6 : Option Addr} {sl6 : Array (Option Value)}
    {f7 : Addr} {oc7 kV7 dc7 pm7 cd7 ct7 : Value} {od7 an7 : Option Addr} {sl7 : Array (Option Value)}
    {f8 : Addr} {oc8 kV8 dc8 pm8 cd8 ct8 : Value} {od8 an8 : Option Addr} {sl8 : Array (Option Value)}
    {f9 : Addr} {oc9 kV9 dc9 pm9 cd9 ct9 : Value} {od9 an9 : Option Addr} {sl9 : Array (Option Value)}
    {f10 : Addr} {oc10 kV10 dc10 pm10 cd10 ct10 : Value} {od10 an10 : Option Addr} {sl10 : Array (Option Value)}
    {f11 : Addr} {oc11 kV11 dc11 pm11 cd11 ct11 : Value} {od11 an11 : Option Addr} {sl11 : Array (Option Value)}
    {f12 : Addr} {oc12 kV12 dc12 pm12 cd12 ct12 : Value} {od12 an12 : Option Addr} {sl12 : Array (Option Value)}
    {f13 : Addr} {oc13 kV13 dc13 pm13 cd13 ct13 : Value} {od13 an13 : Option Addr} {sl13 : Array (Option Value)}
    {f14 : Addr} {oc14 kV14 dc14 pm14 cd14 ct14 : Value} {od14 an14 : Option Addr} {sl14 : Array (Option Value)}
    {f15 : Addr} {oc15 kV15 dc15 pm15 cd15 ct15 : Value} {od15 an15 : Option Addr} {sl15 : Array (Option Value)}
    {f16 : Addr} {oc16 kV16 dc16 pm16 cd16 ct16 : Value} {od16 an16 : Option Addr} {sl16 : Array (Option Value)}
    {f17 : Addr} {oc17 kV17 dc17 pm17 cd17 ct17 : Value} {od17 an17 : Option Addr} {sl17 : Array (Option Value)}
    {f18 : Addr} {oc18 kV18 dc18 pm18 cd18 ct18 : Value} {od18 an18 : Option Addr} {sl18 : Array (Option Value)}
    {f19 : Addr} {oc19 kV19 dc19 pm19 cd19 ct19 : Value} {od19 an19 : Option Addr} {sl19 : Array (Option Value)}
    {f20 : Addr} {oc20 kV20 dc20 pm20 cd20 ct20 : Value} {od20 an20 : Option Addr} {sl20 : Array (Option Value)}
    {f21 : Addr} {oc21 kV21 dc21 pm21 cd21 ct21 : Value} {od21 an21 : Option Addr} {sl21 : Array (Option Value)}
    {f22 : Addr} {oc22 kV22 dc22 pm22 cd22 ct22 : Value} {od22 an22 : Option Addr} {sl22 : Array (Option Value)}
    {f23 : Addr} {oc23 kV23 dc23 pm23 cd23 ct23 : Value} {od23 an23 : Option Addr} {sl23 : Array (Option Value)}
    {f24 : Addr} {oc24 kV24 dc24 pm24 cd24 ct24 : Value} {od24 an24 : Option Addr} {sl24 : Array (Option Value)}
    {f25 : Addr} {oc25 kV25 dc25 pm25 cd25 ct25 : Value} {od25 an25 : Option Addr} {sl25 : Array (Option Value)}
    {f26 : Addr} {oc26 kV26 dc26 pm26 cd26 ct26 : Value} {od26 an26 : Option Addr} {sl26 : Array (Option Value)}
    {f27 : Addr} {oc27 kV27 dc27 pm27 cd27 ct27 : Value} {od27 an27 : Option Addr} {sl27 : Array (Option Value)}
    {f28 : Addr} {oc28 kV28 dc28 pm28 cd28 ct28 : Value} {od28 an28 : Option Addr} {sl28 : Array (Option Value)}
    {f29 : Addr} {oc29 kV29 dc29 pm29 cd29 ct29 : Value} {od29 an29 : Option Addr} {sl29 : Array (Option Value)}
    {f30 : Addr} {oc30 kV30 dc30 pm30 cd30 ct30 : Value} {od30 an30 : Option Addr} {sl30 : Array (Option Value)}
    {f31 : Addr} {oc31 kV31 dc31 pm31 cd31 ct31 : Value} {od31 an31 : Option Addr} {sl31 : Array (Option Value)}
    {f32 : Addr} {oc32 kV32 dc32 pm32 cd32 ct32 : Value} {od32 an32 : Option Addr} {sl32 : Array (Option Value)}
    {f33 : Addr} {oc33 kV33 dc33 pm33 cd33 ct33 : Value} {od33 an33 : Option Addr} {sl33 : Array (Option Value)}
    {f34 : Addr} {oc34 kV34 dc34 pm34 cd34 ct34 : Value} {od34 an34 : Option Addr} {sl34 : Array (Option Value)}
    {f35 : Addr} {oc35 kV35 dc35 pm35 cd35 ct35 : Value} {od35 an35 : Option Addr} {sl35 : Array (Option Value)}
    {f36 : Addr} {oc36 kV36 dc36 pm36 cd36 ct36 : Value} {od36 an36 : Option Addr} {sl36 : Array (Option Value)}
    {f37 : Addr} {oc37 kV37 dc37 pm37 cd37 ct37 : Value} {od37 an37 : Option Addr} {sl37 : Array (Option Value)}
    {f38 : Addr} {oc38 kV38 dc38 pm38 cd38 ct38 : Value} {od38 an38 : Option Addr} {sl38 : Array (Option Value)}
    {f39 : Addr} {oc39 kV39 dc39 pm39 cd39 ct39 : Value} {od39 an39 : Option Addr} {sl39 : Array (Option Value)}
    {f40 : Addr} {oc40 kV40 dc40 pm40 cd40 ct40 : Value} {od40 an40 : Option Addr} {sl40 : Array (Option Value)}
    {f41 : Addr} {oc41 kV41 dc41 pm41 cd41 ct41 : Value} {od41 an41 : Option Addr} {sl41 : Array (Option Value)}
    {f42 : Addr} {oc42 kV42 dc42 pm42 cd42 ct42 : Value} {od42 an42 : Option Addr} {sl42 : Array (Option Value)}
    {f43 : Addr} {oc43 kV43 dc43 pm43 cd43 ct43 : Value} {od43 an43 : Option Addr} {sl43 : Array (Option Value)}
    {f44 : Addr} {oc44 kV44 dc44 pm44 cd44 ct44 : Value} {od44 an44 : Option Addr} {sl44 : Array (Option Value)}
    {f45 : Addr} {oc45 kV45 dc45 pm45 cd45 ct45 : Value} {od45 an45 : Option Addr} {sl45 : Array (Option Value)}
    {gt0 gu0 : Tok} {gp0 : Addr} {go0 : Option Addr} {gn0 : Nat} {gs0 : Array (Option Value)}
    {gt1 gu1 : Tok} {gp1 : Addr} {go1 : Option Addr} {gn1 : Nat} {gs1 : Array (Option Value)}
    (a0 : PySem.W.nsIn K mainGlobals "common_divisor" = some (some (.ref f0))) (l0 : K.lookup f0 = some ⟨oc0, od0, .func (PySem.W.fnOf "common_divisor" "common_divisor" (defArgs (topS 4)) (defBody (topS 4)) (defScope (topS 4)) .none kV0 dc0 pm0 an0 cd0 ct0), sl0⟩) (c0 : PySem.W.codeIn K cd0 "common_divisor" = true) (k0 : PySem.W.keepIn K (.ref f0) = true)
    (a1 : PySem.W.nsIn K mainGlobals "touches" = some (some (.ref f1))) (l1 : K.lookup f1 = some ⟨oc1, od1, .func (PySem.W.fnOf "touches" "touches" (defArgs (topS 6)) (defBody (topS 6)) (defScope (topS 6)) .none kV1 dc1 pm1 an1 cd1 ct1), sl1⟩) (c1 : PySem.W.codeIn K cd1 "touches" = true) (k1 : PySem.W.keepIn K (.ref f1) = true)
    (a2 : PySem.W.nsIn K mainGlobals "touching" = some (some (.ref f2))) (l2 : K.lookup f2 = some ⟨oc2, od2, .func (PySem.W.fnOf "touching" "touching" (defArgs (topS 7)) (defBody (topS 7)) (defScope (topS 7)) .none kV2 dc2 pm2 an2 cd2 ct2), sl2⟩) (c2 : PySem.W.codeIn K cd2 "touching" = true) (k2 : PySem.W.keepIn K (.ref f2) = true)
    (a3 : PySem.W.nsIn K mainGlobals "lowest" = some (some (.ref f3))) (l3 : K.lookup f3 = some ⟨oc3, od3, .func (PySem.W.fnOf "lowest" "lowest" (defArgs (topS 11)) (defBody (topS 11)) (defScope (topS 11)) .none kV3 dc3 pm3 an3 cd3 ct3), sl3⟩) (c3 : PySem.W.codeIn K cd3 "lowest" = true) (k3 : PySem.W.keepIn K (.ref f3) = true)
    (a4 : PySem.W.nsIn K mainGlobals "minus" = some (some (.ref f4))) (l4 : K.lookup f4 = some ⟨oc4, od4, .func (PySem.W.fnOf "minus" "minus" (defArgs (topS 12)) (defBody (topS 12)) (defScope (topS 12)) .none kV4 dc4 pm4 an4 cd4 ct4), sl4⟩) (c4 : PySem.W.codeIn K cd4 "minus" = true) (k4 : PySem.W.keepIn K (.ref f4) = true)
    (a5 : PySem.W.nsIn K mainGlobals "times" = some (some (.ref f5))) (l5 : K.lookup f5 = some ⟨oc5, od5, .func (PySem.W.fnOf "times" "times" (defArgs (topS 13)) (defBody (topS 13)) (defScope (topS 13)) .none kV5 dc5 pm5 an5 cd5 ct5), sl5⟩) (c5 : PySem.W.codeIn K cd5 "times" = true) (k5 : PySem.W.keepIn K (.ref f5) = true)
    (a6 : PySem.W.nsIn K mainGlobals "over" = some (some (.ref f6))) (l6 : K.lookup f6 = some ⟨oc6, od6, .func (PySem.W.fnOf "over" "over" (defArgs (topS 14)) (defBody (topS 14)) (defScope (topS 14)) .none kV6 dc6 pm6 an6 cd6 ct6), sl6⟩) (c6 : PySem.W.codeIn K cd6 "over" = true) (k6 : PySem.W.keepIn K (.ref f6) = true)
    (a7 : PySem.W.nsIn K mainGlobals "is_less" = some (some (.ref f7))) (l7 : K.lookup f7 = some ⟨oc7, od7, .func (PySem.W.fnOf "is_less" "is_less" (defArgs (topS 15)) (defBody (topS 15)) (defScope (topS 15)) .none kV7 dc7 pm7 an7 cd7 ct7), sl7⟩) (c7 : PySem.W.codeIn K cd7 "is_less" = true) (k7 : PySem.W.keepIn K (.ref f7) = true)
    (a8 : PySem.W.nsIn K mainGlobals "lot_order" = some (some (.ref f8))) (l8 : K.lookup f8 = some ⟨oc8, od8, .func (PySem.W.fnOf "lot_order" "lot_order" (defArgs (topS 17)) (defBody (topS 17)) (defScope (topS 17)) .none kV8 dc8 pm8 an8 cd8 ct8), sl8⟩) (c8 : PySem.W.codeIn K cd8 "lot_order" = true) (k8 : PySem.W.keepIn K (.ref f8) = true)
    (a9 : PySem.W.nsIn K mainGlobals "lots_of" = some (some (.ref f9))) (l9 : K.lookup f9 = some ⟨oc9, od9, .func (PySem.W.fnOf "lots_of" "lots_of" (defArgs (topS 16)) (defBody (topS 16)) (defScope (topS 16)) .none kV9 dc9 pm9 an9 cd9 ct9), sl9⟩) (c9 : PySem.W.codeIn K cd9 "lots_of" = true) (k9 : PySem.W.keepIn K (.ref f9) = true)
    (a10 : PySem.W.nsIn K mainGlobals "without" = some (some (.ref f10))) (l10 : K.lookup f10 = some ⟨oc10, od10, .func (PySem.W.fnOf "without" "without" (defArgs (topS 18)) (defBody (topS 18)) (defScope (topS 18)) .none kV10 dc10 pm10 an10 cd10 ct10), sl10⟩) (c10 : PySem.W.codeIn K cd10 "without" = true) (k10 : PySem.W.keepIn K (.ref f10) = true)
    (a11 : PySem.W.nsIn K mainGlobals "sums_within" = some (some (.ref f11))) (l11 : K.lookup f11 = some ⟨oc11, od11, .func (PySem.W.fnOf "sums_within" "sums_within" (defArgs (topS 19)) (defBody (topS 19)) (defScope (topS 19)) .none kV11 dc11 pm11 an11 cd11 ct11), sl11⟩) (c11 : PySem.W.codeIn K cd11 "sums_within" = true) (k11 : PySem.W.keepIn K (.ref f11) = true)
    (a12 : PySem.W.nsIn K mainGlobals "first_below" = some (some (.ref f12))) (l12 : K.lookup f12 = some ⟨oc12, od12, .func (PySem.W.fnOf "first_below" "first_below" (defArgs (topS 21)) (defBody (topS 21)) (defScope (topS 21)) .none kV12 dc12 pm12 an12 cd12 ct12), sl12⟩) (c12 : PySem.W.codeIn K cd12 "first_below" = true) (k12 : PySem.W.keepIn K (.ref f12) = true)
    (a13 : PySem.W.nsIn K mainGlobals "is_open" = some (some (.ref f13))) (l13 : K.lookup f13 = some ⟨oc13, od13, .func (PySem.W.fnOf "is_open" "is_open" (defArgs (topS 22)) (defBody (topS 22)) (defScope (topS 22)) .none kV13 dc13 pm13 an13 cd13 ct13), sl13⟩) (c13 : PySem.W.codeIn K cd13 "is_open" = true) (k13 : PySem.W.keepIn K (.ref f13) = true)
    (a14 : PySem.W.nsIn K mainGlobals "border_rows" = some (some (.ref f14))) (l14 : K.lookup f14 = some ⟨oc14, od14, .func (PySem.W.fnOf "border_rows" "border_rows" (defArgs (topS 23)) (defBody (topS 23)) (defScope (topS 23)) .none kV14 dc14 pm14 an14 cd14 ct14), sl14⟩) (c14 : PySem.W.codeIn K cd14 "border_rows" = true) (k14 : PySem.W.keepIn K (.ref f14) = true)
    (a15 : PySem.W.nsIn K mainGlobals "border_chance" = some (some (.ref f15))) (l15 : K.lookup f15 = some ⟨oc15, od15, .func (PySem.W.fnOf "border_chance" "border_chance" (defArgs (topS 24)) (defBody (topS 24)) (defScope (topS 24)) .none kV15 dc15 pm15 an15 cd15 ct15), sl15⟩) (c15 : PySem.W.codeIn K cd15 "border_chance" = true) (k15 : PySem.W.keepIn K (.ref f15) = true)
    (a16 : PySem.W.nsIn K mainGlobals "_law_box" = some (some (.ref f16))) (l16 : K.lookup f16 = some ⟨oc16, od16, .func (PySem.W.fnOf "_law_box" "_law_box" (defArgs (topS 26)) (defBody (topS 26)) (defScope (topS 26)) .none kV16 dc16 pm16 an16 cd16 ct16), sl16⟩) (c16 : PySem.W.codeIn K cd16 "_law_box" = true) (k16 : PySem.W.keepIn K (.ref f16) = true)
    (a17 : PySem.W.nsIn K mainGlobals "_law_take" = some (some (.ref f17))) (l17 : K.lookup f17 = some ⟨oc17, od17, .func (PySem.W.fnOf "_law_take" "_law_take" (defArgs (topS 27)) (defBody (topS 27)) (defScope (topS 27)) .none kV17 dc17 pm17 an17 cd17 ct17), sl17⟩) (c17 : PySem.W.codeIn K cd17 "_law_take" = true) (k17 : PySem.W.keepIn K (.ref f17) = true)
    (a18 : PySem.W.nsIn K mainGlobals "_law_pick" = some (some (.ref f18))) (l18 : K.lookup f18 = some ⟨oc18, od18, .func (PySem.W.fnOf "_law_pick" "_law_pick" (defArgs (topS 28)) (defBody (topS 28)) (defScope (topS 28)) .none kV18 dc18 pm18 an18 cd18 ct18), sl18⟩) (c18 : PySem.W.codeIn K cd18 "_law_pick" = true) (k18 : PySem.W.keepIn K (.ref f18) = true)
    (a19 : PySem.W.nsIn K mainGlobals "_law_like" = some (some (.ref f19))) (l19 : K.lookup f19 = some ⟨oc19, od19, .func (PySem.W.fnOf "_law_like" "_law_like" (defArgs (topS 29)) (defBody (topS 29)) (defScope (topS 29)) .none kV19 dc19 pm19 an19 cd19 ct19), sl19⟩) (c19 : PySem.W.codeIn K cd19 "_law_like" = true) (k19 : PySem.W.keepIn K (.ref f19) = true)
    (a20 : PySem.W.nsIn K mainGlobals "_law_shuffled" = some (some (.ref f20))) (l20 : K.lookup f20 = some ⟨oc20, od20, .func (PySem.W.fnOf "_law_shuffled" "_law_shuffled" (defArgs (topS 30)) (defBody (topS 30)) (defScope (topS 30)) .none kV20 dc20 pm20 an20 cd20 ct20), sl20⟩) (c20 : PySem.W.codeIn K cd20 "_law_shuffled" = true) (k20 : PySem.W.keepIn K (.ref f20) = true)
    (a21 : PySem.W.nsIn K mainGlobals "_law_lots" = some (some (.ref f21))) (l21 : K.lookup f21 = some ⟨oc21, od21, .func (PySem.W.fnOf "_law_lots" "_law_lots" (defArgs (topS 31)) (defBody (topS 31)) (defScope (topS 31)) .none kV21 dc21 pm21 an21 cd21 ct21), sl21⟩) (c21 : PySem.W.codeIn K cd21 "_law_lots" = true) (k21 : PySem.W.keepIn K (.ref f21) = true)
    (a22 : PySem.W.nsIn K mainGlobals "_law_named" = some (some (.ref f22))) (l22 : K.lookup f22 = some ⟨oc22, od22, .func (PySem.W.fnOf "_law_named" "_law_named" (defArgs (topS 32)) (defBody (topS 32)) (defScope (topS 32)) .none kV22 dc22 pm22 an22 cd22 ct22), sl22⟩) (c22 : PySem.W.codeIn K cd22 "_law_named" = true) (k22 : PySem.W.keepIn K (.ref f22) = true)
    (a23 : PySem.W.nsIn K mainGlobals "_law_forest" = some (some (.ref f23))) (l23 : K.lookup f23 = some ⟨oc23, od23, .func (PySem.W.fnOf "_law_forest" "_law_forest" (defArgs (topS 33)) (defBody (topS 33)) (defScope (topS 33)) .none kV23 dc23 pm23 an23 cd23 ct23), sl23⟩) (c23 : PySem.W.codeIn K cd23 "_law_forest" = true) (k23 : PySem.W.keepIn K (.ref f23) = true)
    (a24 : PySem.W.nsIn K mainGlobals "_law_ring" = some (some (.ref f24))) (l24 : K.lookup f24 = some ⟨oc24, od24, .func (PySem.W.fnOf "_law_ring" "_law_ring" (defArgs (topS 34)) (defBody (topS 34)) (defScope (topS 34)) .none kV24 dc24 pm24 an24 cd24 ct24), sl24⟩) (c24 : PySem.W.codeIn K cd24 "_law_ring" = true) (k24 : PySem.W.keepIn K (.ref f24) = true)
    (a25 : PySem.W.nsIn K mainGlobals "_law_any_web" = some (some (.ref f25))) (l25 : K.lookup f25 = some ⟨oc25, od25, .func (PySem.W.fnOf "_law_any_web" "_law_any_web" (defArgs (topS 35)) (defBody (topS 35)) (defScope (topS 35)) .none kV25 dc25 pm25 an25 cd25 ct25), sl25⟩) (c25 : PySem.W.codeIn K cd25 "_law_any_web" = true) (k25 : PySem.W.keepIn K (.ref f25) = true)
    (a26 : PySem.W.nsIn K mainGlobals "_law_web" = some (some (.ref f26))) (l26 : K.lookup f26 = some ⟨oc26, od26, .func (PySem.W.fnOf "_law_web" "_law_web" (defArgs (topS 36)) (defBody (topS 36)) (defScope (topS 36)) .none kV26 dc26 pm26 an26 cd26 ct26), sl26⟩) (c26 : PySem.W.codeIn K cd26 "_law_web" = true) (k26 : PySem.W.keepIn K (.ref f26) = true)
    (a27 : PySem.W.nsIn K mainGlobals "_law_touch" = some (some (.ref f27))) (l27 : K.lookup f27 = some ⟨oc27, od27, .func (PySem.W.fnOf "_law_touch" "_law_touch" (defArgs (topS 37)) (defBody (topS 37)) (defScope (topS 37)) .none kV27 dc27 pm27 an27 cd27 ct27), sl27⟩) (c27 : PySem.W.codeIn K cd27 "_law_touch" = true) (k27 : PySem.W.keepIn K (.ref f27) = true)
    (a28 : PySem.W.nsIn K mainGlobals "_law_apart" = some (some (.ref f28))) (l28 : K.lookup f28 = some ⟨oc28, od28, .func (PySem.W.fnOf "_law_apart" "_law_apart" (defArgs (topS 38)) (defBody (topS 38)) (defScope (topS 38)) .none kV28 dc28 pm28 an28 cd28 ct28), sl28⟩) (c28 : PySem.W.codeIn K cd28 "_law_apart" = true) (k28 : PySem.W.keepIn K (.ref f28) = true)
    (a29 : PySem.W.nsIn K mainGlobals "_law_gcd" = some (some (.ref f29))) (l29 : K.lookup f29 = some ⟨oc29, od29, .func (PySem.W.fnOf "_law_gcd" "_law_gcd" (defArgs (topS 39)) (defBody (topS 39)) (defScope (topS 39)) .none kV29 dc29 pm29 an29 cd29 ct29), sl29⟩) (c29 : PySem.W.codeIn K cd29 "_law_gcd" = true) (k29 : PySem.W.keepIn K (.ref f29) = true)
    (a30 : PySem.W.nsIn K mainGlobals "_law_part" = some (some (.ref f30))) (l30 : K.lookup f30 = some ⟨oc30, od30, .func (PySem.W.fnOf "_law_part" "_law_part" (defArgs (topS 40)) (defBody (topS 40)) (defScope (topS 40)) .none kV30 dc30 pm30 an30 cd30 ct30), sl30⟩) (c30 : PySem.W.codeIn K cd30 "_law_part" = true) (k30 : PySem.W.keepIn K (.ref f30) = true)
    (a31 : PySem.W.nsIn K mainGlobals "_law_plus" = some (some (.ref f31))) (l31 : K.lookup f31 = some ⟨oc31, od31, .func (PySem.W.fnOf "_law_plus" "_law_plus" (defArgs (topS 41)) (defBody (topS 41)) (defScope (topS 41)) .none kV31 dc31 pm31 an31 cd31 ct31), sl31⟩) (c31 : PySem.W.codeIn K cd31 "_law_plus" = true) (k31 : PySem.W.keepIn K (.ref f31) = true)
    (a32 : PySem.W.nsIn K mainGlobals "_law_times" = some (some (.ref f32))) (l32 : K.lookup f32 = some ⟨oc32, od32, .func (PySem.W.fnOf "_law_times" "_law_times" (defArgs (topS 42)) (defBody (topS 42)) (defScope (topS 42)) .none kV32 dc32 pm32 an32 cd32 ct32), sl32⟩) (c32 : PySem.W.codeIn K cd32 "_law_times" = true) (k32 : PySem.W.keepIn K (.ref f32) = true)
    (a33 : PySem.W.nsIn K mainGlobals "_law_over" = some (some (.ref f33))) (l33 : K.lookup f33 = some ⟨oc33, od33, .func (PySem.W.fnOf "_law_over" "_law_over" (defArgs (topS 43)) (defBody (topS 43)) (defScope (topS 43)) .none kV33 dc33 pm33 an33 cd33 ct33), sl33⟩) (c33 : PySem.W.codeIn K cd33 "_law_over" = true) (k33 : PySem.W.keepIn K (.ref f33) = true)
    (a34 : PySem.W.nsIn K mainGlobals "_law_chances" = some (some (.ref f34))) (l34 : K.lookup f34 = some ⟨oc34, od34, .func (PySem.W.fnOf "_law_chances" "_law_chances" (defArgs (topS 44)) (defBody (topS 44)) (defScope (topS 44)) .none kV34 dc34 pm34 an34 cd34 ct34), sl34⟩) (c34 : PySem.W.codeIn K cd34 "_law_chances" = true) (k34 : PySem.W.keepIn K (.ref f34) = true)
    (a35 : PySem.W.nsIn K mainGlobals "_law_sum_of" = some (some (.ref f35))) (l35 : K.lookup f35 = some ⟨oc35, od35, .func (PySem.W.fnOf "_law_sum_of" "_law_sum_of" (defArgs (topS 45)) (defBody (topS 45)) (defScope (topS 45)) .none kV35 dc35 pm35 an35 cd35 ct35), sl35⟩) (c35 : PySem.W.codeIn K cd35 "_law_sum_of" = true) (k35 : PySem.W.keepIn K (.ref f35) = true)
    (a36 : PySem.W.nsIn K mainGlobals "_law_fault" = some (some (.ref f36))) (l36 : K.lookup f36 = some ⟨oc36, od36, .func (PySem.W.fnOf "_law_fault" "_law_fault" (defArgs (topS 46)) (defBody (topS 46)) (defScope (topS 46)) .none kV36 dc36 pm36 an36 cd36 ct36), sl36⟩) (c36 : PySem.W.codeIn K cd36 "_law_fault" = true) (k36 : PySem.W.keepIn K (.ref f36) = true)
    (a37 : PySem.W.nsIn K mainGlobals "_law_enough_for" = some (some (.ref f37))) (l37 : K.lookup f37 = some ⟨oc37, od37, .func (PySem.W.fnOf "_law_enough_for" "_law_enough_for" (defArgs (topS 47)) (defBody (topS 47)) (defScope (topS 47)) .none kV37 dc37 pm37 an37 cd37 ct37), sl37⟩) (c37 : PySem.W.codeIn K cd37 "_law_enough_for" = true) (k37 : PySem.W.keepIn K (.ref f37) = true)
    (a38 : PySem.W.nsIn K mainGlobals "_law_marks" = some (some (.ref f38))) (l38 : K.lookup f38 = some ⟨oc38, od38, .func (PySem.W.fnOf "_law_marks" "_law_marks" (defArgs (topS 48)) (defBody (topS 48)) (defScope (topS 48)) .none kV38 dc38 pm38 an38 cd38 ct38), sl38⟩) (c38 : PySem.W.codeIn K cd38 "_law_marks" = true) (k38 : PySem.W.keepIn K (.ref f38) = true)
    (a39 : PySem.W.nsIn K mainGlobals "_law_below" = some (some (.ref f39))) (l39 : K.lookup f39 = some ⟨oc39, od39, .func (PySem.W.fnOf "_law_below" "_law_below" (defArgs (topS 49)) (defBody (topS 49)) (defScope (topS 49)) .none kV39 dc39 pm39 an39 cd39 ct39), sl39⟩) (c39 : PySem.W.codeIn K cd39 "_law_below" = true) (k39 : PySem.W.keepIn K (.ref f39) = true)
    (a40 : PySem.W.nsIn K mainGlobals "_law_drawn_chances" = some (some (.ref f40))) (l40 : K.lookup f40 = some ⟨oc40, od40, .func (PySem.W.fnOf "_law_drawn_chances" "_law_drawn_chances" (defArgs (topS 50)) (defBody (topS 50)) (defScope (topS 50)) .none kV40 dc40 pm40 an40 cd40 ct40), sl40⟩) (c40 : PySem.W.codeIn K cd40 "_law_drawn_chances" = true) (k40 : PySem.W.keepIn K (.ref f40) = true)
    (a41 : PySem.W.nsIn K mainGlobals "_law_border" = some (some (.ref f41))) (l41 : K.lookup f41 = some ⟨oc41, od41, .func (PySem.W.fnOf "_law_border" "_law_border" (defArgs (topS 52)) (defBody (topS 52)) (defScope (topS 52)) .none kV41 dc41 pm41 an41 cd41 ct41), sl41⟩) (c41 : PySem.W.codeIn K cd41 "_law_border" = true) (k41 : PySem.W.keepIn K (.ref f41) = true)
    (a42 : PySem.W.nsIn K mainGlobals "_law_inside" = some (some (.ref f42))) (l42 : K.lookup f42 = some ⟨oc42, od42, .func (PySem.W.fnOf "_law_inside" "_law_inside" (defArgs (topS 51)) (defBody (topS 51)) (defScope (topS 51)) .none kV42 dc42 pm42 an42 cd42 ct42), sl42⟩) (c42 : PySem.W.codeIn K cd42 "_law_inside" = true) (k42 : PySem.W.keepIn K (.ref f42) = true)
    (a43 : PySem.W.nsIn K mainGlobals "_law_slim" = some (some (.ref f43))) (l43 : K.lookup f43 = some ⟨oc43, od43, .func (PySem.W.fnOf "_law_slim" "_law_slim" (defArgs (topS 53)) (defBody (topS 53)) (defScope (topS 53)) .none kV43 dc43 pm43 an43 cd43 ct43), sl43⟩) (c43 : PySem.W.codeIn K cd43 "_law_slim" = true) (k43 : PySem.W.keepIn K (.ref f43) = true)
    (a44 : PySem.W.nsIn K mainGlobals "_law_court" = some (some (.ref f44))) (l44 : K.lookup f44 = some ⟨oc44, od44, .func (PySem.W.fnOf "_law_court" "_law_court" (defArgs (topS 54)) (defBody (topS 54)) (defScope (topS 54)) .none kV44 dc44 pm44 an44 cd44 ct44), sl44⟩) (c44 : PySem.W.codeIn K cd44 "_law_court" = true) (k44 : PySem.W.keepIn K (.ref f44) = true)
    (a45 : PySem.W.nsIn K mainGlobals "law" = some (some (.ref f45))) (l45 : K.lookup f45 = some ⟨oc45, od45, .func (PySem.W.fnOf "law" "law" (defArgs (topS 55)) (defBody (topS 55)) (defScope (topS 55)) .none kV45 dc45 pm45 an45 cd45 ct45), sl45⟩) (c45 : PySem.W.codeIn K cd45 "law" = true) (k45 : PySem.W.keepIn K (.ref f45) = true)
    (z0 : PySem.W.nsIn K mainGlobals "abs" = some none) (z1 : PySem.W.nsIn K mainGlobals "all" = some none) (z2 : PySem.W.nsIn K mainGlobals "any" = some none) (z3 : PySem.W.nsIn K mainGlobals "bool" = some none) (z4 : PySem.W.nsIn K mainGlobals "enumerate" = some none) (z5 : PySem.W.nsIn K mainGlobals "int" = some none) (z6 : PySem.W.nsIn K mainGlobals "isinstance" = some none) (z7 : PySem.W.nsIn K mainGlobals "len" = some none) (z8 : PySem.W.nsIn K mainGlobals "list" = some none) (z9 : PySem.W.nsIn K mainGlobals "max" = some none) (z10 : PySem.W.nsIn K mainGlobals "min" = some none) (z11 : PySem.W.nsIn K mainGlobals "range" = some none) (z12 : PySem.W.nsIn K mainGlobals "set" = some none) (z13 : PySem.W.nsIn K mainGlobals "sorted" = some none) (z14 : PySem.W.nsIn K mainGlobals "str" = some none) (z15 : PySem.W.nsIn K mainGlobals "tuple" = some none) (z16 : PySem.W.nsIn K mainGlobals "zip" = some none)
    (gk0 : PySem.W.nsIn K mainGlobals "NOUGHT" = some (some (.ref gp0))) (gl0 : K.lookup gp0 = some ⟨.type "tuple", go0, .seq #[.int 0 gt0, .int 1 gu0] gn0, gs0⟩)
    (gk1 : PySem.W.nsIn K mainGlobals "ONE" = some (some (.ref gp1))) (gl1 : K.lookup gp1 = some ⟨.type "tuple", go1, .seq #[.int 1 gt1, .int 1 gu1] gn1, gs1⟩) : Heres K mg where
  M := {abs := PySem.W.mg_none_of X G z0, all := PySem.W.mg_none_of X G z1, any := PySem.W.mg_none_of X G z2, bool := PySem.W.mg_none_of X G z3, enumerate := PySem.W.mg_none_of X G z4, int := PySem.W.mg_none_of X G z5, isinstance := PySem.W.mg_none_of X G z6, len := PySem.W.mg_none_of X G z7, list := PySem.W.mg_none_of X G z8, max := PySem.W.mg_none_of X G z9, min := PySem.W.mg_none_of X G z10, range := PySem.W.mg_none_of X G z11, set := PySem.W.mg_none_of X G z12, sorted := PySem.W.mg_none_of X G z13, str := PySem.W.mg_none_of X G z14, tuple := PySem.W.mg_none_of X G z15, zip := PySem.W.mg_none_of X G z16}
  h_common_divisor := here_of X G a0 l0 c0 k0
  h_touches := here_of X G a1 l1 c1 k1
  h_touching := here_of X G a2 l2 c2 k2
  h_lowest := here_of X G a3 l3 c3 k3
  h_minus := here_of X G a4 l4 c4 k4
  h_times := here_of X G a5 l5 c5 k5
  h_over := here_of X G a6 l6 c6 k6
  h_is_less := here_of X G a7 l7 c7 k7
  h_lot_order := here_of X G a8 l8 c8 k8
  h_lots_of := here_of X G a9 l9 c9 k9
  h_without := here_of X G a10 l10 c10 k10
  h_sums_within := here_of X G a11 l11 c11 k11
  h_first_below := here_of X G a12 l12 c12 k12
  h_is_open := here_of X G a13 l13 c13 k13
  h_border_rows := here_of X G a14 l14 c14 k14
  h_border_chance := here_of X G a15 l15 c15 k15
  h_law_box := here_of X G a16 l16 c16 k16
  h_law_take := here_of X G a17 l17 c17 k17
  h_law_pick := here_of X G a18 l18 c18 k18
  h_law_like := here_of X G a19 l19 c19 k19
  h_law_shuffled := here_of X G a20 l20 c20 k20
  h_law_lots := here_of X G a21 l21 c21 k21
  h_law_named := here_of X G a22 l22 c22 k22
  h_law_forest := here_of X G a23 l23 c23 k23
  h_law_ring := here_of X G a24 l24 c24 k24
  h_law_any_web := here_of X G a25 l25 c25 k25
  h_law_web := here_of X G a26 l26 c26 k26
  h_law_touch := here_of X G a27 l27 c27 k27
  h_law_apart := here_of X G a28 l28 c28 k28
  h_law_gcd := here_of X G a29 l29 c29 k29
  h_law_part := here_of X G a30 l30 c30 k30
  h_law_plus := here_of X G a31 l31 c31 k31
  h_law_times := here_of X G a32 l32 c32 k32
  h_law_over := here_of X G a33 l33 c33 k33
  h_law_chances := here_of X G a34 l34 c34 k34
  h_law_sum_of := here_of X G a35 l35 c35 k35
  h_law_fault := here_of X G a36 l36 c36 k36
  h_law_enough_for := here_of X G a37 l37 c37 k37
  h_law_marks := here_of X G a38 l38 c38 k38
  h_law_below := here_of X G a39 l39 c39 k39
  h_law_drawn_chances := here_of X G a40 l40 c40 k40
  h_law_border := here_of X G a41 l41 c41 k41
  h_law_inside := here_of X G a42 l42 c42 k42
  h_law_slim := here_of X G a43 l43 c43 k43
  h_law_court := here_of X G a44 l44 c44 k44
  h_law := here_of X G a45 l45 c45 k45
  g_NOUGHT := globT2 X G gk0 gl0
  g_ONE := globT2 X G gk1 gl1
theorem fin {P : Program} {w : World} {K : PySem.W.Frag} {mg : Str → Option Value} (T : Heres K mg) : Here K mg "law" "law" (topS 55) ∧ ∀ base : Heap, DefOk P w K mg base 10 "law" "law" (topS 55) ["script"] none f_law := ⟨T.h_law, fun base => all_law T⟩
end K29
end Mi

namespace Mi
open PySem PySem.Spec
open PyProof.Rows hiding St
open L2
theorem lpickD_ok (g s : Int) (ds : List D) (h0 : 0 < ds.length) (h1 : ds.length < 1000) : ∃ d g' s', f_law_pick [boxD g s, .lst ds] = some (false, d, boxD g' s') ∧ d ∈ ds := by
  obtain ⟨x, g', s', e, x0, x1⟩ := take_at (p := true) (g := g) (s := s) (m := ds.length) (rest := [.fr (.lst ds)]) (fa := bltE lenK (consA (varF 1) (nilA))) (by simp [lenK, D.seq]) (by omega) (by omega)
  obtain ⟨v, ev, hv⟩ := atI_some (l := ds) x0 x1
  exact ⟨v, g', s', fn_run (ret_rt (bin_of (r1 := .val (.lst ds)) (r2 := .val (.int x)) rfl e rfl rfl (o := .val v) (by simp [ixD, ev]))) rfl, hv⟩
theorem mid_eq {α : Type} (A B : List α) (a : α) : (A ++ [a] ++ B)[A.length]? = some a := by simp
theorem mid_ne {α : Type} (A B : List α) (a b : α) {i : Nat} (h : i ≠ A.length) : (A ++ [a] ++ B)[i]? = (A ++ [b] ++ B)[i]? := by
  rw [List.append_assoc, List.append_assoc]
  by_cases z : i < A.length
  · rw [List.getElem?_append_left z, List.getElem?_append_left z]
  · rw [List.getElem?_append_right (show A.length ≤ i by omega), List.getElem?_append_right (show A.length ≤ i by omega)]
    have : ∃ j, i - A.length = j + 1 := ⟨i - A.length - 1, by omega⟩
    obtain ⟨j, e⟩ := this
    rw [e]
    rfl
theorem like_oneD (q : Rat) : f_law_like [oneD q, frQ q] = some (false, .bl true, .non) := by
  unfold oneD
  split
  · rename_i z
    subst z
    exact like_one
  · exact like_frQ q
section
variable {m h : Int} {ls : List (List Int)} {cs : List Rat} {b : Rat}
def turnD (cs : List Rat) (h : Int) (d : D) : D := .tup ((cs.take h.toNat).map frQ ++ [d] ++ (cs.drop (h + 1).toNat).map frQ)
theorem turnD_cd (C : Ch m cs) (C' : Ch m (turnC cs h b)) (h0 : 0 ≤ h) (h1 : h < m) : Cd m (turnC cs h b) (turnD cs h (oneD b)) (fun x => if x = h then oneD b else frQ (cAt (turnC cs h b) x)) := by
  refine ⟨fun x x0 x1 => ?_⟩
  have hl := C.len
  have hlt : ((cs.take h.toNat).map frQ).length = h.toNat := by rw [List.length_map, List.length_take]; omega
  obtain ⟨i, rfl⟩ := Int.eq_ofNat_of_zero_le x0
  by_cases hx : (i : Int) = h
  · rw [if_pos hx]
    refine ⟨?_, by rw [hx, turn_here C h0 h1]; exact Fq.oneD b⟩
    unfold turnD ixD
    simp only [atI_nat]
    have hi : i = ((cs.take h.toNat).map frQ).length := by rw [hlt]; omega
    rw [hi, mid_eq]
    rfl
  · rw [if_neg hx]
    refine ⟨?_, Fq.fr _⟩
    have e := C'.ix x0 x1
    have ec : chD (turnC cs h b) = .tup ((cs.take h.toNat).map frQ ++ [frQ b] ++ (cs.drop (h + 1).toNat).map frQ) := by simp [chD, turnC]
    rw [ec] at e
    unfold turnD ixD
    unfold ixD at e
    simp only [atI_nat] at e ⊢
    rw [mid_ne _ _ (oneD b) (frQ b) (by rw [hlt]; omega)]
    exact e
theorem turnD_of {i j : Nat} {fx : SE} {ρ : En} {d : D} (hl : cs.length ≤ 100) (hi : ρ[i]? = some (.fr (chD cs))) (hj : ρ[j]? = some (.fr (.int h))) (h0 : 0 ≤ h) (hx : fx ρ = some (.val d, ρ)) :
    bin2 addD (bin2 addD (slF (varF i) none (some (varF j))) (tupF (consA fx (nilA)))) (slF (varF i) (some (bin2 addD (varF j) (valF (.int 1)))) none) ρ = some (.val (turnD cs h d), ρ) := by
  have vi : varF i ρ = some (.val (chD cs), ρ) := by simp only [varF, hi]
  have vj : varF j ρ = some (.val (.int h), ρ) := by simp only [varF, hj]
  have s1 : slF (varF i) none (some (varF j)) ρ = some (.val (chD (cs.take h.toNat)), ρ) := by
    unfold slF
    simp only [vi, partF, vj]
    show some (Opd.val (.tup (cutL (cs.map frQ) none (some h))), ρ) = _
    rw [cut_to _ h0, ← List.map_take]
    rfl
  have aj : bin2 addD (varF j) (valF (.int 1)) ρ = some (.val (.int (h + 1)), ρ) := bin_of (r1 := .val (.int h)) (r2 := .val (.int 1)) vj rfl rfl rfl rfl
  have s2 : slF (varF i) (some (bin2 addD (varF j) (valF (.int 1)))) none ρ = some (.val (chD (cs.drop (h + 1).toNat)), ρ) := by
    unfold slF
    simp only [vi, partF, aj]
    show some (Opd.val (.tup (cutL (cs.map frQ) (some (h + 1)) none)), ρ) = _
    rw [cut_from _ (by omega), ← List.map_drop]
    rfl
  refine bin_of (bin_of s1 (tup_of (ds := [d]) (cons_of hx rfl) rfl (by simp)) rfl rfl (add_tup (a := (cs.take h.toNat).map frQ) (b := [d]) (by simp; omega))) s2 rfl rfl ?_
  rw [chD, add_tup (by simp; omega)]
  rfl
theorem cAt_map (C : Ch m cs) (f : Rat → Rat) {x : Int} (x0 : 0 ≤ x) (x1 : x < m) : cAt (cs.map f) x = f (cAt cs x) := by
  obtain ⟨v, e, _⟩ := atI_some (l := cs) x0 (by rw [C.len]; exact x1)
  unfold cAt
  rw [atI_map, e]
  rfl
theorem dprod_scale (r : Rat) {k : Nat} (hk : r.den ≤ 2 ^ k) : ∀ l : List Rat, dprod (l.map fun q => q * r) ≤ dprod l * (2 ^ k) ^ l.length
  | [] => by simp [dprod]
  | q :: l => by
    have ih := dprod_scale r hk l
    have hd : (q * r).den ≤ q.den * 2 ^ k := Nat.le_trans (Nat.le_of_dvd (Nat.mul_pos q.den_pos r.den_pos) (den_mul q r)) (Nat.mul_le_mul_left _ hk)
    show (q * r).den * dprod (l.map fun q => q * r) ≤ q.den * dprod l * (2 ^ k) ^ (l.length + 1)
    refine Nat.le_trans (Nat.mul_le_mul hd ih) (Nat.le_of_eq ?_)
    rw [Nat.pow_succ]
    simp only [Nat.mul_assoc, Nat.mul_comm, Nat.mul_left_comm]
theorem scale_ch (C : Ch m cs) (hm : m ≤ 6) (hd : dprod cs ≤ 2 ^ 480) {r : Rat} (hr : 0 ≤ r ∧ r < 1) (hk : r.den ≤ 2 ^ 20) : Ch m (cs.map fun q => q * r) := by
  have hl := C.len
  refine ⟨by rw [List.length_map]; exact hl, fun q hq => ?_, ?_⟩
  · obtain ⟨x, hx, rfl⟩ := List.mem_map.mp hq
    obtain ⟨x0, x1⟩ := C.pos x hx
    refine ⟨Rat.mul_nonneg x0 hr.1, ?_⟩
    have := Rat.mul_le_mul_of_nonneg_left (Rat.le_of_lt hr.2) x0
    grind
  · refine Nat.le_trans (dprod_scale r hk cs) ?_
    refine Nat.le_trans (Nat.mul_le_mul hd (Nat.le_refl _)) ?_
    rw [← Nat.pow_mul, ← Nat.pow_add]
    exact Nat.pow_le_pow_right (by omega) (by omega)
end
namespace K29
variable {ns : List Int} {k g s m h : Int} {ls : List (List Int)} {cs : List Rat}
theorem is_open_ok (C : Ch m cs) {dc : D} {dd : Int → D} (K : Cd m cs dc dd) (hm : 0 ≤ m ∧ m ≤ 6) (hls : ls.length ≤ 60) : f_is_open [webD m ls, dc] = some (false, .bl (openB m (cAt cs) ls), .non) := by
  let E : En := [.fr (webD m ls), .fr dc, .un]
  have su : callE none f_sums_within (consA (varF 0) (consA (varF 1) (nilA))) E = some (.new (sumsD m cs ls), E) :=
    call_of (cons_of (r := .val (webD m ls)) rfl (cons_of (r := .val dc) rfl rfl)) rfl (sums_gen C K hm hls) (by simp [noLend]) rfl
  have hit : valsI (callE none f_sums_within (consA (varF 0) (consA (varF 1) (nilA)))) E = some ([], (allLots m).map (sumD (cAt cs) ls), E) := by
    unfold valsI
    rw [su]
    show some (([] : List Opd), (pairs (sumD (cAt cs) ls) (allLots m)).map (·.2), E) = _
    rw [pairs, List.map_map]
    rfl
  have c := compE_map (own := [2]) (T := nameT 2) (fe := callE none f_is_less (consA (valF (.kt [.int 0, .int 1])) (consA (varF 2) (nilA)))) (ρ := E) (ρ1 := E) (ρb := E) (rs := []) (xs := allLots m) (sumD (cAt cs) ls) (fun l => .bl (decide (0 < altS (cAt cs) ls l))) hit rfl (lots_len hm) (fun l hl => by
    have hs := allLots_mem.mp hl
    exact ⟨[.fr (webD m ls), .fr dc, .fr (sumD (cAt cs) ls l)], .val (.bl (decide (0 < altS (cAt cs) ls l))), [.fr (webD m ls), .fr dc, .fr (sumD (cAt cs) ls l)], rfl,
      call_of (cons_of (r := .val zeroK) rfl (cons_of (r := .val (sumD (cAt cs) ls l)) rfl rfl)) rfl (is_less_ok Fq.zero (sumD_fq (cAt cs) ls l) Bt.zero (C.balt hs (Lt.of hm hs).few) (by omega)) rfl rfl, rfl, rfl⟩)
  exact fn_run (ret_rt (blt_of (cons_of c rfl) rfl (all_of (allLots m) fun l => decide (0 < altS (cAt cs) ls l)))) rfl
theorem open_any : openB m (cAt cs) ls = !(allLots m).any fun l => decide ((altS (cAt cs) ls l).num ≤ 0) := by
  unfold openB
  rw [List.not_any_eq_all_not]
  congr 1
  funext l
  rw [← num_pos]
  by_cases z : 0 < (altS (cAt cs) ls l).num
  · rw [decide_eq_true z, decide_eq_false (by omega)]
    rfl
  · rw [decide_eq_false z, decide_eq_true (by omega)]
    rfl
abbrev Ev (ns : List Int) (k g s m : Int) (ls : List (List Int)) (cs : List Rat) (x5 x6 x7 x8 : Slot) : En := [.fr (.scr ns), .fr (.int k), .ow false false (boxD g s), .fr (webD m ls), .fr (chD cs), x5, x6, x7, x8, .un, .un]
abbrev dueE : SE := bin2 (cmpV eqK) (compE [9] (seqI (callE none f_law_lots (consA (bin2 ixD (varF 3) (valF (.int 0))) (nilA)))) (nameT 9) (ofV (bin2 (cmpV (iiB fun i j => decide (i ≤ j))) (bin2 ixD (callE none f_law_sum_of (consA (varF 3) (consA (varF 4) (consA (varF 9) (nilA))))) (valF (.int 0))) (valF (.int 0)))) (valF (.int 1))) (lstF (nilA))
theorem due_ok (C : Ch m cs) (hm : 0 ≤ m ∧ m ≤ 6) (hls : ls.length ≤ 60) {x5 x6 x7 x8 : Slot} : dueE (Ev ns k g s m ls cs x5 x6 x7 x8) = some (.val (.bl (openB m (cAt cs) ls)), Ev ns k g s m ls cs x5 x6 x7 x8) := by
  let ρ := Ev ns k g s m ls cs x5 x6 x7 x8
  have hlots : callE none f_law_lots (consA (bin2 ixD (varF 3) (valF (.int 0))) (nilA)) ρ = some (.new (.lst ((allLots m).map lotD)), ρ) :=
    call_of (cons_of (bin_of (r1 := .val (webD m ls)) (r2 := .val (.int 0)) rfl rfl rfl rfl ix_web0) rfl) rfl (lots_ok m hm) rfl rfl
  have c := compE_filter (own := [9]) (it := seqI (callE none f_law_lots (consA (bin2 ixD (varF 3) (valF (.int 0))) (nilA)))) (T := nameT 9) (t := ofV (bin2 (cmpV (iiB fun i j => decide (i ≤ j))) (bin2 ixD (callE none f_law_sum_of (consA (varF 3) (consA (varF 4) (consA (varF 9) (nilA))))) (valF (.int 0))) (valF (.int 0)))) (fe := valF (.int 1)) (ρ := ρ) (ρ1 := ρ) (ρb := ρ) (rs := [.new (.lst ((allLots m).map lotD))]) (xs := allLots m) lotD (fun _ => .int 1) (fun l => decide ((altS (cAt cs) ls l).num ≤ 0)) (seq_new hlots) rfl (lots_len hm) (fun l hl => by
    let ρl : En := [.fr (.scr ns), .fr (.int k), .ow false false (boxD g s), .fr (webD m ls), .fr (chD cs), x5, x6, x7, x8, .fr (lotD l), .un]
    have hs := allLots_mem.mp hl
    exact ⟨ρl, ρl, rfl, of_of (bin_of (r1 := .val (.int (altS (cAt cs) ls l).num)) (r2 := .val (.int 0)) (bin_of (g := valF (.int 0)) (call_of (cons_of (r := .val (webD m ls)) rfl (cons_of (r := .val (chD cs)) rfl (cons_of (r := .val (lotD l)) rfl rfl))) rfl (sum_of_ok C hls (Lt.of hm hs)) rfl rfl) (r2 := .val (.int 0)) rfl rfl rfl (Fq.fr _).top) rfl rfl rfl rfl), fun _ => rfl, fun _ => ⟨.val (.int 1), _, rfl, rfl, rfl⟩⟩)
  rw [open_any]
  exact bin_of c (r2 := .new (.lst [])) rfl rfl rfl (by simp only [cmpV, noes_ok]; rfl)
abbrev smalls : List D := [.tup [.int 1, .int 2], .tup [.int 99, .int 100], .tup [.int 999999, .int 1000000]]
theorem small_ok {d : D} (h : d ∈ smalls) : ∃ r : Rat, Fq d r ∧ (0 ≤ r ∧ r < 1) ∧ Bt r 20 := by
  simp only [smalls, List.mem_cons, List.not_mem_nil, or_false] at h
  rcases h with rfl | rfl | rfl
  · exact ⟨mkRat 1 2, Fq.fr (mkRat 1 2), ⟨by decide +kernel, by decide +kernel⟩, ⟨by decide +kernel, by decide +kernel⟩⟩
  · exact ⟨mkRat 99 100, Fq.fr (mkRat 99 100), ⟨by decide +kernel, by decide +kernel⟩, ⟨by decide +kernel, by decide +kernel⟩⟩
  · exact ⟨mkRat 999999 1000000, Fq.fr (mkRat 999999 1000000), ⟨by decide +kernel, by decide +kernel⟩, ⟨by decide +kernel, by decide +kernel⟩⟩
abbrev smallE : SE := callE (some 0) f_law_pick (consA (varF 2) (consA (lstF (consA (tupF (consA (valF (.int 1)) (consA (valF (.int 2)) (nilA)))) (consA (tupF (consA (valF (.int 99)) (consA (valF (.int 100)) (nilA)))) (consA (tupF (consA (bin2 (iiD subI) (bin2 (iiD powI) (valF (.int 10)) (valF (.int 6))) (valF (.int 1))) (consA (bin2 (iiD powI) (valF (.int 10)) (valF (.int 6))) (nilA)))) (nilA))))) (nilA)))
abbrev lessE2 : SE := bltE tupK (consA (compE [10] (seqI (varF 4)) (nameT 10) (yesT) (callE none f_law_times (consA (varF 10) (consA (varF 6) (nilA))))) (nilA))
theorem less2_ok (C : Ch m cs) (hm : m ≤ 6) {d : D} {r : Rat} (hd : Fq d r) (hb : Bt r 20) {x5 x7 x8 : Slot} : lessE2 (Ev ns k g s m ls cs x5 (.fr d) x7 x8) = some (.val (chD (cs.map fun q => q * r)), Ev ns k g s m ls cs x5 (.fr d) x7 x8) := by
  have hl := C.len
  let ρ := Ev ns k g s m ls cs x5 (.fr d) x7 x8
  have c := compE_map (own := [10]) (it := seqI (varF 4)) (T := nameT 10) (fe := callE none f_law_times (consA (varF 10) (consA (varF 6) (nilA)))) (ρ := ρ) (ρ1 := ρ) (ρb := ρ) (rs := [.val (chD cs)]) (xs := cs) frQ (fun q => frQ (q * r)) rfl rfl (by omega) (fun q hq =>
    ⟨[.fr (.scr ns), .fr (.int k), .ow false false (boxD g s), .fr (webD m ls), .fr (chD cs), x5, .fr d, x7, x8, .un, .fr (frQ q)], .val (frQ (q * r)), [.fr (.scr ns), .fr (.int k), .ow false false (boxD g s), .fr (webD m ls), .fr (chD cs), x5, .fr d, x7, x8, .un, .fr (frQ q)], rfl,
      call_of (cons_of (r := .val (frQ q)) rfl (cons_of (r := .val d) rfl rfl)) rfl (ltimes_ok (Fq.fr q) hd (Bt.of (a := 0) (den_dvd hq) (dprod_pos cs) C.den (Ab.of01 (C.pos q hq)) (by decide)) hb (by omega)) rfl rfl, rfl, rfl⟩)
  refine blt_of (cons_of c rfl) rfl (o := .val (chD (cs.map fun q => q * r))) ?_
  rw [chD, List.map_map]
  rfl
abbrev lastS : SS := ifS (orT (notT (truT (callE none f_law_like (consA (varF 8) (consA (callE none f_law_border (consA (varF 3) (consA (varF 4) (consA (varF 7) (nilA))))) (nilA)))))) (ofV (bin2 (cmpV isNotN) (callE none f_is_open (consA (varF 3) (consA (bin2 addD (bin2 addD (slF (varF 4) none (some (varF 7))) (tupF (consA (varF 8) (nilA)))) (slF (varF 4) (some (bin2 addD (varF 7) (valF (.int 1)))) none)) (nilA)))) (valF (.bl false))))) (retS (valF (.bl false))) (skipS)
abbrev bodyS : SS := seqS (setS 2 (callE none f_law_box (consA (varF 0) (consA (varF 1) (nilA)))))
    (seqS (setS 3 (callE (some 0) f_law_court (consA (varF 2) (consA (valF (.int 6)) (nilA)))))
    (seqS (setS 4 (callE (some 0) f_law_inside (consA (varF 2) (consA (varF 3) (nilA)))))
    (seqS (setS 5 dueE)
    (seqS (ifS (notT (truT (callE none f_law_like (consA (callE none f_is_open (appA (consA (varF 3) (nilA)) (consA (varF 4) (nilA)))) (consA (varF 5) (nilA)))))) (retS (valF (.bl false))) (skipS))
    (seqS (setS 6 smallE)
    (seqS (ifS (ofV (bin2 (cmpV isNotN) (callE none f_is_open (consA (varF 3) (consA lessE2 (nilA)))) (valF (.bl true)))) (retS (valF (.bl false))) (skipS))
    (seqS (setS 7 (callE (some 0) f_law_take (consA (varF 2) (consA (bin2 ixD (varF 3) (valF (.int 0))) (nilA)))))
    (seqS (setS 8 (callE none f_border_chance (consA (varF 3) (consA (varF 4) (consA (varF 7) (nilA))))))
    lastS))))))))
abbrev E0 (ns : List Int) (a b c d x5 x6 x7 x8 : Slot) : En := [.fr (.scr ns), a, b, c, d, x5, x6, x7, x8, .un, .un]
theorem body_ok {b c d x5 x6 x7 x8 : Slot} (hk : 0 ≤ k ∧ k ≤ 6) (hn : ns.length ≤ 63) (fb : free1 b = true) (fc : free1 c = true) (fd : free1 d = true) (f5 : free1 x5 = true) (f6 : free1 x6 = true) (f7 : free1 x7 = true) (f8 : free1 x8 = true) :
    ∃ b' c' d' y5 y6 y7 y8, bodyS (E0 ns (.fr (.int k)) b c d x5 x6 x7 x8) = some (.nx (E0 ns (.fr (.int k)) b' c' d' y5 y6 y7 y8)) ∧ free1 b' = true ∧ free1 c' = true ∧ free1 d' = true ∧ free1 y5 = true ∧ free1 y6 = true ∧ free1 y7 = true ∧ free1 y8 = true := by
  obtain ⟨g0, s0, eb⟩ := box_ok ns k (by omega) (by omega) hn
  obtain ⟨m, ls, g1, s1, ew, ok, hm⟩ := court_ok g0 s0
  have hls := ok.few
  have hm' : 0 ≤ m ∧ m ≤ 6 := ⟨by omega, hm.2⟩
  obtain ⟨cs, g2, s2, ei, C, hz, hd⟩ := inside_at (ls := ls) g1 s1 hm hls
  have sbox : setS 2 (callE none f_law_box (consA (varF 0) (consA (varF 1) (nilA)))) (E0 ns (.fr (.int k)) b c d x5 x6 x7 x8) = some (.nx (E0 ns (.fr (.int k)) (.ow false false (boxD g0 s0)) c d x5 x6 x7 x8)) :=
    set_nx (call_of (cons_of (r := .val (.scr ns)) rfl (cons_of (r := .val (.int k)) rfl rfl)) rfl eb rfl rfl) (by simp [fb])
  have sweb : setS 3 (callE (some 0) f_law_court (consA (varF 2) (consA (valF (.int 6)) (nilA)))) (E0 ns (.fr (.int k)) (.ow false false (boxD g0 s0)) c d x5 x6 x7 x8) = some (.nx (E0 ns (.fr (.int k)) (.ow false false (boxD g1 s1)) (.fr (webD m ls)) d x5 x6 x7 x8)) :=
    set_nx (call_of (cons_of (r := .slot 2) rfl (cons_of (r := .val (.int 6)) rfl rfl)) rfl ew rfl rfl) (by simp [fc])
  have sch : setS 4 (callE (some 0) f_law_inside (consA (varF 2) (consA (varF 3) (nilA)))) (E0 ns (.fr (.int k)) (.ow false false (boxD g1 s1)) (.fr (webD m ls)) d x5 x6 x7 x8) = some (.nx (Ev ns k g2 s2 m ls cs x5 x6 x7 x8)) :=
    set_nx (call_of (cons_of (r := .slot 2) rfl (cons_of (r := .val (webD m ls)) rfl rfl)) rfl ei rfl rfl) (by simp [fd])
  let o := openB m (cAt cs) ls
  have s5 : setS 5 dueE (Ev ns k g2 s2 m ls cs x5 x6 x7 x8) = some (.nx (Ev ns k g2 s2 m ls cs (.fr (.bl o)) x6 x7 x8)) := set_nx (due_ok C hm' hls) (by simp [f5, o])
  have k5 : ifS (notT (truT (callE none f_law_like (consA (callE none f_is_open (appA (consA (varF 3) (nilA)) (consA (varF 4) (nilA)))) (consA (varF 5) (nilA)))))) (retS (valF (.bl false))) (skipS) (Ev ns k g2 s2 m ls cs (.fr (.bl o)) x6 x7 x8) = some (.nx (Ev ns k g2 s2 m ls cs (.fr (.bl o)) x6 x7 x8)) :=
    check_ok (d := .bl o) (call_of (rs := [Opd.val (webD m ls), .val (chD cs)]) rfl rfl (is_open_ok C C.cd hm' hls) rfl rfl) rfl (like_bl o)
  obtain ⟨ds, g3, s3, ep, hds⟩ := lpickD_ok g2 s2 smalls (by decide) (by decide)
  obtain ⟨r, hr, hr01, hrb⟩ := small_ok hds
  have s6 : setS 6 smallE (Ev ns k g2 s2 m ls cs (.fr (.bl o)) x6 x7 x8) = some (.nx (Ev ns k g3 s3 m ls cs (.fr (.bl o)) (.fr ds) x7 x8)) :=
    set_nx (call_of (cons_of (r := .slot 2) rfl (cons_of (r := .new (.lst smalls)) rfl rfl)) rfl ep rfl rfl) (by simp [f6])
  have C2 := scale_ch C hm.2 hd hr01 hrb.2
  have o2 : openB m (cAt (cs.map fun q => q * r)) ls = true := less_open hm' hr01 hz fun x x0 x1 => cAt_map C _ x0 x1
  have k6 : ifS (ofV (bin2 (cmpV isNotN) (callE none f_is_open (consA (varF 3) (consA lessE2 (nilA)))) (valF (.bl true)))) (retS (valF (.bl false))) (skipS) (Ev ns k g3 s3 m ls cs (.fr (.bl o)) (.fr ds) x7 x8) = some (.nx (Ev ns k g3 s3 m ls cs (.fr (.bl o)) (.fr ds) x7 x8)) := by
    have io := is_open_ok (ls := ls) C2 C2.cd hm' hls
    rw [o2] at io
    exact if_f (of_of (bin_of (call_of (cons_of (r := .val (webD m ls)) rfl (cons_of (less2_ok C hm.2 hr hrb) rfl)) rfl io rfl rfl) (r2 := .val (.bl true)) (o := .val (.bl false)) rfl rfl rfl rfl)) rfl
  obtain ⟨h, g4, s4, eh, h0, h1⟩ := take_ok g3 s3 m (by omega) (by omega)
  have s7 : setS 7 (callE (some 0) f_law_take (consA (varF 2) (consA (bin2 ixD (varF 3) (valF (.int 0))) (nilA)))) (Ev ns k g3 s3 m ls cs (.fr (.bl o)) (.fr ds) x7 x8) = some (.nx (Ev ns k g4 s4 m ls cs (.fr (.bl o)) (.fr ds) (.fr (.int h)) x8)) :=
    set_nx (call_of (cons_of (r := .slot 2) rfl (cons_of (bin_of (r1 := .val (webD m ls)) (r2 := .val (.int 0)) rfl rfl rfl rfl ix_web0) rfl)) rfl eh rfl rfl) (by simp [f7])
  have O : Out0 m (cAt cs) ls h := none_out hz
  let q := brd m (cAt cs) ls h
  have q0 : 0 ≤ q := brd_nonneg O
  have q1 : q ≤ 1 := brd_le _ _ _ _
  have qb : Bt q (480 + 6 + (480 + 6)) := brd_bits fun l hl => C.alt hm' hd hl
  have C3 : Ch m (turnC cs h q) := C.turn h0 h1 ⟨q0, q1⟩ (by
    refine Nat.le_trans (Nat.mul_le_mul hd qb.2) ?_
    rw [← Nat.pow_add]
    exact Nat.pow_le_pow_right (by omega) (by omega))
  have s8 : setS 8 (callE none f_border_chance (consA (varF 3) (consA (varF 4) (consA (varF 7) (nilA))))) (Ev ns k g4 s4 m ls cs (.fr (.bl o)) (.fr ds) (.fr (.int h)) x8) = some (.nx (Ev ns k g4 s4 m ls cs (.fr (.bl o)) (.fr ds) (.fr (.int h)) (.fr (oneD q)))) :=
    set_nx (call_of (cons_of (r := .val (webD m ls)) rfl (cons_of (r := .val (chD cs)) rfl (cons_of (r := .val (.int h)) rfl rfl))) rfl (border_chance_ok C hm' hls O) rfl rfl) (by simp [f8, q])
  let ρ := Ev ns k g4 s4 m ls cs (.fr (.bl o)) (.fr ds) (.fr (.int h)) (.fr (oneD q))
  have l1 : notT (truT (callE none f_law_like (consA (varF 8) (consA (callE none f_law_border (consA (varF 3) (consA (varF 4) (consA (varF 7) (nilA))))) (nilA))))) ρ = some (false, ρ) :=
    not_of (tru_of (call_of (cons_of (r := .val (oneD q)) rfl (cons_of (call_of (cons_of (r := .val (webD m ls)) rfl (cons_of (r := .val (chD cs)) rfl (cons_of (r := .val (.int h)) rfl rfl))) rfl (lborder_ok C hm' hls) rfl rfl) rfl)) rfl (like_oneD q) rfl rfl))
  have hlen : cs.length ≤ 100 := by have := C.len; omega
  have l2 : ofV (bin2 (cmpV isNotN) (callE none f_is_open (consA (varF 3) (consA (bin2 addD (bin2 addD (slF (varF 4) none (some (varF 7))) (tupF (consA (varF 8) (nilA)))) (slF (varF 4) (some (bin2 addD (varF 7) (valF (.int 1)))) none)) (nilA)))) (valF (.bl false))) ρ = some (false, ρ) := by
    have io := is_open_ok (ls := ls) C3 (turnD_cd C C3 h0 h1) hm' hls
    rw [border_closed (turn_same C h0 h1 q) h0 h1 (turn_here C h0 h1 q)] at io
    exact of_of (bin_of (call_of (cons_of (r := .val (webD m ls)) rfl (cons_of (turnD_of (i := 4) (j := 7) hlen rfl rfl h0 rfl) rfl)) rfl io rfl rfl) (r2 := .val (.bl false)) (o := .val (.bl false)) rfl rfl rfl rfl)
  exact ⟨_, _, _, _, _, _, _, seq_nx sbox (seq_nx sweb (seq_nx sch (seq_nx s5 (seq_nx k5 (seq_nx s6 (seq_nx k6 (seq_nx s7 (seq_nx s8 (if_f (or_f l1 l2) rfl))))))))), rfl, rfl, rfl, rfl, rfl, rfl, rfl⟩
theorem first1 : f_is_open [webD 2 [[0, 1]], lotsD [[1, 2], [1, 2]]] = some (false, .bl false, .non) := by
  have M : Mk 2 [2, 2] := ⟨rfl, by decide⟩
  have C := M.ch (by decide)
  have e := is_open_ok (ls := [[0, 1]]) C C.cd (by decide) (by decide)
  rw [← M.data] at e
  have q : openB 2 (cAt (mCs [2, 2])) [[0, 1]] = false := by
    cases z : openB 2 (cAt (mCs [2, 2])) [[0, 1]] with
    | false => rfl
    | true =>
      have := open_iff.mp z [0, 1] (allLots_mem.mpr (by decide))
      exact absurd this (by decide +kernel)
  rw [q] at e
  exact e
theorem first2 : f_is_open [webD 2 [[0, 1]], lotsD [[1, 2], [1, 3]]] = some (false, .bl true, .non) := by
  have M : Mk 2 [2, 3] := ⟨rfl, by decide⟩
  have C := M.ch (by decide)
  have e := is_open_ok (ls := [[0, 1]]) C C.cd (by decide) (by decide)
  rw [← M.data] at e
  have q : openB 2 (cAt (mCs [2, 3])) [[0, 1]] = true := open_iff.mpr fun l hl => by
    have h3 : l ∈ grow (irange 0 2) := growR_has (by rw [List.reverse_reverse]; exact allLots_mem.mp hl)
    have h4 : ∀ l ∈ grow (irange 0 2), 0 < altS (cAt (mCs [2, 3])) [[0, 1]] l := by decide +kernel
    exact h4 l h3
  rw [q] at e
  exact e
theorem law_true (ns : List Int) (hn : ns.length ≤ 63) : f_law [.scr ns] = some (false, .bl true, .non) := by
  let U : En := E0 ns .un .un .un .un .un .un .un .un
  have c0 : ofV (bin2 (cmpV isNotN) (callE none f_is_open (consA (tupF (consA (valF (.int 2)) (consA (tupF (consA (tupF (consA (valF (.int 0)) (consA (valF (.int 1)) (nilA)))) (nilA))) (nilA)))) (consA (tupF (consA (tupF (consA (valF (.int 1)) (consA (valF (.int 2)) (nilA)))) (consA (tupF (consA (valF (.int 1)) (consA (valF (.int 2)) (nilA)))) (nilA)))) (nilA)))) (valF (.bl false))) U = some (false, U) :=
    of_of (bin_of (r2 := .val (.bl false)) (o := .val (.bl false)) (call_of (rs := [Opd.val (webD 2 [[0, 1]]), .val (lotsD [[1, 2], [1, 2]])]) rfl rfl first1 rfl rfl) rfl rfl rfl rfl)
  have c1 : ofV (bin2 (cmpV isNotN) (callE none f_is_open (consA (tupF (consA (valF (.int 2)) (consA (tupF (consA (tupF (consA (valF (.int 0)) (consA (valF (.int 1)) (nilA)))) (nilA))) (nilA)))) (consA (tupF (consA (tupF (consA (valF (.int 1)) (consA (valF (.int 2)) (nilA)))) (consA (tupF (consA (valF (.int 1)) (consA (valF (.int 3)) (nilA)))) (nilA)))) (nilA)))) (valF (.bl true))) U = some (false, U) :=
    of_of (bin_of (r2 := .val (.bl true)) (o := .val (.bl false)) (call_of (rs := [Opd.val (webD 2 [[0, 1]]), .val (lotsD [[1, 2], [1, 3]])]) rfl rfl first2 rfl rfl) rfl rfl rfl rfl)
  have hn6 : ∃ n : Int, bltE max2K (consA (valF (.int 3)) (consA (bltE min2K (consA (bltE lenK (consA (varF 0) (nilA))) (consA (valF (.int 6)) (nilA)))) (nilA))) U = some (.val (.int n), U) ∧ 0 ≤ n ∧ n ≤ 6 := by
    refine ⟨if (if (6 : Int) < ns.length then 6 else (ns.length : Int)) > 3 then (if (6 : Int) < ns.length then 6 else (ns.length : Int)) else 3, ?_, ?_⟩
    · refine blt_of (cons_of (r := .val (.int 3)) rfl (cons_of (blt_of (cons_of (blt_of (cons_of (r := .val (.scr ns)) rfl rfl) rfl (o := .val (.int ns.length)) ?_) (cons_of (r := .val (.int 6)) rfl rfl)) rfl rfl) rfl)) rfl rfl
      simp [lenK, D.seq]
    · split <;> split <;> omega
  obtain ⟨n, en, n0, n1⟩ := hn6
  obtain ⟨ρ', e, a, b, c, d, x5, x6, x7, x8, rfl, _⟩ := loopS_inv (T := nameT 1) (F := bodyS)
    (fun _ ρ => ∃ a b c d x5 x6 x7 x8, ρ = E0 ns a b c d x5 x6 x7 x8 ∧ free1 a = true ∧ free1 b = true ∧ free1 c = true ∧ free1 d = true ∧ free1 x5 = true ∧ free1 x6 = true ∧ free1 x7 = true ∧ free1 x8 = true) (rangeD 0 n) 0 U (fun k dd hd ρ ⟨a, b, c, d, x5, x6, x7, x8, hρ, fa, fb, fc, fd, f5, f6, f7, f8⟩ => by
      subst hρ
      obtain ⟨rfl, hk⟩ := range_at hd
      obtain ⟨b', c', d', y5, y6, y7, y8, h, gs⟩ := body_ok (ns := ns) (k := 0 + k) (by omega) hn fb fc fd f5 f6 f7 f8
      exact ⟨E0 ns (.fr (.int (0 + k))) b c d x5 x6 x7 x8, _, by simp [fa], .inl h, _, _, _, _, _, _, _, _, rfl, rfl, gs⟩) ⟨_, _, _, _, _, _, _, _, rfl, rfl, rfl, rfl, rfl, rfl, rfl, rfl, rfl⟩
  exact fn_run (seq_nx (if_f (or_f c0 c1) rfl) (seq_nx (for_nx (rs := []) (rngI_of (cons_of en rfl) n0 (by omega)) e rfl) (ret_rt (r := .val (.bl true)) (ρ1 := E0 ns a b c d x5 x6 x7 x8) rfl))) rfl
end K29
end Mi

open PySem PySem.W PyProof.Rows in
set_option maxRecDepth 100000 in
set_option maxHeartbeats 0 in
theorem PySem.Challenge.cw_thingsapart_k29_whole_open_ones_holds : PySem.Challenge.rw_thingsapart_k29_whole_open_ones.Holds := by
  w_on; o_law; k_head; (case hw => w_witness2)
  k_fill
  refine Mi.law_walk (l := PySem.Challenge.rw_thingsapart_k29_whole_open_ones) (k := 10) (st := Mi.K29.topS 55) (F := Mi.K29.f_law) rfl rfl rfl ⟨rfl, by decide, by decide⟩ (fun w h Y => PySem.W.kIn_of Y) (fun _ _ _ _ _ _ _ => rfl) Mi.K29.law_true ?D
  case D =>
    intro w mg h KX G
    refine' Mi.K29.fin (Mi.K29.heres KX G ?a0 ?l0 ?c0 ?k0 ?a1 ?l1 ?c1 ?k1 ?a2 ?l2 ?c2 ?k2 ?a3 ?l3 ?c3 ?k3 ?a4 ?l4 ?c4 ?k4 ?a5 ?l5 ?c5 ?k5 ?a6 ?l6 ?c6 ?k6 ?a7 ?l7 ?c7 ?k7 ?a8 ?l8 ?c8 ?k8 ?a9 ?l9 ?c9 ?k9 ?a10 ?l10 ?c10 ?k10 ?a11 ?l11 ?c11 ?k11 ?a12 ?l12 ?c12 ?k12 ?a13 ?l13 ?c13 ?k13 ?a14 ?l14 ?c14 ?k14 ?a15 ?l15 ?c15 ?k15 ?a16 ?l16 ?c16 ?k16 ?a17 ?l17 ?c17 ?k17 ?a18 ?l18 ?c18 ?k18 ?a19 ?l19 ?c19 ?k19 ?a20 ?l20 ?c20 ?k20 ?a21 ?l21 ?c21 ?k21 ?a22 ?l22 ?c22 ?k22 ?a23 ?l23 ?c23 ?k23 ?a24 ?l24 ?c24 ?k24 ?a25 ?l25 ?c25 ?k25 ?a26 ?l26 ?c26 ?k26 ?a27 ?l27 ?c27 ?k27 ?a28 ?l28 ?c28 ?k28 ?a29 ?l29 ?c29 ?k29 ?a30 ?l30 ?c30 ?k30 ?a31 ?l31 ?c31 ?k31 ?a32 ?l32 ?c32 ?k32 ?a33 ?l33 ?c33 ?k33 ?a34 ?l34 ?c34 ?k34 ?a35 ?l35 ?c35 ?k35 ?a36 ?l36 ?c36 ?k36 ?a37 ?l37 ?c37 ?k37 ?a38 ?l38 ?c38 ?k38 ?a39 ?l39 ?c39 ?k39 ?a40 ?l40 ?c40 ?k40 ?a41 ?l41 ?c41 ?k41 ?a42 ?l42 ?c42 ?k42 ?a43 ?l43 ?c43 ?k43 ?a44 ?l44 ?c44 ?k44 ?a45 ?l45 ?c45 ?k45 ?z0 ?z1 ?z2 ?z3 ?z4 ?z5 ?z6 ?z7 ?z8 ?z9 ?z10 ?z11 ?z12 ?z13 ?z14 ?z15 ?z16 ?gk0 ?gl0 ?gk1 ?gl1)
    (case a0 => k_is)
    (case l0 => k_is)
    (case c0 => k_is)
    (case k0 => k_is)
    (case a1 => k_is)
    (case l1 => k_is)
    (case c1 => k_is)
    (case k1 => k_is)
    (case a2 => k_is)
    (case l2 => k_is)
    (case c2 => k_is)
    (case k2 => k_is)
    (case a3 => k_is)
    (case l3 => k_is)
    (case c3 => k_is)
    (case k3 => k_is)
    (case a4 => k_is)
    (case l4 => k_is)
    (case c4 => k_is)
    (case k4 => k_is)
    (case a5 => k_is)
    (case l5 => k_is)
    (case c5 => k_is)
    (case k5 => k_is)
    (case a6 => k_is)
    (case l6 => k_is)
    (case c6 => k_is)
    (case k6 => k_is)
    (case a7 => k_is)
    (case l7 => k_is)
    (case c7 => k_is)
    (case k7 => k_is)
    (case a8 => k_is)
    (case l8 => k_is)
    (case c8 => k_is)
    (case k8 => k_is)
    (case a9 => k_is)
    (case l9 => k_is)
    (case c9 => k_is)
    (case k9 => k_is)
    (case a10 => k_is)
    (case l10 => k_is)
    (case c10 => k_is)
    (case k10 => k_is)
    (case a11 => k_is)
    (case l11 => k_is)
    (case c11 => k_is)
    (case k11 => k_is)
    (case a12 => k_is)
    (case l12 => k_is)
    (case c12 => k_is)
    (case k12 => k_is)
    (case a13 => k_is)
    (case l13 => k_is)
    (case c13 => k_is)
    (case k13 => k_is)
    (case a14 => k_is)
    (case l14 => k_is)
    (case c14 => k_is)
    (case k14 => k_is)
    (case a15 => k_is)
    (case l15 => k_is)
    (case c15 => k_is)
    (case k15 => k_is)
    (case a16 => k_is)
    (case l16 => k_is)
    (case c16 => k_is)
    (case k16 => k_is)
    (case a17 => k_is)
    (case l17 => k_is)
    (case c17 => k_is)
    (case k17 => k_is)
    (case a18 => k_is)
    (case l18 => k_is)
    (case c18 => k_is)
    (case k18 => k_is)
    (case a19 => k_is)
    (case l19 => k_is)
    (case c19 => k_is)
    (case k19 => k_is)
    (case a20 => k_is)
    (case l20 => k_is)
    (case c20 => k_is)
    (case k20 => k_is)
    (case a21 => k_is)
    (case l21 => k_is)
    (case c21 => k_is)
    (case k21 => k_is)
    (case a22 => k_is)
    (case l22 => k_is)
    (case c22 => k_is)
    (case k22 => k_is)
    (case a23 => k_is)
    (case l23 => k_is)
    (case c23 => k_is)
    (case k23 => k_is)
    (case a24 => k_is)
    (case l24 => k_is)
    (case c24 => k_is)
    (case k24 => k_is)
    (case a25 => k_is)
    (case l25 => k_is)
    (case c25 => k_is)
    (case k25 => k_is)
    (case a26 => k_is)
    (case l26 => k_is)
    (case c26 => k_is)
    (case k26 => k_is)
    (case a27 => k_is)
    (case l27 => k_is)
    (case c27 => k_is)
    (case k27 => k_is)
    (case a28 => k_is)
    (case l28 => k_is)
    (case c28 => k_is)
    (case k28 => k_is)
    (case a29 => k_is)
    (case l29 => k_is)
    (case c29 => k_is)
    (case k29 => k_is)
    (case a30 => k_is)
    (case l30 => k_is)
    (case c30 => k_is)
    (case k30 => k_is)
    (case a31 => k_is)
    (case l31 => k_is)
    (case c31 => k_is)
    (case k31 => k_is)
    (case a32 => k_is)
    (case l32 => k_is)
    (case c32 => k_is)
    (case k32 => k_is)
    (case a33 => k_is)
    (case l33 => k_is)
    (case c33 => k_is)
    (case k33 => k_is)
    (case a34 => k_is)
    (case l34 => k_is)
    (case c34 => k_is)
    (case k34 => k_is)
    (case a35 => k_is)
    (case l35 => k_is)
    (case c35 => k_is)
    (case k35 => k_is)
    (case a36 => k_is)
    (case l36 => k_is)
    (case c36 => k_is)
    (case k36 => k_is)
    (case a37 => k_is)
    (case l37 => k_is)
    (case c37 => k_is)
    (case k37 => k_is)
    (case a38 => k_is)
    (case l38 => k_is)
    (case c38 => k_is)
    (case k38 => k_is)
    (case a39 => k_is)
    (case l39 => k_is)
    (case c39 => k_is)
    (case k39 => k_is)
    (case a40 => k_is)
    (case l40 => k_is)
    (case c40 => k_is)
    (case k40 => k_is)
    (case a41 => k_is)
    (case l41 => k_is)
    (case c41 => k_is)
    (case k41 => k_is)
    (case a42 => k_is)
    (case l42 => k_is)
    (case c42 => k_is)
    (case k42 => k_is)
    (case a43 => k_is)
    (case l43 => k_is)
    (case c43 => k_is)
    (case k43 => k_is)
    (case a44 => k_is)
    (case l44 => k_is)
    (case c44 => k_is)
    (case k44 => k_is)
    (case a45 => k_is)
    (case l45 => k_is)
    (case c45 => k_is)
    (case k45 => k_is)
    (case z0 => k_is)
    (case z1 => k_is)
    (case z2 => k_is)
    (case z3 => k_is)
    (case z4 => k_is)
    (case z5 => k_is)
    (case z6 => k_is)
    (case z7 => k_is)
    (case z8 => k_is)
    (case z9 => k_is)
    (case z10 => k_is)
    (case z11 => k_is)
    (case z12 => k_is)
    (case z13 => k_is)
    (case z14 => k_is)
    (case z15 => k_is)
    (case z16 => k_is)
    (case gk0 => k_is)
    (case gl0 => k_is)
    (case gk1 => k_is)
    (case gl1 => k_is)

