import PyProof.Rows.All
import Wide.All
import OpenK.AllK
import Wide.FinOn
import HandS.ForExc
import HandS.ForMost
import HandS.Wide
import HandS.Flow
import HandS.SortInts
import HandS.TupAny
import HandS.Deep
import HandS.More
import HandS.RaiseMore
import HandS.Iter
import HandS.Style
import OpenK.KEqL
import PySem.Challenge.RW_forktold_k78_how_many_trees
set_option Elab.async false
set_option linter.all false
set_option maxRecDepth 100000
/-! A layer over HandS: readings as functions on plain data (PyData). Part 1: relations. -/
namespace DL
open PySem PySem.Spec L2

/-! ### data and heaps -/
def keyD : Key → PyData
  | .inl i => .int i
  | .inr x => .str x
mutual
/-- v stands for the data d; no object at F is used -/
inductive Rep (F : Addr → Prop) (H : Hp) : V → PyData → Prop
  | non : Rep F H .non .none
  | bl (b : Bool) : Rep F H (.bl b) (.bool b)
  | int (i : Int) : Rep F H (.int i) (.int i)
  | str (x : Str) : Rep F H (.str x) (.str x)
  | lst {a : Addr} {xs : List V} {ds : List PyData} : ¬ F a → Rd H a (.lst xs) → RepAll F H xs ds → Rep F H (.ref a) (.list ds)
  | tup {a : Addr} {xs : List V} {ds : List PyData} : ¬ F a → Rd H a (.tup xs) → RepAll F H xs ds → Rep F H (.ref a) (.tuple ds)
  | dK {a : Addr} {ks : List (Key × V)} {kvs : List (PyData × PyData)} : ¬ F a → Rd H a (.dK ks) → RepK F H ks kvs → Rep F H (.ref a) (.dict kvs)
  | dT {a : Addr} {ks : List (List Key × V)} {kvs : List (PyData × PyData)} : ¬ F a → Rd H a (.dT ks) → RepT F H ks kvs → Rep F H (.ref a) (.dict kvs)
inductive RepAll (F : Addr → Prop) (H : Hp) : List V → List PyData → Prop
  | nil : RepAll F H [] []
  | cons {v : V} {vs : List V} {d : PyData} {ds : List PyData} : Rep F H v d → RepAll F H vs ds → RepAll F H (v :: vs) (d :: ds)
inductive RepK (F : Addr → Prop) (H : Hp) : List (Key × V) → List (PyData × PyData) → Prop
  | nil : RepK F H [] []
  | cons {k : Key} {v : V} {d : PyData} {ks : List (Key × V)} {kvs : List (PyData × PyData)} : Rep F H v d → RepK F H ks kvs → RepK F H ((k, v) :: ks) ((keyD k, d) :: kvs)
inductive RepT (F : Addr → Prop) (H : Hp) : List (List Key × V) → List (PyData × PyData) → Prop
  | nil : RepT F H [] []
  | cons {k : List Key} {v : V} {d : PyData} {ks : List (List Key × V)} {kvs : List (PyData × PyData)} : Rep F H v d → RepT F H ks kvs → RepT F H ((k, v) :: ks) ((.tuple (k.map keyD), d) :: kvs)
end

theorem rd_at {H H' : Hp} {a : Addr} {u : HO} (r : Rd H a u) (k : ∀ o, H a = some o → H' a = some o) : Rd H' a u := by
  rcases r with r | ⟨o, r⟩
  · exact .inl (k _ r)
  · exact .inr ⟨o, k _ r⟩
theorem rd_some {H : Hp} {a : Addr} {u : HO} (r : Rd H a u) : H a ≠ none := by
  rcases r with r | ⟨o, r⟩ <;> rw [r] <;> simp

section
variable {F F' : Addr → Prop} {H H' : Hp}
mutual
theorem Rep.to (hk : ∀ b o, H b = some o → ¬ F b → ¬ F' b ∧ H' b = some o) : ∀ {v : V} {d : PyData}, Rep F H v d → Rep F' H' v d
  | _, _, .non => .non
  | _, _, .bl b => .bl b
  | _, _, .int i => .int i
  | _, _, .str x => .str x
  | _, _, .lst h1 h2 h3 => .lst (by
      obtain ⟨o, e⟩ := Option.ne_none_iff_exists'.mp (rd_some h2)
      exact (hk _ _ e h1).1) (rd_at h2 fun o e => (hk _ _ e h1).2) (RepAll.to hk h3)
  | _, _, .tup h1 h2 h3 => .tup (by
      obtain ⟨o, e⟩ := Option.ne_none_iff_exists'.mp (rd_some h2)
      exact (hk _ _ e h1).1) (rd_at h2 fun o e => (hk _ _ e h1).2) (RepAll.to hk h3)
  | _, _, .dK h1 h2 h3 => .dK (by
      obtain ⟨o, e⟩ := Option.ne_none_iff_exists'.mp (rd_some h2)
      exact (hk _ _ e h1).1) (rd_at h2 fun o e => (hk _ _ e h1).2) (RepK.to hk h3)
  | _, _, .dT h1 h2 h3 => .dT (by
      obtain ⟨o, e⟩ := Option.ne_none_iff_exists'.mp (rd_some h2)
      exact (hk _ _ e h1).1) (rd_at h2 fun o e => (hk _ _ e h1).2) (RepT.to hk h3)
theorem RepAll.to (hk : ∀ b o, H b = some o → ¬ F b → ¬ F' b ∧ H' b = some o) : ∀ {vs : List V} {ds : List PyData}, RepAll F H vs ds → RepAll F' H' vs ds
  | _, _, .nil => .nil
  | _, _, .cons h t => .cons (Rep.to hk h) (RepAll.to hk t)
theorem RepK.to (hk : ∀ b o, H b = some o → ¬ F b → ¬ F' b ∧ H' b = some o) : ∀ {vs : List (Key × V)} {ds : List (PyData × PyData)}, RepK F H vs ds → RepK F' H' vs ds
  | _, _, .nil => .nil
  | _, _, .cons h t => .cons (Rep.to hk h) (RepK.to hk t)
theorem RepT.to (hk : ∀ b o, H b = some o → ¬ F b → ¬ F' b ∧ H' b = some o) : ∀ {vs : List (List Key × V)} {ds : List (PyData × PyData)}, RepT F H vs ds → RepT F' H' vs ds
  | _, _, .nil => .nil
  | _, _, .cons h t => .cons (Rep.to hk h) (RepT.to hk t)
end

theorem RepAll.length : ∀ {vs : List V} {ds : List PyData}, RepAll F H vs ds → vs.length = ds.length
  | _, _, .nil => rfl
  | _, _, .cons _ t => congrArg (· + 1) (RepAll.length t)
theorem RepAll.get : ∀ {vs : List V} {ds : List PyData} {i : Nat} {d : PyData}, RepAll F H vs ds → ds[i]? = some d → ∃ v, vs[i]? = some v ∧ Rep F H v d
  | _, _, _, _, .nil, e => by simp at e
  | _, _, 0, _, .cons h _, e => by simp at e; subst e; exact ⟨_, rfl, h⟩
  | _, _, i + 1, d, .cons _ t, e => by
    obtain ⟨v, h1, h2⟩ := RepAll.get (i := i) (d := d) t (by simpa using e)
    exact ⟨v, by simpa using h1, h2⟩
theorem RepAll.get' : ∀ {vs : List V} {ds : List PyData} {i : Nat} {v : V}, RepAll F H vs ds → vs[i]? = some v → ∃ d, ds[i]? = some d ∧ Rep F H v d
  | _, _, _, _, .nil, e => by simp at e
  | _, _, 0, _, .cons h _, e => by simp at e; subst e; exact ⟨_, rfl, h⟩
  | _, _, i + 1, d, .cons _ t, e => by
    obtain ⟨v, h1, h2⟩ := RepAll.get' (i := i) t (by simpa using e)
    exact ⟨v, by simpa using h1, h2⟩
theorem RepAll.append : ∀ {vs ws : List V} {ds es : List PyData}, RepAll F H vs ds → RepAll F H ws es → RepAll F H (vs ++ ws) (ds ++ es)
  | _, _, _, _, .nil, h => h
  | _, _, _, _, .cons h t, k => .cons h (RepAll.append t k)
theorem RepAll.take : ∀ {vs : List V} {ds : List PyData} (n : Nat), RepAll F H vs ds → RepAll F H (vs.take n) (ds.take n)
  | _, _, 0, _ => .nil
  | _, _, _ + 1, .nil => .nil
  | _, _, n + 1, .cons h t => .cons h (RepAll.take n t)
theorem RepAll.drop : ∀ {vs : List V} {ds : List PyData} (n : Nat), RepAll F H vs ds → RepAll F H (vs.drop n) (ds.drop n)
  | _, _, 0, h => h
  | _, _, _ + 1, .nil => .nil
  | _, _, n + 1, .cons _ t => RepAll.drop n t
theorem RepAll.set {v : V} {d : PyData} (r : Rep F H v d) : ∀ {vs : List V} {ds : List PyData} (n : Nat), RepAll F H vs ds → RepAll F H (vs.set n v) (ds.set n d)
  | _, _, _, .nil => .nil
  | _, _, 0, .cons _ t => .cons r t
  | _, _, n + 1, .cons h t => .cons h (RepAll.set r n t)
theorem RepAll.eraseIdx : ∀ {vs : List V} {ds : List PyData} (n : Nat), RepAll F H vs ds → RepAll F H (vs.eraseIdx n) (ds.eraseIdx n)
  | _, _, _, .nil => .nil
  | _, _, 0, .cons _ t => t
  | _, _, n + 1, .cons h t => .cons h (RepAll.eraseIdx n t)
theorem RepAll.reverse {vs : List V} {ds : List PyData} (h : RepAll F H vs ds) : RepAll F H vs.reverse ds.reverse := by
  induction vs generalizing ds with
  | nil => cases h; exact .nil
  | cons v vs ih => cases h with | cons h t => simpa using (ih t).append (.cons h .nil)
theorem RepAll.dropLast {vs : List V} {ds : List PyData} (h : RepAll F H vs ds) : RepAll F H vs.dropLast ds.dropLast := by
  rw [List.dropLast_eq_take, List.dropLast_eq_take, h.length]
  exact h.take _
theorem RepAll.ints : ∀ {vs : List V} {ns : List Int}, RepAll F H vs (ns.map PyData.int) → vs = ns.map V.int
  | _, [], .nil => rfl
  | _, n :: ns, .cons (.int _) t => by rw [RepAll.ints t]; rfl
theorem RepAll.ofInts : ∀ (ns : List Int), RepAll F H (ns.map V.int) (ns.map PyData.int)
  | [] => .nil
  | n :: ns => .cons (.int n) (RepAll.ofInts ns)
theorem RepAll.bools : ∀ {vs : List V} {ns : List Bool}, RepAll F H vs (ns.map PyData.bool) → vs = ns.map V.bl
  | _, [], .nil => rfl
  | _, n :: ns, .cons (.bl _) t => by rw [RepAll.bools t]; rfl
mutual
theorem Rep.dp {K : PySem.W.Frag} : ∀ {v : V} {d : PyData}, Rep F H v d → d.hasDict = false → Dp K H v d
  | _, _, .non, _ => .non
  | _, _, .bl b, _ => .bl b
  | _, _, .int i, _ => .int i
  | _, _, .str x, _ => .str x
  | _, _, .lst _ h2 h3, e => .lst (.inl h2) (RepAll.dp h3 (by simpa only [PyData.hasDict] using e))
  | _, _, .tup _ h2 h3, e => .tup (.inl h2) (RepAll.dp h3 (by simpa only [PyData.hasDict] using e))
  | _, _, .dK _ h2 h3, e => by simp only [PyData.hasDict] at e; cases e
  | _, _, .dT _ h2 h3, e => by simp only [PyData.hasDict] at e; cases e
theorem RepAll.dp {K : PySem.W.Frag} : ∀ {vs : List V} {ds : List PyData}, RepAll F H vs ds → PyData.hasDictAll ds = false → DpAll K H vs ds
  | _, _, .nil, _ => .nil
  | _, _, .cons h t, e => by
    simp only [PyData.hasDictAll, Bool.or_eq_false_iff] at e
    exact .cons (Rep.dp h e.1) (RepAll.dp t e.2)
end
end

/-- readable at the top; the parts are not at F -/
inductive Top (F : Addr → Prop) (H : Hp) : V → PyData → Prop
  | non : Top F H .non .none
  | bl (b : Bool) : Top F H (.bl b) (.bool b)
  | int (i : Int) : Top F H (.int i) (.int i)
  | str (x : Str) : Top F H (.str x) (.str x)
  | lst {a : Addr} {xs : List V} {ds : List PyData} : Rd H a (.lst xs) → RepAll F H xs ds → Top F H (.ref a) (.list ds)
  | tup {a : Addr} {xs : List V} {ds : List PyData} : ¬ F a → Rd H a (.tup xs) → RepAll F H xs ds → Top F H (.ref a) (.tuple ds)
  | dK {a : Addr} {ks : List (Key × V)} {kvs : List (PyData × PyData)} : Rd H a (.dK ks) → RepK F H ks kvs → Top F H (.ref a) (.dict kvs)
  | dT {a : Addr} {ks : List (List Key × V)} {kvs : List (PyData × PyData)} : Rd H a (.dT ks) → RepT F H ks kvs → Top F H (.ref a) (.dict kvs)
theorem Rep.top {F : Addr → Prop} {H : Hp} {v : V} {d : PyData} : Rep F H v d → Top F H v d
  | .non => .non
  | .bl b => .bl b
  | .int i => .int i
  | .str x => .str x
  | .lst _ a b => .lst a b
  | .tup n a b => .tup n a b
  | .dK _ a b => .dK a b
  | .dT _ a b => .dT a b
theorem Top.dp {F : Addr → Prop} {H : Hp} {K : PySem.W.Frag} {v : V} {d : PyData} : Top F H v d → d.hasDict = false → Dp K H v d
  | .non, _ => .non
  | .bl b, _ => .bl b
  | .int i, _ => .int i
  | .str x, _ => .str x
  | .lst h2 h3, e => .lst (.inl h2) (RepAll.dp h3 (by simpa only [PyData.hasDict] using e))
  | .tup _ h2 h3, e => .tup (.inl h2) (RepAll.dp h3 (by simpa only [PyData.hasDict] using e))
  | .dK h2 h3, e => by simp only [PyData.hasDict] at e; cases e
  | .dT h2 h3, e => by simp only [PyData.hasDict] at e; cases e
/-- what an object holds -/
def Parts (F : Addr → Prop) (H : Hp) : HO → PyData → Prop
  | .lst xs, .list ds => RepAll F H xs ds
  | .dK ks, .dict kvs => RepK F H ks kvs
  | .dT ks, .dict kvs => RepT F H ks kvs
  | _, _ => False
theorem Parts.to {F F' : Addr → Prop} {H H' : Hp} (hk : ∀ b o, H b = some o → ¬ F b → ¬ F' b ∧ H' b = some o) {o : HO} {d : PyData} (p : Parts F H o d) : Parts F' H' o d := by
  cases o <;> cases d <;> first
    | exact RepAll.to hk p
    | exact RepK.to hk p
    | exact RepT.to hk p
    | exact p
theorem Parts.top {F : Addr → Prop} {H : Hp} {o : HO} {d : PyData} {a : Addr} (e : Rd H a o) (p : Parts F H o d) : Top F H (.ref a) d := by
  cases o <;> cases d <;> first
    | exact .lst e p
    | exact .dK e p
    | exact .dT e p
    | exact p.elim
theorem Parts.rep {F : Addr → Prop} {H : Hp} {o : HO} {d : PyData} {a : Addr} (n : ¬ F a) (e : Rd H a o) (p : Parts F H o d) : Rep F H (.ref a) d := by
  cases o <;> cases d <;> first
    | exact .lst n e p
    | exact .dK n e p
    | exact .dT n e p
    | exact p.elim
theorem Parts.mut {F : Addr → Prop} {H : Hp} {o : HO} {d : PyData} (p : Parts F H o d) : Mut (some o) := by
  cases o <;> cases d <;> first
    | exact trivial
    | exact p.elim
/-- an object of one's own -/
def OwnOk (F : Addr → Prop) (H : Hp) (a : Addr) (d : PyData) : Prop := ∃ o, H a = some o ∧ Parts F H o d
theorem OwnOk.top {F : Addr → Prop} {H : Hp} {a : Addr} {d : PyData} : OwnOk F H a d → Top F H (.ref a) d := fun ⟨o, e, p⟩ => p.top (.inl e)
theorem OwnOk.rep {F : Addr → Prop} {H : Hp} {a : Addr} {d : PyData} (n : ¬ F a) : OwnOk F H a d → Rep F H (.ref a) d := fun ⟨o, e, p⟩ => p.rep n (.inl e)
theorem OwnOk.there {F : Addr → Prop} {H : Hp} {a : Addr} {d : PyData} : OwnOk F H a d → H a ≠ none := fun ⟨o, e, p⟩ => by rw [e]; simp
theorem OwnOk.to {F F' : Addr → Prop} {H H' : Hp} {a : Addr} {d : PyData} (hk : ∀ b o, H b = some o → ¬ F b → ¬ F' b ∧ H' b = some o) (ha : ∀ o, H a = some o → H' a = some o) : OwnOk F H a d → OwnOk F' H' a d := fun ⟨o, e, p⟩ => ⟨o, ha o e, p.to hk⟩

/-! ### streams of draws, names' cells -/
abbrev Om := Nat → Nat
inductive Cell where
  | val (d : PyData) | own (d : PyData) | lck (d : PyData) | src
inductive RC where
  | val (d : PyData) | own (d : PyData) | brw (i : Nat) | src
abbrev Env' := List (Option Cell)
abbrev M (α : Type) := Env' → Om → Option (α × Env' × Om)
def RC.get (ρ : Env') : RC → Option PyData
  | .val d => some d
  | .own d => some d
  | .brw i => match ρ[i]? with
    | some (some (.own d)) => some d
    | some (some (.lck d)) => some d
    | _ => none
  | .src => none
def Tot {α : Type} (f : M α) (ρ : Env') : Prop := ∀ ω, ∃ r, f ρ ω = some r
def Can {α : Type} (f : M α) (ρ : Env') (a : α) (ρ' : Env') : Prop := ∀ ω', ∃ ω, f ρ ω = some (a, ρ', ω')
@[inline] def bnd {α β : Type} (f : M α) (g : α → M β) : M β := fun ρ ω => match f ρ ω with
  | some (a, ρ', ω') => g a ρ' ω'
  | none => none
@[inline] def ret {α : Type} (a : α) : M α := fun ρ ω => some (a, ρ, ω)
@[inline] def opt {α : Type} (o : Option α) : M α := fun ρ ω => match o with
  | some a => some (a, ρ, ω)
  | none => none
def fail {α : Type} : M α := fun _ _ => none
/-- the data of a result, as it stands now -/
@[inline] def now (c : RC) : M PyData := fun ρ ω => match c.get ρ with
  | some d => some (d, ρ, ω)
  | none => none
section
variable {α β : Type} {f : M α} {g : α → M β} {ρ ρ' ρ'' : Env'} {a : α} {b : β}
theorem Tot.fst (h : Tot (bnd f g) ρ) : Tot f ρ := fun ω => by
  obtain ⟨r, e⟩ := h ω
  unfold bnd at e
  cases q : f ρ ω with
  | none => rw [q] at e; cases e
  | some x => exact ⟨x, rfl⟩
theorem Tot.snd (h : Tot (bnd f g) ρ) (c : Can f ρ a ρ') : Tot (g a) ρ' := fun ω' => by
  obtain ⟨ω, e⟩ := c ω'
  obtain ⟨r, e2⟩ := h ω
  unfold bnd at e2
  rw [e] at e2
  exact ⟨r, e2⟩
theorem Can.bnd (c : Can f ρ a ρ') (d : Can (g a) ρ' b ρ'') : Can (bnd f g) ρ b ρ'' := fun ω'' => by
  obtain ⟨ω', e2⟩ := d ω''
  obtain ⟨ω, e⟩ := c ω'
  exact ⟨ω, by unfold DL.bnd; rw [e]; exact e2⟩
theorem Can.ret : Can (ret a) ρ a ρ := fun ω => ⟨ω, rfl⟩
theorem Tot.opt {o : Option α} (h : Tot (opt o) ρ) : ∃ a, o = some a := by
  obtain ⟨r, e⟩ := h (fun _ => 0)
  unfold DL.opt at e
  cases o with
  | none => cases e
  | some a => exact ⟨a, rfl⟩
theorem Can.opt : Can (opt (some a)) ρ a ρ := fun ω => ⟨ω, rfl⟩
theorem Tot.now {c : RC} (h : Tot (now c) ρ) : ∃ d, c.get ρ = some d := by
  obtain ⟨r, e⟩ := h (fun _ => 0)
  unfold DL.now at e
  cases q : c.get ρ with
  | none => rw [q] at e; cases e
  | some a => exact ⟨a, rfl⟩
theorem Can.now {c : RC} {d : PyData} (h : c.get ρ = some d) : Can (now c) ρ d ρ := fun ω => ⟨ω, by unfold DL.now; rw [h]⟩
theorem Tot.fail (h : Tot (fail : M α) ρ) : False := by
  obtain ⟨r, e⟩ := h (fun _ => 0)
  cases e
end
end DL
set_option Elab.async false
set_option linter.all false
set_option maxRecDepth 100000
/-! Part 2: the relation between the state and the names' cells; judgements. -/
namespace DL
open PySem PySem.Spec L2

/-- how the source of draws stands in the heap; each family of laws has its own -/
class Fam where
  inv : V → (Addr → Prop) → Hp → Prop
variable [Fam]
/-- what stands around a def: S the draws' source's objects, F0 what the def may not lean on, FS what the source does not lean on, H0 the heap at its entry -/
structure Ctx where
  S : Addr → Prop
  srcv : V
  Src : (Addr → Prop) → Hp → Prop
  F0 : Addr → Prop
  FS : Addr → Prop
  H0 : Hp
  sub : ∀ b, S b → F0 b
  f0 : ∀ b, F0 b → S b ∨ H0 b ≠ none
  mono : ∀ F F' H, (∀ b, F' b → F b) → Src F H → Src F' H
  fresh : ∀ F H a, H a = none → Src F H → Src (fun b => F b ∨ b = a) H
  keep : ∀ F H H', Src F H → (∀ b o, H b = some o → (S b ∨ ¬ F b) → H' b = some o) → Src F H'
  there : ∀ F H b, Src F H → S b → H b ≠ none
  fam : ∀ F H, Src F H → Fam.inv srcv S H
  chg : ∀ F H H', Src F H → (∀ b o, H b = some o → ¬ S b → H' b = some o) → Fam.inv srcv S H' → Src F H'
def Fb (C : Ctx) (G : List Addr) (b : Addr) : Prop := C.F0 b ∨ b ∈ G
def Fs (C : Ctx) (G : List Addr) (b : Addr) : Prop := C.FS b ∨ b ∈ G
def SlotOk (C : Ctx) (G : List Addr) (H : Hp) (v : V) : Cell → Prop
  | .val d => Rep (Fb C G) H v d
  | .own d => ∃ a, v = .ref a ∧ a ∈ G ∧ OwnOk (Fb C G) H a d
  | .lck d => ∃ a, v = .ref a ∧ a ∈ G ∧ OwnOk (Fb C G) H a d
  | .src => v = C.srcv
def Cell.excl : Cell → Bool
  | .own _ => true
  | .lck _ => true
  | _ => false
/-- the name at i has an object for itself alone -/
def ExAt (ρ : Env') (i : Nat) : Prop := ∃ c, ρ[i]? = some (some c) ∧ c.excl = true
def OwnAt (ρ : Env') (i : Nat) : Prop := ∃ d, ρ[i]? = some (some (.own d))
structure RS (C : Ctx) (G : List Addr) (ρ : Env') (σ : St) (H : Hp) : Prop where
  len : σ.length = ρ.length
  frame : ∀ b o, C.H0 b = some o → ¬ C.S b → H b = some o
  gs : ∀ a ∈ G, C.H0 a = none ∧ ¬ C.F0 a ∧ H a ≠ none
  src : C.Src (Fs C G) H
  slot : ∀ (i : Nat) (c : Cell), ρ[i]? = some (some c) → ∃ v, σ[i]? = some (some v) ∧ SlotOk C G H v c
  sep : ∀ (i j : Nat) (v : V), i ≠ j → ExAt ρ i → ExAt ρ j → σ[i]? = some (some v) → σ[j]? ≠ some (some v)
/-- an address that a name owns and may change -/
def OwnSl (ρ : Env') (σ : St) (a : Addr) : Prop := ∃ i, OwnAt ρ i ∧ σ[i]? = some (some (.ref a))
def ExSl (ρ : Env') (σ : St) (a : Addr) : Prop := ∃ i, ExAt ρ i ∧ σ[i]? = some (some (.ref a))
theorem OwnAt.ex {ρ : Env'} {i : Nat} (h : OwnAt ρ i) : ExAt ρ i := let ⟨d, e⟩ := h; ⟨_, e, rfl⟩
theorem OwnSl.ex {ρ : Env'} {σ : St} {a : Addr} (h : OwnSl ρ σ a) : ExSl ρ σ a := let ⟨i, o, e⟩ := h; ⟨i, o.ex, e⟩
/-- what stays behind code: all but the source and what names owned -/
structure Fr (C : Ctx) (ρ : Env') (σ : St) (H H' : Hp) : Prop where
  keep : ∀ b o, H b = some o → ¬ C.S b → ¬ OwnSl ρ σ b → H' b = some o
  there : ∀ b, H b ≠ none → H' b ≠ none
/-- the kinds of the names' cells stay -/
def Cell.kind : Cell → Option Cell
  | .own _ => none
  | c => some c
def Shape (ρ ρ' : Env') : Prop := ∀ i : Nat, (ρ'[i]?.map (Option.map Cell.kind)) = (ρ[i]?.map (Option.map Cell.kind))
def GExt (G G' : List Addr) (H : Hp) : Prop := (∀ a ∈ G, a ∈ G') ∧ ∀ a ∈ G', a ∈ G ∨ H a = none
/-- a value that waits -/
def Pend (C : Ctx) (G : List Addr) (ρ : Env') (σ : St) (H : Hp) (v : V) : RC → Prop
  | .val d => Rep (Fb C G) H v d
  | .own d => ∃ a, v = .ref a ∧ a ∈ G ∧ ¬ ExSl ρ σ a ∧ OwnOk (Fb C G) H a d
  | .brw i => σ[i]? = some (some v) ∧ ExAt ρ i
  | .src => v = C.srcv

section
variable {C : Ctx} {G G' G2 : List Addr} {ρ ρ' ρ2 : Env'} {σ : St} {H H' H2 : Hp} {v : V} {c : RC} {d : PyData} {a : Addr}

theorem Shape.refl : Shape ρ ρ := fun _ => rfl
theorem Shape.trans (h : Shape ρ ρ') (k : Shape ρ' ρ2) : Shape ρ ρ2 := fun i => (k i).trans (h i)
theorem kind_own {c : Cell} (h : c.kind = none) : ∃ d, c = .own d := by cases c <;> simp [Cell.kind] at h; exact ⟨_, rfl⟩
theorem excl_kind {c c' : Cell} (h : c.kind = c'.kind) : c.excl = c'.excl := by cases c <;> cases c' <;> simp_all [Cell.kind, Cell.excl]
theorem Shape.at (h : Shape ρ ρ') {i : Nat} {c : Cell} (e : ρ'[i]? = some (some c)) : ∃ c', ρ[i]? = some (some c') ∧ c'.kind = c.kind := by
  have q := h i
  rw [e] at q
  cases e1 : ρ[i]? with
  | none => rw [e1] at q; cases q
  | some x =>
    rw [e1] at q
    cases x with
    | none => cases q
    | some c' =>
      simp only [Option.map_some, Option.some.injEq] at q
      exact ⟨c', rfl, q.symm⟩
theorem Shape.symm (h : Shape ρ ρ') : Shape ρ' ρ := fun i => (h i).symm
theorem Shape.own (h : Shape ρ ρ') {i : Nat} (o : OwnAt ρ' i) : OwnAt ρ i := by
  obtain ⟨d, e⟩ := o
  obtain ⟨c', e', k⟩ := h.at e
  obtain ⟨d', rfl⟩ := kind_own (c := c') (by rw [k]; rfl)
  exact ⟨d', e'⟩
theorem Shape.ex (h : Shape ρ ρ') {i : Nat} (o : ExAt ρ' i) : ExAt ρ i := by
  obtain ⟨d, e, x⟩ := o
  obtain ⟨c', e', k⟩ := h.at e
  exact ⟨c', e', (excl_kind k).trans x⟩
theorem Shape.lck (h : Shape ρ ρ') {i : Nat} {d : PyData} (e : ρ'[i]? = some (some (.lck d))) : ρ[i]? = some (some (.lck d)) := by
  obtain ⟨c', e', k⟩ := h.at e
  cases c' <;> simp [Cell.kind] at k
  subst k
  exact e'
theorem Shape.ownSl (h : Shape ρ ρ') : OwnSl ρ' σ a → OwnSl ρ σ a := fun ⟨i, o, e⟩ => ⟨i, h.own o, e⟩
theorem Shape.exSl (h : Shape ρ ρ') : ExSl ρ' σ a → ExSl ρ σ a := fun ⟨i, o, e⟩ => ⟨i, h.ex o, e⟩
theorem Fr.refl : Fr C ρ σ H H := ⟨fun _ _ e _ _ => e, fun _ e => e⟩
theorem Fr.trans (s : Shape ρ ρ') (h : Fr C ρ σ H H') (k : Fr C ρ' σ H' H2) : Fr C ρ σ H H2 :=
  ⟨fun b o e ns no => k.keep b o (h.keep b o e ns no) ns (fun z => no (s.ownSl z)), fun b e => k.there b (h.there b e)⟩
theorem GExt.refl : GExt G G H := ⟨fun _ h => h, fun _ h => .inl h⟩
theorem GExt.trans (h : GExt G G' H) (f : ∀ b, H b ≠ none → H' b ≠ none) (k : GExt G' G2 H') : GExt G G2 H :=
  ⟨fun a x => k.1 a (h.1 a x), fun a x => by
    rcases k.2 a x with y | y
    · exact h.2 a y
    · exact .inr (by
        cases e : H a with
        | none => rfl
        | some o => exact absurd y (f a (by rw [e]; simp)))⟩

/-! ### what a state has -/
theorem RS.ex (R : RS C G ρ σ H) {i : Nat} (o : ExAt ρ i) : ∃ a d, σ[i]? = some (some (.ref a)) ∧ a ∈ G ∧ OwnOk (Fb C G) H a d ∧ (ρ[i]? = some (some (.own d)) ∨ ρ[i]? = some (some (.lck d))) := by
  obtain ⟨c, e, x⟩ := o
  obtain ⟨v, hv, s⟩ := R.slot i c e
  cases c with
  | val d => cases x
  | own d => obtain ⟨a, rfl, g, ok⟩ := s; exact ⟨a, d, hv, g, ok, .inl e⟩
  | lck d => obtain ⟨a, rfl, g, ok⟩ := s; exact ⟨a, d, hv, g, ok, .inr e⟩
  | src => cases x
theorem RS.exG (R : RS C G ρ σ H) (o : ExSl ρ σ a) : a ∈ G := by
  obtain ⟨i, o, e⟩ := o
  obtain ⟨b, d, e', g, _⟩ := R.ex o
  rw [e] at e'
  cases e'
  exact g
theorem RS.notS (R : RS C G ρ σ H) (h : a ∈ G) : ¬ C.S a := fun z => (R.gs a h).2.1 (C.sub a z)
theorem RS.fb_there (R : RS C G ρ σ H) {b : Addr} (h : Fb C G b) : H b ≠ none := by
  rcases h with h | h
  · rcases C.f0 b h with z | z
    · exact C.there _ _ b R.src z
    · by_cases hs : C.S b
      · exact C.there _ _ b R.src hs
      · obtain ⟨o, e⟩ := Option.ne_none_iff_exists'.mp z
        rw [R.frame b o e hs]; simp
  · exact (R.gs b h).2.2
theorem RS.fresh (R : RS C G ρ σ H) (h : H a = none) : ¬ Fb C G a := fun z => R.fb_there z h
/-- what does not lean on the forbidden stays -/
theorem carry_hk (R : RS C G ρ σ H) (f : Fr C ρ σ H H') (g : GExt G G' H) : ∀ b o, H b = some o → ¬ Fb C G b → ¬ Fb C G' b ∧ H' b = some o := fun b o e n => by
  refine ⟨fun z => ?_, f.keep b o e (fun z => n (.inl (C.sub b z))) fun z => n (.inr (R.exG z.ex))⟩
  rcases z with z | z
  · exact n (.inl z)
  · rcases g.2 b z with q | q
    · exact n (.inr q)
    · rw [e] at q; cases q
theorem Pend.carry (R : RS C G ρ σ H) (p : Pend C G ρ σ H v c) (f : Fr C ρ σ H H') (s : Shape ρ ρ') (g : GExt G G' H) : Pend C G' ρ' σ H' v c := by
  cases c with
  | val d => exact Rep.to (carry_hk R f g) p
  | own d =>
    obtain ⟨a, e, hG, ns, ok⟩ := p
    exact ⟨a, e, g.1 a hG, fun z => ns (s.exSl z), ok.to (carry_hk R f g) fun o h => f.keep a o h (R.notS hG) fun z => ns z.ex⟩
  | brw i => exact ⟨p.1, s.symm.ex p.2⟩
  | src => exact p
theorem Pend.top (R : RS C G ρ σ H) (p : Pend C G ρ σ H v c) (e : c.get ρ = some d) : Top (Fb C G) H v d := by
  cases c with
  | val d' => cases e; exact Rep.top p
  | own d' => cases e; obtain ⟨a, rfl, _, _, ok⟩ := p; exact ok.top
  | brw i =>
    obtain ⟨a, d', h1, _, ok, h2⟩ := R.ex p.2
    have := p.1
    rw [h1] at this; cases this
    have e' : d' = d := by
      rcases h2 with h2 | h2 <;> (simp only [RC.get, h2] at e; exact Option.some.inj e)
    subst e'
    exact ok.top
  | src => cases e
/-- fewer are kept apart -/
theorem RS.less (R : RS C G ρ σ H) (h : ∀ b ∈ G', b ∈ G) (k : ∀ b, ExSl ρ σ b → b ∈ G') : RS C G' ρ σ H where
  len := R.len
  frame := R.frame
  gs := fun a x => R.gs a (h a x)
  src := C.mono _ _ _ (fun b x => x.imp id (h b)) R.src
  slot := fun i c e => by
    obtain ⟨v, hv, s⟩ := R.slot i c e
    have hk : ∀ b o, H b = some o → ¬ Fb C G b → ¬ Fb C G' b ∧ H b = some o := fun b o e n => ⟨fun z => n (z.imp id (h b)), e⟩
    refine ⟨v, hv, ?_⟩
    cases c with
    | val d => exact Rep.to hk s
    | own d => obtain ⟨a, rfl, g, ok⟩ := s; exact ⟨a, rfl, k a ⟨i, ⟨_, e, rfl⟩, hv⟩, ok.to hk fun _ z => z⟩
    | lck d => obtain ⟨a, rfl, g, ok⟩ := s; exact ⟨a, rfl, k a ⟨i, ⟨_, e, rfl⟩, hv⟩, ok.to hk fun _ z => z⟩
    | src => exact s
  sep := R.sep
/-- the heap changes where no name looks -/
theorem RS.heap (R : RS C G ρ σ H) (g : GExt G G' H) (f0 : ∀ b o, C.H0 b = some o → ¬ C.S b → H' b = some o) (hG : ∀ a ∈ G', C.H0 a = none ∧ ¬ C.F0 a ∧ H' a ≠ none) (hs : C.Src (Fs C G') H')
    (k : ∀ b o, H b = some o → ¬ C.S b → H' b = some o) : RS C G' ρ σ H' where
  len := R.len
  frame := f0
  gs := hG
  src := hs
  slot := fun i c e => by
    obtain ⟨v, hv, s⟩ := R.slot i c e
    have hk : ∀ b o, H b = some o → ¬ Fb C G b → ¬ Fb C G' b ∧ H' b = some o := fun b o e n => by
      refine ⟨fun z => ?_, k b o e fun z => n (.inl (C.sub b z))⟩
      rcases z with z | z
      · exact n (.inl z)
      · rcases g.2 b z with q | q
        · exact n (.inr q)
        · rw [e] at q; cases q
    refine ⟨v, hv, ?_⟩
    cases c with
    | val d => exact Rep.to hk s
    | own d => obtain ⟨a, rfl, hg, ok⟩ := s; exact ⟨a, rfl, g.1 a hg, ok.to hk fun o z => k a o z (R.notS hg)⟩
    | lck d => obtain ⟨a, rfl, hg, ok⟩ := s; exact ⟨a, rfl, g.1 a hg, ok.to hk fun o z => k a o z (R.notS hg)⟩
    | src => exact s
  sep := R.sep
end

/-! ### a step that changes nothing that stood: a value, a new tuple, a new list or dict -/
def Step (F : Addr → Prop) (H : Hp) (v : V) (H' : Hp) : RC → Prop
  | .val d => (H' = H ∧ Rep F H v d) ∨ ∃ p xs ds, H p = none ∧ v = .ref p ∧ H' = upd H p (.tup xs) ∧ RepAll F H xs ds ∧ d = .tuple ds
  | .own d => ∃ p o, H p = none ∧ v = .ref p ∧ H' = upd H p o ∧ Parts F H o d
  | _ => False
section
variable {C : Ctx} {G : List Addr} {ρ : Env'} {σ : St} {H H' : Hp} {v : V} {c : RC}
theorem upd_keep {p : Addr} {o : HO} (h : H p = none) : ∀ b u, H b = some u → upd H p o b = some u := fun b u e => by
  rw [upd_ne (ne_of_none e h)]
  exact e
theorem RS.new (R : RS C G ρ σ H) {p : Addr} {o : HO} (hp : H p = none) (G' : List Addr) (hG : G' = G ∨ G' = p :: G) : RS C G' ρ σ (upd H p o) ∧ Fr C ρ σ H (upd H p o) ∧ GExt G G' H := by
  have hn := R.fresh hp
  have hp0 : C.H0 p = none := by
    cases e : C.H0 p with
    | none => rfl
    | some u =>
      by_cases hs : C.S p
      · exact absurd hp (C.there _ _ p R.src hs)
      · rw [R.frame p u e hs] at hp; cases hp
  have g : GExt G G' H := by
    rcases hG with rfl | rfl
    · exact GExt.refl
    · exact ⟨fun a x => List.mem_cons_of_mem _ x, fun a x => by
        rcases List.mem_cons.mp x with rfl | x
        · exact .inr hp
        · exact .inl x⟩
  refine ⟨R.heap g (fun b u e hs => upd_keep hp b u (R.frame b u e hs)) (fun a x => ?_) ?_ (fun b u e _ => upd_keep hp b u e), ⟨fun b u e _ _ => upd_keep hp b u e, fun b e => ?_⟩, g⟩
  · rcases g.2 a x with y | y
    · have := R.gs a y
      refine ⟨this.1, this.2.1, ?_⟩
      by_cases z : a = p
      · subst z; rw [upd_same]; simp
      · rw [upd_ne z]; exact this.2.2
    · have : a = p := by
        rcases hG with rfl | rfl
        · exact absurd y (R.gs a x).2.2
        · rcases List.mem_cons.mp x with z | z
          · exact z
          · exact absurd y (R.gs a z).2.2
      subst this
      exact ⟨hp0, fun z => hn (.inl z), by rw [upd_same]; simp⟩
  · have s1 : C.Src (Fs C G) (upd H p o) := C.keep _ _ _ R.src fun b u e _ => upd_keep hp b u e
    have s0 : C.Src (Fs C G') H := by
      rcases hG with rfl | rfl
      · exact R.src
      · exact C.mono _ _ _ (fun b x => by
          rcases x with x | x
          · exact .inl (.inl x)
          · rcases List.mem_cons.mp x with x | x
            · exact .inr x
            · exact .inl (.inr x)) (C.fresh _ _ p hp R.src)
    exact C.keep _ _ _ s0 fun b u e _ => upd_keep hp b u e
  · by_cases z : b = p
    · subst z; rw [upd_same]; simp
    · rw [upd_ne z]; exact e
theorem Step.ok (R : RS C G ρ σ H) (s : Step (Fb C G) H v H' c) : ∃ G', RS C G' ρ σ H' ∧ Pend C G' ρ σ H' v c ∧ Fr C ρ σ H H' ∧ GExt G G' H := by
  cases c with
  | val d =>
    rcases s with ⟨rfl, r⟩ | ⟨p, xs, ds, hp, rfl, rfl, r, rfl⟩
    · exact ⟨G, R, r, Fr.refl, GExt.refl⟩
    · obtain ⟨R', f, g⟩ := R.new (o := .tup xs) hp G (.inl rfl)
      exact ⟨G, R', .tup (R.fresh hp) (.inl upd_same) (r.to (carry_hk R f g)), f, g⟩
  | own d =>
    obtain ⟨p, o, hp, rfl, rfl, ok⟩ := s
    obtain ⟨R', f, g⟩ := R.new (o := o) hp (p :: G) (.inr rfl)
    have hn := R.fresh hp
    exact ⟨p :: G, R', ⟨p, rfl, List.mem_cons_self, fun z => hn (.inr (R.exG z)), o, upd_same, ok.to (carry_hk R f g)⟩, f, g⟩
  | brw i => cases s
  | src => cases s
end
end DL
set_option Elab.async false
set_option linter.all false
set_option maxRecDepth 100000
/-! Part 3: judgements by functions on data; names, operators, tests. -/
namespace DL
open PySem PySem.Spec L2
variable [Fam]

structure Aft (C : Ctx) (G : List Addr) (ρ : Env') (σ : St) (H : Hp) (G' : List Addr) (ρ' : Env') (H' : Hp) : Prop where
  rs : RS C G' ρ' σ H'
  fr : Fr C ρ σ H H'
  sh : Shape ρ ρ'
  gx : GExt G G' H
/-- a value made for itself is new since H -/
def New (H : Hp) (v : V) : RC → Prop
  | .own _ => ∃ a, v = .ref a ∧ H a = none
  | _ => True
def liftE (f : M RC) : TE := fun σ H Q => ∃ C G ρ, RS C G ρ σ H ∧ Tot f ρ ∧ ∀ c ρ' G' v H', Can f ρ c ρ' → Aft C G ρ σ H G' ρ' H' → Pend C G' ρ' σ H' v c → New H v c → Q v H'
def liftT (f : M Bool) : TT := fun σ H Q => ∃ C G ρ, RS C G ρ σ H ∧ Tot f ρ ∧ ∀ b ρ' G' H', Can f ρ b ρ' → Aft C G ρ σ H G' ρ' H' → Q b H'
inductive PendAll (C : Ctx) (G : List Addr) (ρ : Env') (σ : St) (H H0 : Hp) : List V → List RC → Prop
  | nil : PendAll C G ρ σ H H0 [] []
  | cons {v : V} {vs : List V} {c : RC} {cs : List RC} : Pend C G ρ σ H v c → New H0 v c → PendAll C G ρ σ H H0 vs cs → PendAll C G ρ σ H H0 (v :: vs) (c :: cs)
def liftA (f : M (List RC)) : TA := fun σ H Q => ∃ C G ρ, RS C G ρ σ H ∧ Tot f ρ ∧ ∀ cs ρ' G' vs H', Can f ρ cs ρ' → Aft C G ρ σ H G' ρ' H' → PendAll C G' ρ' σ H' H vs cs → Q vs H'

section
variable {C : Ctx} {G G' G2 : List Addr} {ρ ρ' ρ2 : Env'} {σ : St} {H H' H2 H0 : Hp} {v : V} {c : RC} {d : PyData} {a : Addr} {vs : List V} {cs : List RC}
theorem Aft.refl (R : RS C G ρ σ H) : Aft C G ρ σ H G ρ H := ⟨R, Fr.refl, Shape.refl, GExt.refl⟩
theorem Aft.trans (h : Aft C G ρ σ H G' ρ' H') (k : Aft C G' ρ' σ H' G2 ρ2 H2) : Aft C G ρ σ H G2 ρ2 H2 :=
  ⟨k.rs, h.fr.trans h.sh k.fr, h.sh.trans k.sh, h.gx.trans h.fr.there k.gx⟩
theorem Aft.pend (R : RS C G ρ σ H) (k : Aft C G ρ σ H G' ρ' H') (p : Pend C G ρ σ H v c) : Pend C G' ρ' σ H' v c := p.carry R k.fr k.sh k.gx
theorem New.back (f : ∀ b, H b ≠ none → H' b ≠ none) (n : New H' v c) : New H v c := by
  cases c with
  | own d =>
    obtain ⟨a, e, q⟩ := n
    refine ⟨a, e, ?_⟩
    cases z : H a with
    | none => rfl
    | some o => exact absurd q (f a (by rw [z]; simp))
  | _ => trivial
theorem PendAll.back (f : ∀ b, H0 b ≠ none → H2 b ≠ none) : ∀ {vs : List V} {cs : List RC}, PendAll C G ρ σ H H2 vs cs → PendAll C G ρ σ H H0 vs cs
  | _, _, .nil => .nil
  | _, _, .cons p n t => .cons p (n.back f) (PendAll.back f t)
theorem Step.aft (R : RS C G ρ σ H) (s : Step (Fb C G) H v H' c) : ∃ G', Aft C G ρ σ H G' ρ H' ∧ Pend C G' ρ σ H' v c ∧ New H v c := by
  obtain ⟨G', R', p, f, g⟩ := s.ok R
  refine ⟨G', ⟨R', f, Shape.refl, g⟩, p, ?_⟩
  cases c with
  | own d => obtain ⟨q, o, hp, e, _⟩ := s; exact ⟨q, e, hp⟩
  | _ => trivial
end

theorem pe_mono {X : Cx} {e : Expr} {t t' : TE} (h : PE X e t) (k : ∀ σ H Q, t' σ H Q → t σ H Q) : PE X e t' := ⟨fun pins s σ H Q I q => h.run pins s σ H Q I (k σ H Q q)⟩
theorem pt_mono {X : Cx} {e : Expr} {t t' : TT} (h : PT X e t) (k : ∀ σ H Q, t' σ H Q → t σ H Q) : PT X e t' := ⟨fun pins s σ H Q I q => h.run pins s σ H Q I (k σ H Q q)⟩
theorem pw_mono {X : Cx} {e : Expr} {t t' : TT} (h : PW X e t) (k : ∀ σ H Q, t' σ H Q → t σ H Q) : PW X e t' := ⟨fun wh pins s σ H Q I q => h.run wh pins s σ H Q I (k σ H Q q)⟩
theorem pa_mono {X : Cx} {e : List Expr} {t t' : TA} (h : PA X e t) (k : ∀ σ H Q, t' σ H Q → t σ H Q) : PA X e t' := ⟨fun pos pins s σ H Q I q => h.run pos pins s σ H Q I (k σ H Q q)⟩
theorem ps_mono {X : Cx} {e : Stmt} {t t' : TS} (h : PS X e t) (k : ∀ D σ H, t' D σ H → t D σ H) : PS X e t' := ⟨fun pins s σ H D I q => h.run pins s σ H D I (k D σ H q)⟩
theorem pss_mono {X : Cx} {e : List Stmt} {t t' : TS} (h : PSs X e t) (k : ∀ D σ H, t' D σ H → t D σ H) : PSs X e t' := ⟨fun pins s σ H D I q => h.run pins s σ H D I (k D σ H q)⟩

/-! ### names, constants -/
def dVar (i : Nat) : M RC := fun ρ ω => match ρ[i]? with
  | some (some (.val d)) => some (.val d, ρ, ω)
  | some (some (.own _)) => some (.brw i, ρ, ω)
  | some (some (.lck _)) => some (.brw i, ρ, ω)
  | some (some .src) => some (.src, ρ, ω)
  | _ => none
def dC (d : PyData) : M RC := ret (.val d)
section
variable {X : Cx} {pos : Pos}
theorem lift_var {i : Nat} {σ : St} {H : Hp} {Q : VK} (h : liftE (dVar i) σ H Q) : tVar i σ H Q := by
  obtain ⟨C, G, ρ, R, T, k⟩ := h
  obtain ⟨r, e⟩ := T (fun _ => 0)
  cases q : ρ[i]? with
  | none => simp only [dVar, q] at e; cases e
  | some o =>
    cases o with
    | none => simp only [dVar, q] at e; cases e
    | some c =>
      obtain ⟨v, hv, s⟩ := R.slot i c q
      refine ⟨v, hv, ?_⟩
      cases c with
      | val d => exact k (.val d) ρ G v H (fun ω => ⟨ω, by simp only [dVar, q]⟩) (.refl R) s trivial
      | own d => exact k (.brw i) ρ G v H (fun ω => ⟨ω, by simp only [dVar, q]⟩) (.refl R) ⟨hv, _, q, rfl⟩ trivial
      | lck d => exact k (.brw i) ρ G v H (fun ω => ⟨ω, by simp only [dVar, q]⟩) (.refl R) ⟨hv, _, q, rfl⟩ trivial
      | src => exact k .src ρ G v H (fun ω => ⟨ω, by simp only [dVar, q]⟩) (.refl R) s trivial
theorem de_var (i : Nat) {x : Str} (hN : X.N[i]? = some x := by rfl) (hv : Vis X.env.scope x := by first | exact Or.inl rfl | exact Or.inr (Or.inl rfl) | exact Or.inr (Or.inr rfl)) (hd : (x == ("__debug__" : Str)) = false := by decide)
    (hcd : (x == ("__classdict__" : Str)) = false := by decide) : PE X (.Name x pos) (liftE (dVar i)) := pe_mono (pe_var hN hv hd hcd) fun _ _ _ h => lift_var h
theorem lift_C {d : PyData} {v : V} (r : ∀ F H, Rep F H v d) {σ : St} {H : Hp} {Q : VK} (h : liftE (dC d) σ H Q) : tC v σ H Q := by
  obtain ⟨C, G, ρ, R, T, k⟩ := h
  exact k _ ρ G v H Can.ret (.refl R) (r _ _) trivial
theorem de_int {i : Int} {j : Nat} : PE X (.Constant (.int i) j pos) (liftE (dC (.int i))) := pe_mono pe_int fun _ _ _ h => lift_C (fun _ _ => .int i) h
theorem de_bl {b : Bool} {j : Nat} : PE X (.Constant (.bool b) j pos) (liftE (dC (.bool b))) := pe_mono pe_bl fun _ _ _ h => lift_C (fun _ _ => .bl b) h
theorem de_non {j : Nat} : PE X (.Constant .none j pos) (liftE (dC .none)) := pe_mono pe_non fun _ _ _ h => lift_C (fun _ _ => .non) h
theorem de_str {x : Str} {j : Nat} : PE X (.Constant (.str x) j pos) (liftE (dC (.str x))) := pe_mono pe_str fun _ _ _ h => lift_C (fun _ _ => .str x) h
/-- a module's constant -/
theorem de_gint {x : Str} {i : Int} {t : Tok} (hg : Gl X x) (hm : X.mg x = some (.int i t)) (hd : (x == ("__debug__" : Str)) = false := by decide) : PE X (.Name x pos) (liftE (dC (.int i))) := pe_mono (pe_glob (v := .int i) hg hm ⟨t, rfl⟩ hd) fun _ _ _ h => lift_C (fun _ _ => .int i) h
end

/-! ### operators -/
def dOp (g : PyData → PyData → Option RC) (fa fb : M RC) : M RC := bnd fa fun x => bnd fb fun y => bnd (now x) fun dx => bnd (now y) fun dy => opt (g dx dy)
def dUn (g : PyData → Option RC) (fa : M RC) : M RC := bnd fa fun x => bnd (now x) fun dx => opt (g dx)
def OpD (r : R2) (g : PyData → PyData → Option RC) : Prop := ∀ (F : Addr → Prop) (H : Hp) (x y : V) (dx dy : PyData) (c : RC) (Q : VK), Top F H x dx → Top F H y dy → g dx dy = some c → (∀ v H', Step F H v H' c → Q v H') → r x y H Q
def UnD (r : V → Hp → VK → Prop) (g : PyData → Option RC) : Prop := ∀ (F : Addr → Prop) (H : Hp) (x : V) (dx : PyData) (c : RC) (Q : VK), Top F H x dx → g dx = some c → (∀ v H', Step F H v H' c → Q v H') → r x H Q
section
variable {X : Cx} {pos : Pos} {a b : Expr} {fa fb : M RC} {σ : St} {H : Hp} {Q : VK}
theorem lift_op {r : R2} {g : PyData → PyData → Option RC} (hg : OpD r g) (h : liftE (dOp g fa fb) σ H Q) : tOp r (liftE fa) (liftE fb) σ H Q := by
  obtain ⟨C, G, ρ, R, T, k⟩ := h
  refine ⟨C, G, ρ, R, T.fst, fun c1 ρ1 G1 x H1 cn1 A1 p1 n1 => ?_⟩
  have T1 := T.snd cn1
  refine ⟨C, G1, ρ1, A1.rs, T1.fst, fun c2 ρ2 G2 y H2 cn2 A2 p2 n2 => ?_⟩
  have T2 := T1.snd cn2
  have p1' := A2.pend A1.rs p1
  obtain ⟨dx, ex⟩ := T2.fst.now
  have T3 := T2.snd (Can.now ex)
  obtain ⟨dy, ey⟩ := T3.fst.now
  have T4 := T3.snd (Can.now ey)
  obtain ⟨c, ec⟩ := T4.opt
  refine hg _ H2 x y dx dy c Q (p1'.top A2.rs ex) (p2.top A2.rs ey) ec fun v H3 s => ?_
  obtain ⟨G3, A3, p3, n3⟩ := s.aft A2.rs
  have A := (A1.trans A2).trans A3
  exact k c ρ2 G3 v H3 (cn1.bnd (cn2.bnd ((Can.now ex).bnd ((Can.now ey).bnd (by rw [ec]; exact Can.opt))))) A p3 (n3.back (A1.trans A2).fr.there)
theorem de_op {op : Operator} {r : R2} {g : PyData → PyData → Option RC} (ho : OpR X (binaryOp op) r) (hg : OpD r g) (ha : PE X a (liftE fa)) (hb : PE X b (liftE fb)) : PE X (.BinOp a op b pos) (liftE (dOp g fa fb)) := pe_mono (pe_op ho ha hb) fun _ _ _ h => lift_op hg h
theorem de_cmp {op : CmpOp} {r : R2} {g : PyData → PyData → Option RC} (ho : OpR X (compareOp op) r) (hg : OpD r g) (ha : PE X a (liftE fa)) (hb : PE X b (liftE fb)) (hm : behindInMarks op b = false) : PE X (.Compare a [op] [b] pos) (liftE (dOp g fa fb)) :=
  pe_mono (pe_cmpR ho ha hb hm) fun _ _ _ h => lift_op hg h
theorem lift_un {r : V → Hp → VK → Prop} {g : PyData → Option RC} (hg : UnD r g) (h : liftE (dUn g fa) σ H Q) : tUn r (liftE fa) σ H Q := by
  obtain ⟨C, G, ρ, R, T, k⟩ := h
  refine ⟨C, G, ρ, R, T.fst, fun c1 ρ1 G1 x H1 cn1 A1 p1 n1 => ?_⟩
  have T2 := T.snd cn1
  obtain ⟨dx, ex⟩ := T2.fst.now
  have T3 := T2.snd (Can.now ex)
  obtain ⟨c, ec⟩ := T3.opt
  refine hg _ H1 x dx c Q (p1.top A1.rs ex) ec fun v H3 s => ?_
  obtain ⟨G3, A3, p3, n3⟩ := s.aft A1.rs
  exact k c ρ1 G3 v H3 (cn1.bnd ((Can.now ex).bnd (by rw [ec]; exact Can.opt))) (A1.trans A3) p3 (n3.back A1.fr.there)
theorem de_un {op : UnaryOp} {r : V → Hp → VK → Prop} {g : PyData → Option RC} (ho : UnR X (unaryOp op) r) (hg : UnD r g) (ha : PE X a (liftE fa)) : PE X (.UnaryOp op a pos) (liftE (dUn g fa)) := pe_mono (pe_un ho ha) fun _ _ _ h => lift_un hg h
end

/-! ### tests -/
def boolOf : PyData → Option Bool
  | .bool b => some b
  | _ => none
def dBool (f : M RC) : M Bool := bnd f fun c => bnd (now c) fun d => opt (boolOf d)
def dTV (t : M Bool) : M RC := bnd t fun b => ret (.val (.bool b))
def dAnd (t u : M Bool) : M Bool := bnd t fun b => if b then u else ret false
def dOr (t u : M Bool) : M Bool := bnd t fun b => if b then ret true else u
def dNot (t : M Bool) : M Bool := bnd t fun b => ret (!b)
def dIf {α : Type} (t : M Bool) (f g : M α) : M α := bnd t fun b => if b then f else g
section
variable {X : Cx} {pos : Pos} {a b : Expr} {fa fb : M RC} {t u : M Bool} {σ : St} {H : Hp} {Q : VK} {rest : List Expr}
theorem boolOf_some {d : PyData} {k : Bool} (h : boolOf d = some k) : d = .bool k := by cases d <;> simp [boolOf] at h; subst h; rfl
theorem Top.bool {F : Addr → Prop} {H : Hp} {v : V} {k : Bool} (h : Top F H v (.bool k)) : v = .bl k := by cases h; rfl
theorem Top.int' {F : Addr → Prop} {H : Hp} {v : V} {k : Int} (h : Top F H v (.int k)) : v = .int k := by cases h; rfl
theorem Rep.int' {F : Addr → Prop} {H : Hp} {v : V} {k : Int} (h : Rep F H v (.int k)) : v = .int k := by cases h; rfl
theorem lift_bool {Qb : Bool → Hp → Prop} (h : liftT (dBool fa) σ H Qb) : liftE fa σ H fun x H1 => ∃ c, x = .bl c ∧ Qb c H1 := by
  obtain ⟨C, G, ρ, R, T, k⟩ := h
  refine ⟨C, G, ρ, R, T.fst, fun c1 ρ1 G1 x H1 cn1 A1 p1 n1 => ?_⟩
  have T2 := T.snd cn1
  obtain ⟨dx, ex⟩ := T2.fst.now
  have T3 := T2.snd (Can.now ex)
  obtain ⟨c, ec⟩ := T3.opt
  have e := boolOf_some ec
  subst e
  exact ⟨c, (p1.top A1.rs ex).bool, k c ρ1 G1 H1 (cn1.bnd ((Can.now ex).bnd (by rw [ec]; exact Can.opt))) A1⟩
theorem dt_val {e : Expr} (h : PE X e (liftE fa)) (he : ∀ whole, isTrue e X.env whole = (do let v ← whole; standAt e.pos; holding [v] (truthy v)) := by intro _; rfl) : PT X e (liftT (dBool fa)) := pt_mono (pt_val h he) fun _ _ _ h => lift_bool h
theorem dt_cmp {op : CmpOp} {r : R2} {g : PyData → PyData → Option RC} (ho : OpR X (compareOp op) r) (hg : OpD r g) (ha : PE X a (liftE fa)) (hb : PE X b (liftE fb)) (hm : behindInMarks op b = false) : PT X (.Compare a [op] [b] pos) (liftT (dBool (dOp g fa fb))) :=
  pt_mono (pt_cmpR ho ha hb hm) fun _ _ _ h => lift_op hg (lift_bool h)
theorem lift_bndT {f : Bool → M Bool} {Qb : Bool → Hp → Prop} {u : TT} {w : Bool → TT} (h : liftT (bnd t f) σ H Qb) (hw : ∀ b σ H Q, liftT (f b) σ H Q → w b σ H Q) : liftT t σ H fun b H1 => w b σ H1 Qb := by
  obtain ⟨C, G, ρ, R, T, k⟩ := h
  refine ⟨C, G, ρ, R, T.fst, fun c1 ρ1 G1 H1 cn1 A1 => hw c1 σ H1 Qb ⟨C, G1, ρ1, A1.rs, T.snd cn1, fun c2 ρ2 G2 H2 cn2 A2 => k c2 ρ2 G2 H2 (cn1.bnd cn2) (A1.trans A2)⟩⟩
theorem lift_retT {b : Bool} {Qb : Bool → Hp → Prop} (h : liftT (ret b) σ H Qb) : Qb b H := by
  obtain ⟨C, G, ρ, R, T, k⟩ := h
  exact k b ρ G H Can.ret (.refl R)
theorem dt_not (h : PT X a (liftT t)) : PT X (.UnaryOp .Not a pos) (liftT (dNot t)) := pt_mono (pt_not h) fun σ H Q h => lift_bndT (u := fun _ _ _ => True) (w := fun b _ H Q => Q (!b) H) h fun b _ _ _ q => lift_retT q
theorem dw_and1 (h : PT X a (liftT t)) : PW X (.BoolOp .And [a] pos) (liftT t) := pw_and1 h
theorem dw_or1 (h : PT X a (liftT t)) : PW X (.BoolOp .Or [a] pos) (liftT t) := pw_or1 h
theorem dw_and (ha : PT X a (liftT t)) (hb : PW X (.BoolOp .And (b :: rest) pos) (liftT u)) : PW X (.BoolOp .And (a :: b :: rest) pos) (liftT (dAnd t u)) :=
  pw_mono (pw_and ha hb) fun σ H Q h => lift_bndT (u := fun _ _ _ => True) (w := fun c σ H Q => if c = true then liftT u σ H Q else Q false H) h fun c σ H Q q => by
    cases c with
    | true => exact q
    | false => exact lift_retT q
theorem dw_or (ha : PT X a (liftT t)) (hb : PW X (.BoolOp .Or (b :: rest) pos) (liftT u)) : PW X (.BoolOp .Or (a :: b :: rest) pos) (liftT (dOr t u)) :=
  pw_mono (pw_or ha hb) fun σ H Q h => lift_bndT (u := fun _ _ _ => True) (w := fun c σ H Q => if c = true then Q true H else liftT u σ H Q) h fun c σ H Q q => by
    cases c with
    | true => exact lift_retT q
    | false => exact q
theorem lift_ifE {tc : TT} (hc : ∀ σ H Q, liftT t σ H Q → tc σ H Q) (h : liftE (dIf t fa fb) σ H Q) : tIf tc (liftE fa) (liftE fb) σ H Q := by
  obtain ⟨C, G, ρ, R, T, k⟩ := h
  refine hc _ _ _ ⟨C, G, ρ, R, T.fst, fun c1 ρ1 G1 H1 cn1 A1 => ?_⟩
  cases c1 with
  | true => exact ⟨C, G1, ρ1, A1.rs, T.snd cn1, fun c2 ρ2 G2 v H2 cn2 A2 p n => k c2 ρ2 G2 v H2 (cn1.bnd cn2) (A1.trans A2) p (n.back A1.fr.there)⟩
  | false => exact ⟨C, G1, ρ1, A1.rs, T.snd cn1, fun c2 ρ2 G2 v H2 cn2 A2 p n => k c2 ρ2 G2 v H2 (cn1.bnd cn2) (A1.trans A2) p (n.back A1.fr.there)⟩
theorem de_if {c : Expr} (hc : PT X c (liftT t)) (ha : PE X a (liftE fa)) (hb : PE X b (liftE fb)) : PE X (.IfExp c a b pos) (liftE (dIf t fa fb)) := pe_mono (pe_ifExp hc ha hb) fun _ _ _ h => lift_ifE (fun _ _ _ h => h) h
/-- and, or, not as values (of truth values): the last one as it is -/
def dAndV (fa fb : M RC) : M RC := bnd (dBool fa) fun k => if k then fb else ret (.val (.bool false))
def dOrV (fa fb : M RC) : M RC := bnd (dBool fa) fun k => if k then ret (.val (.bool true)) else fb
def dNotV (fa : M RC) : M RC := bnd (dBool fa) fun k => ret (.val (.bool !k))
theorem lift_bndB {f : Bool → M RC} {w : Bool → TE} (h : liftE (bnd (dBool fa) f) σ H Q) (hw : ∀ k σ H Q, liftE (f k) σ H Q → w k σ H Q) : liftE fa σ H fun x H1 => ∃ k, x = .bl k ∧ w k σ H1 Q := by
  obtain ⟨C, G, ρ, R, T, k⟩ := h
  refine lift_bool ⟨C, G, ρ, R, T.fst, fun b ρ1 G1 H1 cn1 A1 => hw b σ H1 Q ⟨C, G1, ρ1, A1.rs, T.snd cn1, fun c2 ρ2 G2 v H2 cn2 A2 p n => k c2 ρ2 G2 v H2 (cn1.bnd cn2) (A1.trans A2) p (n.back A1.fr.there)⟩⟩
theorem lift_retE {d : PyData} {v : V} (r : ∀ F H, Rep F H v d) (h : liftE (ret (.val d)) σ H Q) : Q v H := lift_C r h
theorem de_one {op : BoolOp} (h : PE X a (liftE fa)) : PE X (.BoolOp op [a] pos) (liftE fa) := pe_one h
theorem de_and (ha : PE X a (liftE fa)) (hb : PE X (.BoolOp .And (b :: rest) pos) (liftE fb)) : PE X (.BoolOp .And (a :: b :: rest) pos) (liftE (dAndV fa fb)) :=
  pe_mono (pe_and ha hb) fun σ H Q h => lift_bndB (w := fun c σ H Q => if c = true then liftE fb σ H Q else Q (.bl false) H) h fun c σ H Q q => by
    cases c with
    | true => exact q
    | false => exact lift_retE (fun _ _ => .bl _) q
theorem de_or (ha : PE X a (liftE fa)) (hb : PE X (.BoolOp .Or (b :: rest) pos) (liftE fb)) : PE X (.BoolOp .Or (a :: b :: rest) pos) (liftE (dOrV fa fb)) :=
  pe_mono (pe_or ha hb) fun σ H Q h => lift_bndB (w := fun c σ H Q => if c = true then Q (.bl true) H else liftE fb σ H Q) h fun c σ H Q q => by
    cases c with
    | true => exact lift_retE (fun _ _ => .bl _) q
    | false => exact q
theorem de_not (ha : PE X a (liftE fa)) : PE X (.UnaryOp .Not a pos) (liftE (dNotV fa)) :=
  pe_mono (pe_not ha) fun σ H Q h => lift_bndB (w := fun c _ H Q => Q (.bl (!c)) H) h fun c σ H Q q => lift_retE (fun _ _ => .bl _) q
end
end DL
set_option Elab.async false
set_option linter.all false
set_option maxRecDepth 100000
set_option maxHeartbeats 1000000
/-! Part 4: the operators by data. -/
namespace DL
open PySem PySem.Spec L2
variable [Fam]

section
variable {F : Addr → Prop} {H : Hp} {v : V} {K : PySem.W.Frag} {ds : List PyData} {c : RC} {Q : VK}
theorem Top.list' (h : Top F H v (.list ds)) : ∃ a xs, v = .ref a ∧ Rd H a (.lst xs) ∧ RepAll F H xs ds := by
  cases h with | lst r k => exact ⟨_, _, rfl, r, k⟩
theorem Top.tuple' (h : Top F H v (.tuple ds)) : ∃ a xs, v = .ref a ∧ Rd H a (.tup xs) ∧ RepAll F H xs ds := by
  cases h with | tup n r k => exact ⟨_, _, rfl, r, k⟩
theorem Top.tupRep (h : Top F H v (.tuple ds)) : Rep F H v (.tuple ds) := by
  cases h with | tup n r k => exact .tup n r k
theorem Top.str' {x : Str} (h : Top F H v (.str x)) : v = .str x := by cases h; rfl
theorem Rep.tuple' (h : Rep F H v (.tuple ds)) : ∃ a xs, v = .ref a ∧ ¬ F a ∧ Rd H a (.tup xs) ∧ RepAll F H xs ds := by
  cases h with | tup n r k => exact ⟨_, _, rfl, n, r, k⟩
/-- a scalar result -/
theorem fin_val {d : PyData} {w : V} (r : Rep F H w d) (k : ∀ v H', Step F H v H' (.val d) → Q v H') : Q w H := k w H (.inl ⟨rfl, r⟩)
theorem fin_lst {xs : List V} (r : RepAll F H xs ds) (k : ∀ v H', Step F H v H' (.own (.list ds)) → Q v H') : ∀ p, H p = none → Q (.ref p) (upd H p (.lst xs)) :=
  fun p hp => k _ _ ⟨p, .lst xs, hp, rfl, rfl, r⟩
theorem fin_tup {xs : List V} (r : RepAll F H xs ds) (k : ∀ v H', Step F H v H' (.val (.tuple ds)) → Q v H') : ∀ p, H p = none → Q (.ref p) (upd H p (.tup xs)) :=
  fun p hp => k _ _ (.inr ⟨p, xs, ds, hp, rfl, rfl, r, rfl⟩)
end

/-- room for calls, and nothing is being shown -/
structure Rm (k : Nat) (A : Around) : Prop where
  room : Room k A
  gd : A.guards = some []
theorem Rm.mono {j k : Nat} {A : Around} (r : Rm k A) (h : j ≤ k) : Rm j A := ⟨r.room.mono h, r.gd⟩
theorem Rm.deeper {k : Nat} {A : Around} (r : Rm (k + 1) A) (env : Env) : Rm k (A.deeper env) := ⟨r.room.deeper env, r.gd⟩

/-! ### ints -/
def gI (p : Int → Int → Bool) (f : Int → Int → PyData) : PyData → PyData → Option RC
  | .int i, .int j => if p i j then some (.val (f i j)) else none
  | _, _ => none
theorem opd_int {C : Int → Int → Prop} {p : Int → Int → Bool} {g : Int → Int → V} {f : Int → Int → PyData} (hp : ∀ i j, p i j = true → C i j) (hr : ∀ (F : Addr → Prop) (H : Hp) i j, Rep F H (g i j) (f i j)) : OpD (rI C g) (gI p f) := by
  intro F H x y dx dy c Q hx hy e k
  cases dx <;> cases dy <;> simp only [gI] at e <;> try cases e
  rename_i i j
  split at e
  · rename_i hpj
    cases e
    cases hx; cases hy
    exact ⟨i, j, rfl, rfl, hp i j hpj, fin_val (hr _ _ i j) k⟩
  · cases e
def gI0 (f : Int → Int → PyData) : PyData → PyData → Option RC
  | .int i, .int j => some (.val (f i j))
  | _, _ => none
theorem opd_int0 {g : Int → Int → V} {f : Int → Int → PyData} (hr : ∀ (F : Addr → Prop) (H : Hp) i j, Rep F H (g i j) (f i j)) : OpD (rI0 g) (gI0 f) := by
  intro F H x y dx dy c Q hx hy e k
  cases dx <;> cases dy <;> simp only [gI0] at e <;> try cases e
  rename_i i j
  cases hx; cases hy
  exact ⟨i, j, rfl, rfl, fin_val (hr _ _ i j) k⟩
def gUI (f : Int → PyData) : PyData → Option RC
  | .int i => some (.val (f i))
  | _ => none
theorem und_int {g : Int → V} {f : Int → PyData} (hr : ∀ (F : Addr → Prop) (H : Hp) i, Rep F H (g i) (f i)) : UnD (rU g) (gUI f) := by
  intro F H x dx c Q hx e k
  cases dx <;> simp only [gUI] at e <;> try cases e
  rename_i i
  cases hx
  exact ⟨i, rfl, fin_val (hr _ _ i) k⟩
def mulOk (i j : Int) : Bool := (decide (i.natAbs < 2 ^ 64) || decide (j.natAbs < 2 ^ 64)) || decide (i.natAbs.log2 + j.natAbs.log2 < 1000000)
def shOk (i j : Int) : Bool := decide (0 ≤ j) && decide (j ≤ 1000000) && decide (i.natAbs < 2 ^ 64)
def divOk (_ j : Int) : Bool := decide (0 < j) && decide (j.natAbs.log2 < 9000)
section
variable {X : Cx} {pos : Pos} {a b : Expr} {fa fb : M RC}
theorem op_mulA : OpR X (binaryOp .Mult) (rI (fun i j => mulOk i j = true) fun i j => .int (i * j)) := opI fun i j _ _ _ _ _ hc q => by
  refine PyProof.Rows.mul_int q ?_
  unfold mulOk at hc
  rw [Bool.or_eq_true, Bool.or_eq_true] at hc
  rcases hc with (h | h) | h
  · have := of_decide_eq_true h
    exact CMul.ok (.inl ⟨by omega, by omega⟩)
  · have := of_decide_eq_true h
    exact CMul.ok (.inr ⟨by omega, by omega⟩)
  · have h' := of_decide_eq_true h
    exact CMulW.ok h'
def dSub := dOp (gI0 fun i j => .int (i - j))
def dDiv := dOp (gI divOk fun i j => .int (i / j))
def dMod := dOp (gI (fun _ j => decide (0 < j)) fun i j => .int (i % j))
def dPow := dOp (gI shOk fun i j => .int (i ^ j.toNat))
def dShl := dOp (gI shOk fun i j => .int (i * 2 ^ j.toNat))
def dShr := dOp (gI (fun _ j => decide (0 ≤ j)) fun i j => .int (i / 2 ^ j.toNat))
def dBand := dOp (gI0 fun i j => .int (Builtin.bitAnd i j))
def dBor := dOp (gI0 fun i j => .int (Builtin.bitOr i j))
def dBxor := dOp (gI0 fun i j => .int (Builtin.bitXor i j))
def dNeg := dUn (gUI fun i => .int (-i))
def dInv := dUn (gUI fun i => .int (Builtin.bitNot i))
theorem de_sub (ha : PE X a (liftE fa)) (hb : PE X b (liftE fb)) : PE X (.BinOp a .Sub b pos) (liftE (dSub fa fb)) := de_op op_sub (opd_int0 fun _ _ _ _ => .int _) ha hb
theorem de_div (ha : PE X a (liftE fa)) (hb : PE X b (liftE fb)) : PE X (.BinOp a .FloorDiv b pos) (liftE (dDiv fa fb)) := de_op op_fdivW (opd_int (fun i j h => by
  unfold divOk at h; rw [Bool.and_eq_true] at h; exact ⟨of_decide_eq_true h.1, of_decide_eq_true h.2⟩) fun _ _ _ _ => .int _) ha hb
theorem de_mod (ha : PE X a (liftE fa)) (hb : PE X b (liftE fb)) : PE X (.BinOp a .Mod b pos) (liftE (dMod fa fb)) := de_op op_mod (opd_int (fun _ _ h => of_decide_eq_true h) fun _ _ _ _ => .int _) ha hb
theorem sh_ok {i j : Int} (h : shOk i j = true) : CPow i j := by
  unfold shOk at h; rw [Bool.and_eq_true, Bool.and_eq_true] at h; exact ⟨of_decide_eq_true h.1.1, of_decide_eq_true h.1.2, of_decide_eq_true h.2⟩
theorem de_pow (ha : PE X a (liftE fa)) (hb : PE X b (liftE fb)) : PE X (.BinOp a .Pow b pos) (liftE (dPow fa fb)) := de_op op_pow (opd_int (fun _ _ h => sh_ok h) fun _ _ _ _ => .int _) ha hb
theorem de_shl (ha : PE X a (liftE fa)) (hb : PE X b (liftE fb)) : PE X (.BinOp a .LShift b pos) (liftE (dShl fa fb)) := de_op op_shl (opd_int (fun _ _ h => sh_ok h) fun _ _ _ _ => .int _) ha hb
theorem de_shr (ha : PE X a (liftE fa)) (hb : PE X b (liftE fb)) : PE X (.BinOp a .RShift b pos) (liftE (dShr fa fb)) := de_op op_shr (opd_int (fun _ _ h => of_decide_eq_true h) fun _ _ _ _ => .int _) ha hb
theorem de_band (ha : PE X a (liftE fa)) (hb : PE X b (liftE fb)) : PE X (.BinOp a .BitAnd b pos) (liftE (dBand fa fb)) := de_op op_and (opd_int0 fun _ _ _ _ => .int _) ha hb
theorem de_bor (ha : PE X a (liftE fa)) (hb : PE X b (liftE fb)) : PE X (.BinOp a .BitOr b pos) (liftE (dBor fa fb)) := de_op op_or (opd_int0 fun _ _ _ _ => .int _) ha hb
theorem de_bxor (ha : PE X a (liftE fa)) (hb : PE X b (liftE fb)) : PE X (.BinOp a .BitXor b pos) (liftE (dBxor fa fb)) := de_op op_xor (opd_int0 fun _ _ _ _ => .int _) ha hb
theorem de_neg (ha : PE X a (liftE fa)) : PE X (.UnaryOp .USub a pos) (liftE (dNeg fa)) := de_un un_neg (und_int fun _ _ _ => .int _) ha
theorem de_inv (ha : PE X a (liftE fa)) : PE X (.UnaryOp .Invert a pos) (liftE (dInv fa)) := de_un un_inv (und_int fun _ _ _ => .int _) ha

/-! ### plus: ints, texts, lists, tuples; a list some times -/
def lenOk (n : Nat) : Bool := Nat.ble n 16777216
theorem lenOk_le {n : Nat} (h : lenOk n = true) : n ≤ sizeLine := Nat.le_of_ble_eq_true h
def gAdd : PyData → PyData → Option RC
  | .int i, .int j => some (.val (.int (i + j)))
  | .str x, .str y => if lenOk (x.length + y.length) then some (.val (.str (x ++ y))) else none
  | .list xs, .list ys => if lenOk (xs.length + ys.length) then some (.own (.list (xs ++ ys))) else none
  | .tuple xs, .tuple ys => if lenOk (xs.length + ys.length) then some (.val (.tuple (xs ++ ys))) else none
  | _, _ => none
/-- list + list, whatever may be read -/
def rCatL (K : PySem.W.Frag) : R2 := fun x y H Q => ∃ l b xs zs, x = .ref l ∧ y = .ref b ∧ Rd H l (.lst xs) ∧ Rd H b (.lst zs) ∧ xs.length + zs.length ≤ sizeLine ∧ ∀ p, H p = none → Q (.ref p) (upd H p (.lst (xs ++ zs)))
theorem lst_rd {pins : List (Addr × Obj)} {σ : L2.St} {H : Hp} {s : Shared} {l : Addr} {xs : List V} (I : Inv X pins σ H s) (h : Rd H l (.lst xs)) : xs.length ≤ sizeLine ∧ ∃ (its : List Value) (n : Nat), Vals xs its ∧ xs.length = its.length ∧ s.heap.get? l = some { cls := .type "list", data := .seq its.toArray n } := by
  obtain ⟨z, its, n, r, e⟩ := h.ok I.hok
  exact ⟨z, its, n, r, r.length, e⟩
theorem op_catL : OpR X (binaryOp .Add) (rCatL X.K) := by
  intro pins s σ H x y v u Q I rx ry h
  obtain ⟨l, b, xs, zs, rfl, rfl, hH, hB, hz, q⟩ := h
  cases rx
  cases ry
  obtain ⟨z, its, n, r, hl, e⟩ := lst_rd I hH
  obtain ⟨z2, its2, n2, r2, hl2, e2⟩ := lst_rd I hB
  refine PySem.P.add_list e e2 ?_ (by rw [List.size_toArray, List.size_toArray]; omega)
  have ea : its.toArray ++ its2.toArray = (its ++ its2).toArray := by simp
  rw [ea]
  exact ⟨.ref _, _, I.lnew (t' := s.toks) (r.append r2) (by rw [List.length_append]; omega), rfl, q _ I.fresh⟩
theorem opd_add : OpD (fun x y H Q => rI0 (fun i j => .int (i + j)) x y H Q ∨ (∃ i j, x = .str i ∧ y = .str j ∧ i.length + j.length ≤ sizeLine ∧ Q (.str (i ++ j)) H) ∨ rCatL X.K x y H Q ∨ rCatA X.K x y H Q) gAdd := by
  intro F H x y dx dy c Q hx hy e k
  cases dx <;> cases dy <;> simp only [gAdd] at e <;> try cases e
  · cases hx; cases hy
    exact .inl ⟨_, _, rfl, rfl, fin_val (.int _) k⟩
  · split at e
    · rename_i hl
      cases e; cases hx; cases hy
      exact .inr (.inl ⟨_, _, rfl, rfl, lenOk_le hl, fin_val (.str _) k⟩)
    · cases e
  · split at e
    · rename_i hl
      cases e
      obtain ⟨a, xs, rfl, r1, k1⟩ := hx.list'
      obtain ⟨b, ys, rfl, r2, k2⟩ := hy.list'
      exact .inr (.inr (.inl ⟨a, b, xs, ys, rfl, rfl, r1, r2, by rw [k1.length, k2.length]; exact lenOk_le hl, fin_lst (k1.append k2) k⟩))
    · cases e
  · rename_i d1 d2
    split at e
    · rename_i hl
      cases e
      obtain ⟨a, xs, rfl, r1, k1⟩ := hx.tuple'
      obtain ⟨b, ys, rfl, r2, k2⟩ := hy.tuple'
      refine .inr (.inr (.inr ⟨a, b, xs, ys, rfl, rfl, .inl r1, .inl r2, by rw [k1.length, k2.length]; exact lenOk_le hl, fun h0 => ?_, fun _ h0 => ?_, fun _ _ => fin_tup (k1.append k2) k⟩))
      · subst h0
        cases k1
        exact fin_val hy.tupRep k
      · subst h0
        cases k2
        exact fin_val (by simpa using hx.tupRep) k
    · cases e
def dAdd := dOp gAdd
theorem de_add (ha : PE X a (liftE fa)) (hb : PE X b (liftE fb)) : PE X (.BinOp a .Add b pos) (liftE (dAdd fa fb)) := de_op (op_add.or (op_add_str.or (op_catL.or op_catA))) (opd_add (X := X)) ha hb
theorem RepAll.rep {F : Addr → Prop} {H : Hp} {vs : List V} {ds : List PyData} (h : RepAll F H vs ds) : ∀ k : Nat, RepAll F H (List.replicate k vs).flatten (List.replicate k ds).flatten
  | 0 => .nil
  | k + 1 => by
    simp only [List.replicate_succ, List.flatten_cons]
    exact h.append (RepAll.rep h k)
/-- a list that is owned or made here, some times -/
def gMul : PyData → PyData → Option RC
  | .int i, .int j => if mulOk i j then some (.val (.int (i * j))) else none
  | _, _ => none
def dMul := dOp gMul
theorem opd_mul : OpD (rI (fun i j => mulOk i j = true) fun i j => .int (i * j)) gMul := by
  intro F H x y dx dy c Q hx hy e k
  cases dx <;> cases dy <;> simp only [gMul] at e <;> try cases e
  rename_i i j
  split at e
  · rename_i hpj
    cases e; cases hx; cases hy
    exact ⟨i, j, rfl, rfl, hpj, fin_val (.int _) k⟩
  · cases e
theorem de_mul (ha : PE X a (liftE fa)) (hb : PE X b (liftE fb)) : PE X (.BinOp a .Mult b pos) (liftE (dMul fa fb)) := de_op op_mulA opd_mul ha hb

/-! ### comparisons -/
def eqOk (d e : PyData) : Bool := SeqAt.shaped d && SeqAt.shaped e
def gEq (d e : PyData) : Option RC := if eqOk d e then some (.val (.bool (PyData.eqv d e))) else none
def gNe (d e : PyData) : Option RC := if eqOk d e then some (.val (.bool (!PyData.eqv d e))) else none
theorem shaped_noDict {d : PyData} (h : SeqAt.shaped d = true) : d.hasDict = false := PyData.hasDict_of_canLay d (SeqAt.canLay_of_shaped h)
theorem opd_eq {K : PySem.W.Frag} : OpD (rEqD K) gEq := by
  intro F H x y dx dy c Q hx hy e k
  unfold gEq at e
  split at e
  · rename_i h
    cases e
    unfold eqOk at h
    rw [Bool.and_eq_true] at h
    exact ⟨dx, dy, hx.dp (shaped_noDict h.1), hy.dp (shaped_noDict h.2), h.1, h.2, fin_val (.bl _) k⟩
  · cases e
theorem opd_ne {K : PySem.W.Frag} : OpD (rNeD K) gNe := by
  intro F H x y dx dy c Q hx hy e k
  unfold gNe at e
  split at e
  · rename_i h
    cases e
    unfold eqOk at h
    rw [Bool.and_eq_true] at h
    exact ⟨dx, dy, hx.dp (shaped_noDict h.1), hy.dp (shaped_noDict h.2), h.1, h.2, fin_val (.bl _) k⟩
  · cases e
def isN : PyData → Bool
  | .none => true
  | _ => false
def gIs (d e : PyData) : Option RC := match e with
  | .none => some (.val (.bool (isN d)))
  | _ => none
def gIsNot (d e : PyData) : Option RC := match e with
  | .none => some (.val (.bool !isN d))
  | _ => none
theorem opd_is : OpD (fun x y H Q => y = .non ∧ Q (.bl (decide (x = .non))) H) gIs := by
  intro F H x y dx dy c Q hx hy e k
  cases dy <;> simp only [gIs] at e <;> try cases e
  cases hy
  refine ⟨rfl, fin_val ?_ k⟩
  cases hx <;> exact .bl _
theorem opd_isNot : OpD (fun x y H Q => y = .non ∧ Q (.bl (!decide (x = .non))) H) gIsNot := by
  intro F H x y dx dy c Q hx hy e k
  cases dy <;> simp only [gIsNot] at e <;> try cases e
  cases hy
  refine ⟨rfl, fin_val ?_ k⟩
  cases hx <;> exact .bl _
/-- x in a list, a tuple of any data; a text in a text -/
def inOk (d : PyData) (ds : List PyData) : Bool := SeqAt.shaped d && PyData.canLayAll0 ds
def gIn (neg : Bool) : PyData → PyData → Option RC
  | d, .list ds => if inOk d ds then some (.val (.bool (neg != ds.any fun z => PyData.eqv z d))) else none
  | d, .tuple ds => if inOk d ds then some (.val (.bool (neg != ds.any fun z => PyData.eqv z d))) else none
  | _, _ => none
def rInA (K : PySem.W.Frag) (neg : Bool) : R2 := fun x y H Q => ∃ d ds, Dp K H x d ∧ (Dp K H y (.list ds) ∨ Dp K H y (.tuple ds)) ∧ inOk d ds = true ∧ Q (.bl (neg != ds.any fun z => PyData.eqv z d)) H
theorem in_room {A : Around} {d : PyData} {n : Nat} (h : SeqAt.shaped d = true) (hu : A.units + 65 < cLine) : A.units + 1 + min n d.depth < cLine := by
  have h1 := SeqAt.depth_of_shaped h
  have h2 : min n d.depth ≤ d.depth := Nat.min_le_right _ _
  omega
theorem op_inA (hu : X.A.units + 65 < cLine) : OpR X (compareOp .In) (rInA X.K false) := by
  intro pins s σ H x y v u Q I rx ry h
  obtain ⟨d, ds, hd, he, ok, q⟩ := h
  unfold inOk at ok
  rw [Bool.and_eq_true] at ok
  obtain ⟨as, r1⟩ := Dp.reads I d x v hd rx
  rw [Bool.false_bne] at q
  rcases he with he | he <;> obtain ⟨bs, r2⟩ := Dp.reads I _ y u he ry
  · exact SeqAt.in_list_reads r2 r1 ok.2 (SeqAt.canLay_of_shaped ok.1) (in_room ok.1 hu) ⟨.bl _, H, I, rfl, q⟩
  · exact SeqAt.in_tuple_reads r2 r1 ok.2 (SeqAt.canLay_of_shaped ok.1) (in_room ok.1 hu) ⟨.bl _, H, I, rfl, q⟩
theorem op_notInA (hu : X.A.units + 65 < cLine) : OpR X (compareOp .NotIn) (rInA X.K true) := by
  intro pins s σ H x y v u Q I rx ry h
  obtain ⟨d, ds, hd, he, ok, q⟩ := h
  unfold inOk at ok
  rw [Bool.and_eq_true] at ok
  obtain ⟨as, r1⟩ := Dp.reads I d x v hd rx
  rw [Bool.true_bne] at q
  rcases he with he | he <;> obtain ⟨bs, r2⟩ := Dp.reads I _ y u he ry
  · exact SeqAt.notIn_list_reads r2 r1 ok.2 (SeqAt.canLay_of_shaped ok.1) (in_room ok.1 hu) ⟨.bl _, H, I, rfl, q⟩
  · exact SeqAt.notIn_tuple_reads r2 r1 ok.2 (SeqAt.canLay_of_shaped ok.1) (in_room ok.1 hu) ⟨.bl _, H, I, rfl, q⟩
theorem noDict_all {ds : List PyData} (h : PyData.canLayAll0 ds = true) : PyData.hasDictAll ds = false := PyData.hasDictAll_of_canLayAll ds h
theorem opd_in {K : PySem.W.Frag} {neg : Bool} : OpD (rInA K neg) (gIn neg) := by
  intro F H x y dx dy c Q hx hy e k
  cases dy <;> simp only [gIn] at e <;> try cases e
  all_goals
    rename_i ds
    split at e
    · rename_i h
      cases e
      have h' := h
      unfold inOk at h'
      rw [Bool.and_eq_true] at h'
      refine ⟨dx, ds, hx.dp (shaped_noDict h'.1), ?_, h, fin_val (.bl _) k⟩
      first
        | exact .inl (hy.dp (by simp only [PyData.hasDict]; exact noDict_all h'.2))
        | exact .inr (hy.dp (by simp only [PyData.hasDict]; exact noDict_all h'.2))
    · cases e
variable {k : Nat}
theorem un65 {A : Around} (hr : Room k A) : A.units + 65 < cLine := by have := hr.un; omega
def dEq := dOp gEq
def dNe := dOp gNe
def dIs := dOp gIs
def dIsNot := dOp gIsNot
def dIn := dOp (gIn false)
def dNotIn := dOp (gIn true)
theorem de_eq (hr : Rm k X.A) (ha : PE X a (liftE fa)) (hb : PE X b (liftE fb)) : PE X (.Compare a [.Eq] [b] pos) (liftE (dEq fa fb)) := de_cmp (op_eqD hr.room.units) opd_eq ha hb (nomark _)
theorem dt_eq (hr : Rm k X.A) (ha : PE X a (liftE fa)) (hb : PE X b (liftE fb)) : PT X (.Compare a [.Eq] [b] pos) (liftT (dBool (dEq fa fb))) := dt_cmp (op_eqD hr.room.units) opd_eq ha hb (nomark _)
theorem de_ne (hr : Rm k X.A) (ha : PE X a (liftE fa)) (hb : PE X b (liftE fb)) : PE X (.Compare a [.NotEq] [b] pos) (liftE (dNe fa fb)) := de_cmp (op_neD hr.room.units) opd_ne ha hb (nomark _)
theorem dt_ne (hr : Rm k X.A) (ha : PE X a (liftE fa)) (hb : PE X b (liftE fb)) : PT X (.Compare a [.NotEq] [b] pos) (liftT (dBool (dNe fa fb))) := dt_cmp (op_neD hr.room.units) opd_ne ha hb (nomark _)
theorem de_is (ha : PE X a (liftE fa)) (hb : PE X b (liftE fb)) : PE X (.Compare a [.Is] [b] pos) (liftE (dIs fa fb)) := de_cmp op_isN opd_is ha hb (nomark _)
theorem dt_is (ha : PE X a (liftE fa)) (hb : PE X b (liftE fb)) : PT X (.Compare a [.Is] [b] pos) (liftT (dBool (dIs fa fb))) := dt_cmp op_isN opd_is ha hb (nomark _)
theorem de_isNot (ha : PE X a (liftE fa)) (hb : PE X b (liftE fb)) : PE X (.Compare a [.IsNot] [b] pos) (liftE (dIsNot fa fb)) := de_cmp op_notN opd_isNot ha hb (nomark _)
theorem dt_isNot (ha : PE X a (liftE fa)) (hb : PE X b (liftE fb)) : PT X (.Compare a [.IsNot] [b] pos) (liftT (dBool (dIsNot fa fb))) := dt_cmp op_notN opd_isNot ha hb (nomark _)
theorem de_in (hr : Rm k X.A) (ha : PE X a (liftE fa)) (hb : PE X b (liftE fb)) (hm : behindInMarks .In b = false := by rfl) : PE X (.Compare a [.In] [b] pos) (liftE (dIn fa fb)) := de_cmp (op_inA (un65 hr.room)) opd_in ha hb hm
theorem dt_in (hr : Rm k X.A) (ha : PE X a (liftE fa)) (hb : PE X b (liftE fb)) (hm : behindInMarks .In b = false := by rfl) : PT X (.Compare a [.In] [b] pos) (liftT (dBool (dIn fa fb))) := dt_cmp (op_inA (un65 hr.room)) opd_in ha hb hm
theorem de_notIn (hr : Rm k X.A) (ha : PE X a (liftE fa)) (hb : PE X b (liftE fb)) (hm : behindInMarks .NotIn b = false := by rfl) : PE X (.Compare a [.NotIn] [b] pos) (liftE (dNotIn fa fb)) := de_cmp (op_notInA (un65 hr.room)) opd_in ha hb hm
theorem dt_notIn (hr : Rm k X.A) (ha : PE X a (liftE fa)) (hb : PE X b (liftE fb)) (hm : behindInMarks .NotIn b = false := by rfl) : PT X (.Compare a [.NotIn] [b] pos) (liftT (dBool (dNotIn fa fb))) := dt_cmp (op_notInA (un65 hr.room)) opd_in ha hb hm
def dLt := dOp (gI0 fun i j => .bool (decide (i < j)))
def dLe := dOp (gI0 fun i j => .bool (decide (i ≤ j)))
def dGt := dOp (gI0 fun i j => .bool (decide (j < i)))
def dGe := dOp (gI0 fun i j => .bool (decide (j ≤ i)))
theorem de_lt (ha : PE X a (liftE fa)) (hb : PE X b (liftE fb)) : PE X (.Compare a [.Lt] [b] pos) (liftE (dLt fa fb)) := de_cmp op_lt (opd_int0 fun _ _ _ _ => .bl _) ha hb (nomark _)
theorem dt_lt (ha : PE X a (liftE fa)) (hb : PE X b (liftE fb)) : PT X (.Compare a [.Lt] [b] pos) (liftT (dBool (dLt fa fb))) := dt_cmp op_lt (opd_int0 fun _ _ _ _ => .bl _) ha hb (nomark _)
theorem de_le (ha : PE X a (liftE fa)) (hb : PE X b (liftE fb)) : PE X (.Compare a [.LtE] [b] pos) (liftE (dLe fa fb)) := de_cmp op_le (opd_int0 fun _ _ _ _ => .bl _) ha hb (nomark _)
theorem dt_le (ha : PE X a (liftE fa)) (hb : PE X b (liftE fb)) : PT X (.Compare a [.LtE] [b] pos) (liftT (dBool (dLe fa fb))) := dt_cmp op_le (opd_int0 fun _ _ _ _ => .bl _) ha hb (nomark _)
theorem de_gt (ha : PE X a (liftE fa)) (hb : PE X b (liftE fb)) : PE X (.Compare a [.Gt] [b] pos) (liftE (dGt fa fb)) := de_cmp op_gt (opd_int0 fun _ _ _ _ => .bl _) ha hb (nomark _)
theorem dt_gt (ha : PE X a (liftE fa)) (hb : PE X b (liftE fb)) : PT X (.Compare a [.Gt] [b] pos) (liftT (dBool (dGt fa fb))) := dt_cmp op_gt (opd_int0 fun _ _ _ _ => .bl _) ha hb (nomark _)
theorem de_ge (ha : PE X a (liftE fa)) (hb : PE X b (liftE fb)) : PE X (.Compare a [.GtE] [b] pos) (liftE (dGe fa fb)) := de_cmp op_ge (opd_int0 fun _ _ _ _ => .bl _) ha hb (nomark _)
theorem dt_ge (ha : PE X a (liftE fa)) (hb : PE X b (liftE fb)) : PT X (.Compare a [.GtE] [b] pos) (liftT (dBool (dGe fa fb))) := dt_cmp op_ge (opd_int0 fun _ _ _ _ => .bl _) ha hb (nomark _)
end
end DL
set_option Elab.async false
set_option linter.all false
set_option maxRecDepth 100000
set_option maxHeartbeats 1000000
/-! Part 5: arguments, displays, calls of built-ins, defs and their calls. -/
namespace DL
open PySem PySem.Spec L2
variable [Fam]

/-! ### arguments -/
def dNil : M (List RC) := ret []
def dCons (f : M RC) (g : M (List RC)) : M (List RC) := bnd f fun c => bnd g fun cs => ret (c :: cs)
section
variable {X : Cx} {pos : Pos} {e : Expr} {es : List Expr} {f : M RC} {g : M (List RC)} {σ : L2.St} {H : Hp} {Q : List V → Hp → Prop}
theorem lift_nil (h : liftA dNil σ H Q) : tNil σ H Q := by
  obtain ⟨C, G, ρ, R, T, k⟩ := h
  exact k [] ρ G [] H Can.ret (.refl R) .nil
theorem PendAll.carry {C : Ctx} {G G' : List Addr} {ρ ρ' : Env'} {H H' H0 : Hp} (R : RS C G ρ σ H) (A : Aft C G ρ σ H G' ρ' H') : ∀ {vs : List V} {cs : List RC}, PendAll C G ρ σ H H0 vs cs → PendAll C G' ρ' σ H' H0 vs cs
  | _, _, .nil => .nil
  | _, _, .cons p n t => .cons (A.pend R p) n (PendAll.carry R A t)
theorem lift_cons (h : liftA (dCons f g) σ H Q) : tCons (liftE f) (liftA g) σ H Q := by
  obtain ⟨C, G, ρ, R, T, k⟩ := h
  refine ⟨C, G, ρ, R, T.fst, fun c ρ1 G1 x H1 cn1 A1 p1 n1 => ⟨C, G1, ρ1, A1.rs, (T.snd cn1).fst, fun cs ρ2 G2 xs H2 cn2 A2 p2 => ?_⟩⟩
  exact k (c :: cs) ρ2 G2 (x :: xs) H2 (cn1.bnd (cn2.bnd Can.ret)) (A1.trans A2) (.cons (A2.pend A1.rs p1) n1 (p2.back A1.fr.there))
theorem da_nil : PA X [] (liftA dNil) := pa_mono pa_nil fun _ _ _ h => lift_nil h
theorem da_cons (ha : PE X e (liftE f)) (hr : PA X es (liftA g)) (hs : starEach (e :: es) X.env = (false, eval e X.env) :: starEach es X.env := by rfl) : PA X (e :: es) (liftA (dCons f g)) :=
  pa_mono (pa_cons ha hr hs) fun _ _ _ h => lift_cons h
end

/-! ### results that go on their way: what was made for itself becomes common -/
def esc : RC → Option PyData
  | .val d => some d
  | .own d => some d
  | _ => none
def escs : List RC → Option (List PyData)
  | [] => some []
  | c :: cs => match esc c, escs cs with
    | some d, some ds => some (d :: ds)
    | _, _ => none
section
variable {C : Ctx} {G G' : List Addr} {ρ ρ' : Env'} {σ : L2.St} {H H' : Hp}
theorem PendAll.mem {H0 : Hp} {v : V} : ∀ {vs : List V} {cs : List RC}, PendAll C G ρ σ H H0 vs cs → v ∈ vs → ∃ c ∈ cs, Pend C G ρ σ H v c ∧ New H0 v c
  | _, _, .nil, h => by cases h
  | w :: _, c :: _, .cons p n t, h => by
    rcases List.mem_cons.mp h with rfl | h
    · exact ⟨c, List.mem_cons_self, p, n⟩
    · obtain ⟨c', m, q⟩ := PendAll.mem t h
      exact ⟨c', List.mem_cons_of_mem _ m, q⟩
theorem escs_mem : ∀ {cs : List RC} {ds : List PyData}, escs cs = some ds → ∀ c ∈ cs, esc c ≠ none
  | [], _, _, c, h => by cases h
  | c :: cs, ds, e, c', h => by
    simp only [escs] at e
    split at e
    · rename_i d ds' e1 e2
      rcases List.mem_cons.mp h with rfl | h
      · rw [e1]; simp
      · exact escs_mem e2 c' h
    · cases e
theorem Rep.ref_nf {F : Addr → Prop} {a : Addr} {d : PyData} (r : Rep F H (.ref a) d) : ¬ F a := by
  cases r <;> assumption
/-- all that waits is handed on: the new things among it are nobody's own any more -/
theorem esc_ok (R0 : RS C G ρ σ H) (A : Aft C G ρ σ H G' ρ' H') {vs : List V} {cs : List RC} {ds : List PyData} (p : PendAll C G' ρ' σ H' H vs cs) (e : escs cs = some ds) : ∃ G'', Aft C G ρ σ H G'' ρ' H' ∧ RepAll (Fb C G'') H' vs ds ∧ ∀ b ∈ G'', b ∈ G' := by
  have key : ∀ b, V.ref b ∈ vs → b ∈ G' → ¬ ExSl ρ' σ b ∧ b ∉ G := fun b hb hg => by
    obtain ⟨c, hc, q, n⟩ := p.mem hb
    cases c with
    | val d => exact absurd (Or.inr hg) (Rep.ref_nf q)
    | own d =>
      obtain ⟨a, e1, hG, ns, ok⟩ := q
      obtain ⟨a', e2, hn⟩ := n
      cases e1; cases e2
      exact ⟨ns, fun z => (R0.gs _ z).2.2 hn⟩
    | brw i => exact absurd rfl (escs_mem e _ hc)
    | src => exact absurd rfl (escs_mem e _ hc)
  let G'' := G'.filter fun b => decide (V.ref b ∉ vs)
  have sub : ∀ b ∈ G'', b ∈ G' := fun b hb => (List.mem_filter.mp hb).1
  have inn : ∀ b ∈ G', V.ref b ∉ vs → b ∈ G'' := fun b hb hn => List.mem_filter.mpr ⟨hb, decide_eq_true hn⟩
  have R'' : RS C G'' ρ' σ H' := A.rs.less sub fun b hb => inn b (A.rs.exG hb) fun z => (key b z (A.rs.exG hb)).1 hb
  refine ⟨G'', ⟨R'', A.fr, A.sh, fun b hb => inn b (A.gx.1 b hb) fun z => (key b z (A.gx.1 b hb)).2 hb, fun b hb => A.gx.2 b (sub b hb)⟩, ?_, sub⟩
  have hk : ∀ b o, H' b = some o → ¬ Fb C G' b → ¬ Fb C G'' b ∧ H' b = some o := fun b o h n => ⟨fun z => n (z.imp id (sub b)), h⟩
  have hout : ∀ b, V.ref b ∈ vs → b ∉ G'' := fun b hb hg => (of_decide_eq_true (List.mem_filter.mp hg).2) hb
  clear_value G''
  clear inn key R''
  have all : ∀ v ∈ vs, v ∈ vs := fun _ h => h
  revert ds
  have : ∀ (ws : List V) (cs : List RC) (ds : List PyData), (∀ v ∈ ws, v ∈ vs) → PendAll C G' ρ' σ H' H ws cs → escs cs = some ds → RepAll (Fb C G'') H' ws ds := by
    intro ws
    induction ws with
    | nil => intro cs ds _ p e; cases p; cases e; exact .nil
    | cons w ws ih =>
      intro cs ds hm p e
      cases p with
      | cons q n t =>
        rename_i c cs
        simp only [escs] at e
        split at e
        · rename_i d ds' e1 e2
          cases e
          refine .cons ?_ (ih _ _ (fun v hv => hm v (List.mem_cons_of_mem _ hv)) t e2)
          cases c with
          | val d' => cases e1; exact Rep.to hk q
          | own d' =>
            cases e1
            obtain ⟨a, rfl, hG, ns, ok⟩ := q
            exact OwnOk.rep (fun z => z.elim (fun z => (A.rs.gs a hG).2.1 z) (hout a (hm _ List.mem_cons_self))) (ok.to hk fun _ h => h)
          | brw i => cases e1
          | src => cases e1
        · cases e
  intro ds e
  exact this vs cs ds all p e
end

/-! ### displays -/
def dTup (g : M (List RC)) : M RC := bnd g fun cs => bnd (opt (escs cs)) fun ds => if lenOk ds.length then ret (.val (.tuple ds)) else fail
def dLst (g : M (List RC)) : M RC := bnd g fun cs => bnd (opt (escs cs)) fun ds => if lenOk ds.length then ret (.own (.list ds)) else fail
section
variable {X : Cx} {pos : Pos} {es : List Expr} {g : M (List RC)} {σ : L2.St} {H : Hp} {Q : VK}
theorem de_tup {x1 : Nat} (h : PA X es (liftA g)) : PE X (.Tuple es x1 pos) (liftE (dTup g)) := pe_mono (pe_tup h) fun σ H Q h => by
  obtain ⟨C, G, ρ, R, T, k⟩ := h
  refine ⟨C, G, ρ, R, T.fst, fun cs ρ1 G1 vs H1 cn1 A1 p1 => ?_⟩
  have T1 := T.snd cn1
  obtain ⟨ds, e⟩ := T1.fst.opt
  have T2 := T1.snd (a := ds) (by rw [e]; exact Can.opt)
  obtain ⟨G2, A2, r, _⟩ := esc_ok R A1 p1 e
  by_cases hl : lenOk ds.length = true
  · rw [if_pos hl] at T2
    refine ⟨by rw [r.length]; exact lenOk_le hl, fun p hp => ?_⟩
    obtain ⟨G3, A3, p3, n3⟩ := Step.aft (c := .val (.tuple ds)) A2.rs (.inr ⟨p, vs, ds, hp, rfl, rfl, r, rfl⟩)
    exact k _ ρ1 G3 _ _ (cn1.bnd (Can.bnd (a := ds) (by rw [e]; exact Can.opt) (by rw [if_pos hl]; exact Can.ret))) (A2.trans A3) p3 trivial
  · rw [if_neg hl] at T2
    exact T2.fail.elim
theorem de_lst (h : PA X es (liftA g)) : PE X (.List es pos) (liftE (dLst g)) := pe_mono (pe_lst h) fun σ H Q h => by
  obtain ⟨C, G, ρ, R, T, k⟩ := h
  refine ⟨C, G, ρ, R, T.fst, fun cs ρ1 G1 vs H1 cn1 A1 p1 => ?_⟩
  have T1 := T.snd cn1
  obtain ⟨ds, e⟩ := T1.fst.opt
  have T2 := T1.snd (a := ds) (by rw [e]; exact Can.opt)
  obtain ⟨G2, A2, r, _⟩ := esc_ok R A1 p1 e
  by_cases hl : lenOk ds.length = true
  · rw [if_pos hl] at T2
    refine ⟨by rw [r.length]; exact lenOk_le hl, fun p hp => ?_⟩
    obtain ⟨G3, A3, p3, n3⟩ := Step.aft (c := .own (.list ds)) A2.rs ⟨p, .lst vs, hp, rfl, rfl, r⟩
    exact k _ ρ1 G3 _ _ (cn1.bnd (Can.bnd (a := ds) (by rw [e]; exact Can.opt) (by rw [if_pos hl]; exact Can.ret))) (A2.trans A3) p3 (n3.back A2.fr.there)
  · rw [if_neg hl] at T2
    exact T2.fail.elim
end

/-! ### calls of built-ins -/
def nows : List RC → M (List PyData)
  | [] => ret []
  | c :: cs => bnd (now c) fun d => bnd (nows cs) fun ds => ret (d :: ds)
inductive TopAll (F : Addr → Prop) (H : Hp) : List V → List PyData → Prop
  | nil : TopAll F H [] []
  | cons {v : V} {vs : List V} {d : PyData} {ds : List PyData} : Top F H v d → TopAll F H vs ds → TopAll F H (v :: vs) (d :: ds)
def CallD (r : List V → Hp → VK → Prop) (g : List PyData → Option RC) : Prop := ∀ (F : Addr → Prop) (H : Hp) (vs : List V) (ds : List PyData) (c : RC) (Q : VK), TopAll F H vs ds → g ds = some c → (∀ v H', Step F H v H' c → Q v H') → r vs H Q
def dCall (g : List PyData → Option RC) (fa : M (List RC)) : M RC := bnd fa fun cs => bnd (nows cs) fun ds => opt (g ds)
section
variable {X : Cx} {pos p : Pos} {e : Expr} {es : List Expr} {fa : M (List RC)} {x : Str} {id T : String} {r : List V → Hp → VK → Prop} {g : List PyData → Option RC}
theorem nows_ok {C : Ctx} {G : List Addr} {ρ : Env'} {σ : L2.St} {H H0 : Hp} (R : RS C G ρ σ H) : ∀ {vs : List V} {cs : List RC}, PendAll C G ρ σ H H0 vs cs → Tot (nows cs) ρ → ∃ ds, Can (nows cs) ρ ds ρ ∧ TopAll (Fb C G) H vs ds
  | _, _, .nil, _ => ⟨[], Can.ret, .nil⟩
  | _, _, .cons q n t, h => by
    obtain ⟨d, e⟩ := h.fst.now
    have h2 := h.snd (Can.now e)
    obtain ⟨ds, cn, tp⟩ := nows_ok R t h2.fst
    exact ⟨d :: ds, (Can.now e).bnd (cn.bnd Can.ret), .cons (q.top R e) tp⟩
theorem lift_call (hg : CallD r g) {σ : L2.St} {H : Hp} {Q : VK} (h : liftE (dCall g fa) σ H Q) : tCB r (liftA fa) σ H Q := by
  obtain ⟨C, G, ρ, R, T, k⟩ := h
  refine ⟨C, G, ρ, R, T.fst, fun cs ρ1 G1 vs H1 cn1 A1 p1 => ?_⟩
  have T1 := T.snd cn1
  obtain ⟨ds, cn2, tp⟩ := nows_ok A1.rs p1 T1.fst
  obtain ⟨c, ec⟩ := (T1.snd cn2).opt
  refine hg _ H1 vs ds c Q tp ec fun v H2 s => ?_
  obtain ⟨G3, A3, p3, n3⟩ := s.aft A1.rs
  exact k c ρ1 G3 v H2 (cn1.bnd (cn2.bnd (by rw [ec]; exact Can.opt))) (A1.trans A3) p3 (n3.back A1.fr.there)
theorem de_callB (hc : CallR X (.builtin id) r) (hd : CallD r g) (hg : Gl X x) (hm : X.mg x = none) (hv : bootBuiltins x = some (.builtin id)) (ha : PA X (e :: es) (liftA fa)) (hn : x ≠ "__name__" := by decide) (hdb : (x == ("__debug__" : Str)) = false := by decide)
    (he : starEach (e :: es) X.env = (false, eval e X.env) :: starEach es X.env := by rfl) (hpl : (backTo pos (starEach es X.env)).any (·.1) = false := by rfl) : PE X (.Call (.Name x p) (e :: es) [] pos) (liftE (dCall g fa)) :=
  pe_mono (pe_callB hc hg hm hv ha hn hdb he hpl) fun _ _ _ h => lift_call hd h
theorem de_callTy (hc : CallR X (.type T) r) (hd : CallD r g) (hg : Gl X x) (hm : X.mg x = none) (hv : bootBuiltins x = some (.type T)) (ha : PA X (e :: es) (liftA fa)) (hn : x ≠ "__name__" := by decide) (hdb : (x == ("__debug__" : Str)) = false := by decide)
    (he : starEach (e :: es) X.env = (false, eval e X.env) :: starEach es X.env := by rfl) (hpl : (backTo pos (starEach es X.env)).any (·.1) = false := by rfl) : PE X (.Call (.Name x p) (e :: es) [] pos) (liftE (dCall g fa)) :=
  pe_mono (pe_callTy hc hg hm hv ha hn hdb he hpl) fun _ _ _ h => lift_call hd h
end
end DL
set_option Elab.async false
set_option linter.all false
set_option maxRecDepth 100000
set_option maxHeartbeats 1000000
/-! Part 6: built-ins by data, items, slices, lists' methods. -/
namespace DL
open PySem PySem.Spec L2
variable [Fam]

/-! ### repr -/
mutual
/-- no less than the signs that a value's text has -/
def cost : PyData → Nat
  | .none => 4
  | .bool _ => 5
  | .int i => i.natAbs.log2 + 3
  | .str x => (reprText x).length
  | .list xs => costAll xs + 3
  | .tuple xs => costAll xs + 3
  | .dict _ => 0
def costAll : List PyData → Nat
  | [] => 0
  | x :: xs => cost x + 2 + costAll xs
end
mutual
theorem cost_le : ∀ d : PyData, d.hasDict = false → d.shown.length ≤ cost d
  | .none, _ => by simp only [PyData.shown, cost]; decide
  | .bool b, _ => by cases b <;> simp only [PyData.shown, cost] <;> decide
  | .int i, _ => by
    simp only [PyData.shown, cost]
    have := int_text_length_le (a := i) (k := i.natAbs.log2 + 1) (by omega) (by omega)
    rw [ofString_length]
    omega
  | .str x, _ => by simp only [PyData.shown, cost]; exact Nat.le_refl _
  | .list xs, h => by
    simp only [PyData.shown, cost]
    have h1 := listText_len_le (PyData.shownAll xs)
    have h2 := costAll_le xs (by simpa only [PyData.hasDict] using h)
    rw [PyData.shownAll_length] at h1
    omega
  | .tuple xs, h => by
    simp only [PyData.shown, cost]
    have h1 := tupleText_len_le (PyData.shownAll xs)
    have h2 := costAll_le xs (by simpa only [PyData.hasDict] using h)
    rw [PyData.shownAll_length] at h1
    omega
  | .dict _, h => by simp only [PyData.hasDict] at h; cases h
theorem costAll_le : ∀ xs : List PyData, PyData.hasDictAll xs = false → ((PyData.shownAll xs).map (·.length)).sum + 2 * xs.length ≤ costAll xs
  | [], _ => by simp only [PyData.shownAll, costAll]; decide
  | x :: xs, h => by
    simp only [PyData.hasDictAll, Bool.or_eq_false_iff] at h
    have h1 := cost_le x h.1
    have h2 := costAll_le xs h.2
    simp only [PyData.shownAll, costAll, List.map_cons, List.sum_cons, List.length_cons]
    omega
end
/-- what repr takes here -/
def repOk (d : PyData) : Bool := d.showable && SeqAt.shaped d && Nat.ble (cost d) 16777216
def rRepr (K : PySem.W.Frag) : List V → Hp → VK → Prop := fun xs H Q => ∃ x d, xs = [x] ∧ Dp K H x d ∧ repOk d = true ∧ Q (.str d.shown) H
theorem cr_repr {X : Cx} (hg : X.A.guards = some []) (hu : X.A.units + 66 < cLine) : CallR X (.builtin "repr") (rRepr X.K) := by
  intro pins s σ H xs us Q I r h
  obtain ⟨x, d, rfl, hd, ok, q⟩ := h
  obtain ⟨u, rfl, ru⟩ := vals1 r
  unfold repOk at ok
  rw [Bool.and_eq_true, Bool.and_eq_true] at ok
  obtain ⟨⟨o1, o2⟩, o3⟩ := ok
  have hnd : d.hasDict = false := PyData.hasDict_of_canLay d (SeqAt.canLay_of_shaped o2)
  have hz : d.shown.length ≤ sizeLine := Nat.le_trans (cost_le d hnd) (Nat.le_of_ble_eq_true o3)
  have hdp := SeqAt.depth_of_shaped o2
  cases hd with
  | non => cases ru; exact PySem.P.repr_of_none ⟨.str _, H, I.tok _, ⟨_, rfl⟩, by simpa only [PyData.shown] using q⟩
  | bl b => cases ru; exact PySem.P.repr_of_bool ⟨.str _, H, I.tok _, ⟨_, rfl⟩, by simpa only [PyData.shown] using q⟩
  | int i =>
    obtain ⟨t, rfl⟩ := ru
    exact PySem.P.repr_of_int (by simpa [PyData.showable] using o1) ⟨.str _, H, I.tok _, ⟨_, rfl⟩, by simpa only [PyData.shown] using q⟩
  | str z =>
    obtain ⟨t, rfl⟩ := ru
    exact PySem.P.repr_of_str ⟨.str _, H, I.tok _, ⟨_, rfl⟩, by simpa only [PyData.shown] using q⟩ (by simpa only [PyData.shown] using hz)
  | lst h1 h2 =>
    obtain ⟨as, rd⟩ := Dp.reads I _ _ _ (.lst h1 h2) ru
    cases ru
    exact repr_of_reads' rd o1 (PyData.noDict_hsm hnd) hg (by omega) (fun _ _ e => e) (fun h' t tk hk => ⟨.str _, H, I.kept hk, ⟨_, rfl⟩, q⟩) hz
  | tup h1 h2 =>
    obtain ⟨as, rd⟩ := Dp.reads I _ _ _ (.tup h1 h2) ru
    cases ru
    exact repr_of_reads' rd o1 (PyData.noDict_hsm hnd) hg (by omega) (fun _ _ e => e) (fun h' t tk hk => ⟨.str _, H, I.kept hk, ⟨_, rfl⟩, q⟩) hz
def gRepr : List PyData → Option RC
  | [d] => if repOk d then some (.val (.str d.shown)) else none
  | _ => none
section
variable {F : Addr → Prop} {H : Hp} {vs : List V} {ds : List PyData} {d e : PyData} {K : PySem.W.Frag}
theorem TopAll.one (h : TopAll F H vs [d]) : ∃ v, vs = [v] ∧ Top F H v d := by
  cases h with | cons a t => cases t; exact ⟨_, rfl, a⟩
theorem TopAll.two (h : TopAll F H vs [d, e]) : ∃ v w, vs = [v, w] ∧ Top F H v d ∧ Top F H w e := by
  cases h with | cons a t => cases t with | cons b t => cases t; exact ⟨_, _, rfl, a, b⟩
theorem cd_repr : CallD (rRepr K) gRepr := by
  intro F H vs ds c Q h e k
  match ds, e with
  | [d], e =>
    simp only [gRepr] at e
    split at e
    · rename_i ok
      cases e
      obtain ⟨v, rfl, t⟩ := h.one
      have ok' := ok
      unfold repOk at ok'
      rw [Bool.and_eq_true, Bool.and_eq_true] at ok'
      exact ⟨v, d, rfl, t.dp (shaped_noDict ok'.1.2), ok, fin_val (.str _) k⟩
    · cases e

/-! ### len, int, abs, the greater and the lesser of two -/
def gLen : List PyData → Option RC
  | [.list xs] => some (.val (.int (xs.length : Int)))
  | [.tuple xs] => some (.val (.int (xs.length : Int)))
  | [.str x] => if lenOk x.length then some (.val (.int (x.length : Int))) else none
  | _ => none
def rLen (K : PySem.W.Frag) : List V → Hp → VK → Prop := fun xs H Q => (∃ p ys, xs = [.ref p] ∧ (SqL K H p ys ∨ SqT K H p ys) ∧ Q (.int ys.length) H) ∨ ∃ z, xs = [.str z] ∧ z.length ≤ sizeLine ∧ Q (.int z.length) H
theorem cr_len {X : Cx} : CallR X (.builtin "len") (rLen X.K) := call_len_seq.or call_len_str
theorem cd_len : CallD (rLen K) gLen := by
  intro F H vs ds c Q h e k
  match ds, e with
  | [.list xs], e =>
    cases e
    obtain ⟨v, rfl, t⟩ := h.one
    obtain ⟨a, ys, rfl, r, p⟩ := t.list'
    exact .inl ⟨a, ys, rfl, .inl (.inl r), by rw [p.length]; exact fin_val (.int _) k⟩
  | [.tuple xs], e =>
    cases e
    obtain ⟨v, rfl, t⟩ := h.one
    obtain ⟨a, ys, rfl, r, p⟩ := t.tuple'
    exact .inl ⟨a, ys, rfl, .inr (.inl r), by rw [p.length]; exact fin_val (.int _) k⟩
  | [.str x], e =>
    simp only [gLen] at e
    split at e
    · rename_i hl
      cases e
      obtain ⟨v, rfl, t⟩ := h.one
      obtain rfl := t.str'
      exact .inr ⟨x, rfl, lenOk_le hl, fin_val (.int _) k⟩
    · cases e
def gInt : List PyData → Option RC
  | [.int i] => some (.val (.int i))
  | [.bool b] => some (.val (.int (if b then 1 else 0)))
  | _ => none
theorem cd_int : CallD (fun xs H Q => (∃ i, xs = [.int i] ∧ Q (.int i) H) ∨ ∃ k, xs = [.bl k] ∧ Q (.int (if k then 1 else 0)) H) gInt := by
  intro F H vs ds c Q h e k
  match ds, e with
  | [.int i], e => cases e; obtain ⟨v, rfl, t⟩ := h.one; cases t; exact .inl ⟨i, rfl, fin_val (.int _) k⟩
  | [.bool b], e => cases e; obtain ⟨v, rfl, t⟩ := h.one; cases t; exact .inr ⟨b, rfl, fin_val (.int _) k⟩
def gAbs : List PyData → Option RC
  | [.int i] => some (.val (.int (if i < 0 then -i else i)))
  | _ => none
theorem cd_abs : CallD (fun xs H Q => ∃ i, xs = [.int i] ∧ Q (.int (if i < 0 then -i else i)) H) gAbs := by
  intro F H vs ds c Q h e k
  match ds, e with
  | [.int i], e => cases e; obtain ⟨v, rfl, t⟩ := h.one; cases t; exact ⟨i, rfl, fin_val (.int _) k⟩
def intsOf : List PyData → Option (List Int)
  | [] => some []
  | .int i :: ds => (intsOf ds).map (i :: ·)
  | _ :: _ => none
theorem intsOf_some : ∀ {ds : List PyData} {ns : List Int}, intsOf ds = some ns → ds = ns.map PyData.int
  | [], ns, h => by cases h; rfl
  | .int i :: ds, ns, h => by
    simp only [intsOf] at h
    cases e : intsOf ds with
    | none => rw [e] at h; cases h
    | some ms => rw [e] at h; cases h; rw [intsOf_some e]; rfl
def boolsOf : List PyData → Option (List Bool)
  | [] => some []
  | .bool i :: ds => (boolsOf ds).map (i :: ·)
  | _ :: _ => none
theorem boolsOf_some : ∀ {ds : List PyData} {ns : List Bool}, boolsOf ds = some ns → ds = ns.map PyData.bool
  | [], ns, h => by cases h; rfl
  | .bool i :: ds, ns, h => by
    simp only [boolsOf] at h
    cases e : boolsOf ds with
    | none => rw [e] at h; cases h
    | some ms => rw [e] at h; cases h; rw [boolsOf_some e]; rfl
/-- the greatest, the least of some ints, not none -/
def maxI : Int → List Int → Int
  | m, [] => m
  | m, x :: xs => maxI (if m < x then x else m) xs
def minI : Int → List Int → Int
  | m, [] => m
  | m, x :: xs => minI (if x < m then x else m) xs
theorem maxI_ge : ∀ (xs : List Int) (m : Int), m ≤ maxI m xs ∧ ∀ y ∈ xs, y ≤ maxI m xs
  | [], m => ⟨Int.le_refl _, fun y h => by cases h⟩
  | x :: xs, m => by
    obtain ⟨h1, h2⟩ := maxI_ge xs (if m < x then x else m)
    simp only [maxI]
    by_cases h : m < x
    · rw [if_pos h] at h1 h2 ⊢
      exact ⟨by omega, fun y hy => (List.mem_cons.mp hy).elim (fun z => by omega) (h2 y)⟩
    · rw [if_neg h] at h1 h2 ⊢
      exact ⟨by omega, fun y hy => (List.mem_cons.mp hy).elim (fun z => by omega) (h2 y)⟩
theorem maxI_mem : ∀ (xs : List Int) (m : Int), maxI m xs = m ∨ maxI m xs ∈ xs
  | [], m => .inl rfl
  | x :: xs, m => by
    simp only [maxI]
    rcases maxI_mem xs (if m < x then x else m) with h | h
    · rw [h]
      split
      · exact .inr List.mem_cons_self
      · exact .inl rfl
    · exact .inr (List.mem_cons_of_mem _ h)
theorem minI_le : ∀ (xs : List Int) (m : Int), minI m xs ≤ m ∧ ∀ y ∈ xs, minI m xs ≤ y
  | [], m => ⟨Int.le_refl _, fun y h => by cases h⟩
  | x :: xs, m => by
    obtain ⟨h1, h2⟩ := minI_le xs (if x < m then x else m)
    simp only [minI]
    by_cases h : x < m
    · rw [if_pos h] at h1 h2 ⊢
      exact ⟨by omega, fun y hy => (List.mem_cons.mp hy).elim (fun z => by omega) (h2 y)⟩
    · rw [if_neg h] at h1 h2 ⊢
      exact ⟨by omega, fun y hy => (List.mem_cons.mp hy).elim (fun z => by omega) (h2 y)⟩
theorem minI_mem : ∀ (xs : List Int) (m : Int), minI m xs = m ∨ minI m xs ∈ xs
  | [], m => .inl rfl
  | x :: xs, m => by
    simp only [minI]
    rcases minI_mem xs (if x < m then x else m) with h | h
    · rw [h]
      split
      · exact .inr List.mem_cons_self
      · exact .inl rfl
    · exact .inr (List.mem_cons_of_mem _ h)
def gSum : List PyData → Option RC
  | [.list ds] => (intsOf ds).map fun ns => .val (.int ns.sum)
  | _ => none
theorem cd_sum : CallD (rSum K) gSum := by
  intro F H vs ds c Q h e k
  match ds, e with
  | [.list ds], e =>
    simp only [gSum, Option.map_eq_some_iff] at e
    obtain ⟨ns, e1, rfl⟩ := e
    obtain ⟨v, rfl, t⟩ := h.one
    obtain ⟨a, ys, rfl, r, p⟩ := t.list'
    rw [intsOf_some e1] at p
    exact ⟨a, ns, rfl, by rw [← p.ints]; exact .inl r, fin_val (.int _) k⟩
/-- min, max: of a list of ints, of two ints -/
def gMax : List PyData → Option RC
  | [.int i, .int j] => some (.val (.int (if j > i then j else i)))
  | [.list ds] => match intsOf ds with
    | some (n :: ns) => some (.val (.int (maxI n ns)))
    | _ => none
  | _ => none
def gMin : List PyData → Option RC
  | [.int i, .int j] => some (.val (.int (if j < i then j else i)))
  | [.list ds] => match intsOf ds with
    | some (n :: ns) => some (.val (.int (minI n ns)))
    | _ => none
  | _ => none
theorem cr_max' {X : Cx} (hc : X.calm = true) : CallR X (.builtin "max") (fun xs H Q => (∃ i j, xs = [.int i, .int j] ∧ Q (.int (if j > i then j else i)) H) ∨ rMax X.K xs H Q) := (call_max2 hc).or (cr_max hc)
theorem cr_min' {X : Cx} (hc : X.calm = true) : CallR X (.builtin "min") (fun xs H Q => (∃ i j, xs = [.int i, .int j] ∧ Q (.int (if j < i then j else i)) H) ∨ rMin X.K xs H Q) := (call_min2 hc).or (cr_min hc)
theorem cd_max : CallD (fun xs H Q => (∃ i j, xs = [.int i, .int j] ∧ Q (.int (if j > i then j else i)) H) ∨ rMax K xs H Q) gMax := by
  intro F H vs ds c Q h e k
  match ds, e with
  | [.int i, .int j], e => cases e; obtain ⟨v, w, rfl, t, t'⟩ := h.two; cases t; cases t'; exact .inl ⟨i, j, rfl, fin_val (.int _) k⟩
  | [.list ds], e =>
    simp only [gMax] at e
    split at e
    · rename_i n ns e1
      cases e
      obtain ⟨v, rfl, t⟩ := h.one
      obtain ⟨a, ys, rfl, r, p⟩ := t.list'
      rw [intsOf_some e1] at p
      refine .inr ⟨a, n :: ns, rfl, by rw [← p.ints]; exact .inl r, by simp, fun m hm hle => ?_⟩
      obtain ⟨g1, g2⟩ := maxI_ge ns n
      have e2 : m = maxI n ns := by
        have h1 : m ≤ maxI n ns := by
          rcases List.mem_cons.mp hm with rfl | hm
          · exact g1
          · exact g2 m hm
        have h2 : maxI n ns ≤ m := by
          rcases maxI_mem ns n with z | z
          · rw [z]; exact hle n List.mem_cons_self
          · exact hle _ (List.mem_cons_of_mem _ z)
        omega
      rw [e2]
      exact fin_val (.int _) k
    · cases e
theorem cd_min : CallD (fun xs H Q => (∃ i j, xs = [.int i, .int j] ∧ Q (.int (if j < i then j else i)) H) ∨ rMin K xs H Q) gMin := by
  intro F H vs ds c Q h e k
  match ds, e with
  | [.int i, .int j], e => cases e; obtain ⟨v, w, rfl, t, t'⟩ := h.two; cases t; cases t'; exact .inl ⟨i, j, rfl, fin_val (.int _) k⟩
  | [.list ds], e =>
    simp only [gMin] at e
    split at e
    · rename_i n ns e1
      cases e
      obtain ⟨v, rfl, t⟩ := h.one
      obtain ⟨a, ys, rfl, r, p⟩ := t.list'
      rw [intsOf_some e1] at p
      refine .inr ⟨a, n :: ns, rfl, by rw [← p.ints]; exact .inl r, by simp, fun m hm hle => ?_⟩
      obtain ⟨g1, g2⟩ := minI_le ns n
      have e2 : m = minI n ns := by
        have h1 : minI n ns ≤ m := by
          rcases List.mem_cons.mp hm with rfl | hm
          · exact g1
          · exact g2 m hm
        have h2 : m ≤ minI n ns := by
          rcases minI_mem ns n with z | z
          · rw [z]; exact hle n List.mem_cons_self
          · exact hle _ (List.mem_cons_of_mem _ z)
        omega
      rw [e2]
      exact fin_val (.int _) k
    · cases e
def gAll : List PyData → Option RC
  | [.list ds] => (boolsOf ds).map fun bs => .val (.bool (bs.all id))
  | _ => none
def gAny : List PyData → Option RC
  | [.list ds] => (boolsOf ds).map fun bs => .val (.bool (bs.any id))
  | _ => none
theorem cd_all : CallD (rAll K) gAll := by
  intro F H vs ds c Q h e k
  match ds, e with
  | [.list ds], e =>
    simp only [gAll, Option.map_eq_some_iff] at e
    obtain ⟨ns, e1, rfl⟩ := e
    obtain ⟨v, rfl, t⟩ := h.one
    obtain ⟨a, ys, rfl, r, p⟩ := t.list'
    rw [boolsOf_some e1] at p
    exact ⟨a, ns, rfl, by rw [← p.bools]; exact .inl r, fin_val (.bl _) k⟩
theorem cd_any : CallD (rAny K) gAny := by
  intro F H vs ds c Q h e k
  match ds, e with
  | [.list ds], e =>
    simp only [gAny, Option.map_eq_some_iff] at e
    obtain ⟨ns, e1, rfl⟩ := e
    obtain ⟨v, rfl, t⟩ := h.one
    obtain ⟨a, ys, rfl, r, p⟩ := t.list'
    rw [boolsOf_some e1] at p
    exact ⟨a, ns, rfl, by rw [← p.bools]; exact .inl r, fin_val (.bl _) k⟩
/-- list(x), tuple(x) of a list or a tuple -/
def gList : List PyData → Option RC
  | [.list ds] => some (.own (.list ds))
  | [.tuple ds] => some (.own (.list ds))
  | _ => none
def gTuple : List PyData → Option RC
  | [.list ds] => some (.val (.tuple ds))
  | [.tuple ds] => some (.val (.tuple ds))
  | _ => none
theorem cd_list : CallD (fun xs H Q => ∃ p ys, xs = [.ref p] ∧ (SqL K H p ys ∨ SqT K H p ys) ∧ ∀ l, H l = none → Q (.ref l) (upd H l (.lst ys))) gList := by
  intro F H vs ds c Q h e k
  match ds, e with
  | [.list ds], e => cases e; obtain ⟨v, rfl, t⟩ := h.one; obtain ⟨a, ys, rfl, r, p⟩ := t.list'; exact ⟨a, ys, rfl, .inl (.inl r), fin_lst p k⟩
  | [.tuple ds], e => cases e; obtain ⟨v, rfl, t⟩ := h.one; obtain ⟨a, ys, rfl, r, p⟩ := t.tuple'; exact ⟨a, ys, rfl, .inr (.inl r), fin_lst p k⟩
theorem cd_tuple : CallD (fun xs H Q => ∃ p ys, xs = [.ref p] ∧ ((SqL K H p ys ∧ ∀ l, H l = none → Q (.ref l) (upd H l (.tup ys))) ∨ (SqT K H p ys ∧ Q (.ref p) H))) gTuple := by
  intro F H vs ds c Q h e k
  match ds, e with
  | [.list ds], e => cases e; obtain ⟨v, rfl, t⟩ := h.one; obtain ⟨a, ys, rfl, r, p⟩ := t.list'; exact ⟨a, ys, rfl, .inl ⟨.inl r, fin_tup p k⟩⟩
  | [.tuple ds], e =>
    cases e
    obtain ⟨v, rfl, t⟩ := h.one
    have tr := t.tupRep
    obtain ⟨a, ys, rfl, r, p⟩ := t.tuple'
    exact ⟨a, ys, rfl, .inr ⟨.inl r, fin_val tr k⟩⟩
end

/-! ### items -/
def gIx : PyData → PyData → Option RC
  | .list ds, .int i => (atI ds i).map .val
  | .tuple ds, .int i => (atI ds i).map .val
  | _, _ => none
theorem RepAll.atI {F : Addr → Prop} {H : Hp} {vs : List V} {ds : List PyData} {i : Int} {d : PyData} (r : RepAll F H vs ds) (e : L2.atI ds i = some d) : ∃ v, L2.atI vs i = some v ∧ Rep F H v d := by
  unfold L2.atI at e ⊢
  rw [r.length]
  cases q : ixN ds.length i with
  | none => rw [q] at e; cases e
  | some j =>
    rw [q] at e
    obtain ⟨v, h1, h2⟩ := r.get (i := j) e
    exact ⟨v, h1, h2⟩
theorem opd_ix {K : PySem.W.Frag} : OpD (rIx K) gIx := by
  intro F H x y dx dy c Q hx hy e k
  cases dx <;> cases dy <;> simp only [gIx] at e <;> try cases e
  · rw [Option.map_eq_some_iff] at e
    obtain ⟨d, e1, rfl⟩ := e
    obtain ⟨a, ys, rfl, r, p⟩ := hx.list'
    cases hy
    obtain ⟨v, h1, h2⟩ := p.atI e1
    exact .inl ⟨a, ys, _, v, rfl, rfl, .inl r, h1, fin_val h2 k⟩
  · rw [Option.map_eq_some_iff] at e
    obtain ⟨d, e1, rfl⟩ := e
    obtain ⟨a, ys, rfl, r, p⟩ := hx.tuple'
    cases hy
    obtain ⟨v, h1, h2⟩ := p.atI e1
    exact .inr (.inl ⟨a, ys, _, v, rfl, rfl, .inl r, h1, fin_val h2 k⟩)
def dIx := dOp gIx
theorem de_ix {X : Cx} {a b : Expr} {fa fb : M RC} {pos : Pos} (ha : PE X a (liftE fa)) (hb : PE X b (liftE fb)) (hs : PlainIx b := by exact fun _ _ => rfl) : PE X (.Subscript a b pos) (liftE (dIx fa fb)) := pe_mono (pe_ix ix_seq ha hb hs) fun _ _ _ h => lift_op opd_ix h

/-! ### slices -/
def dNoP : M (Option Int) := ret none
def dP (f : M RC) : M (Option Int) := bnd f fun c => bnd (now c) fun d => match d with
  | .int i => ret (some i)
  | _ => fail
def cutD {α : Type} (xs : List α) (lo hi : Option Int) : List α := (xs.drop (HT.sIx xs.length 0 lo)).take (HT.sIx xs.length xs.length hi - HT.sIx xs.length 0 lo)
def gSl : PyData → Option Int → Option Int → Option RC
  | .list ds, lo, hi => some (.own (.list (cutD ds lo hi)))
  | .tuple ds, lo, hi => some (.val (.tuple (cutD ds lo hi)))
  | _, _, _ => none
def dSl (f : M RC) (l h : M (Option Int)) : M RC := bnd f fun c => bnd l fun lo => bnd h fun hi => bnd (now c) fun d => opt (gSl d lo hi)
def liftO (f : M (Option Int)) : TO := fun σ H Q => ∃ C G ρ, RS C G ρ σ H ∧ Tot f ρ ∧ ∀ b ρ' G' H', Can f ρ b ρ' → Aft C G ρ σ H G' ρ' H' → Q b H'
section
variable {X : Cx} {pos p2 : Pos} {e : Expr} {lo hi : Option Expr} {f : M RC} {fl fh : M (Option Int)}
theorem do_none : PO X none (liftO dNoP) := ⟨fun pins s σ H Q I h => po_none.run pins s σ H Q I (by
  obtain ⟨C, G, ρ, R, T, k⟩ := h
  exact k _ ρ G H Can.ret (.refl R))⟩
theorem do_some (he : PE X e (liftE f)) : PO X (some e) (liftO (dP f)) := ⟨fun pins s σ H Q I h => (po_some he).run pins s σ H Q I (by
  obtain ⟨C, G, ρ, R, T, k⟩ := h
  refine ⟨C, G, ρ, R, T.fst, fun c ρ1 G1 v H1 cn1 A1 p1 n1 => ?_⟩
  have T1 := T.snd cn1
  obtain ⟨d, ed⟩ := T1.fst.now
  have T2 := T1.snd (Can.now ed)
  cases d with
  | int i => exact ⟨i, (p1.top A1.rs ed).int', k _ ρ1 G1 H1 (cn1.bnd ((Can.now ed).bnd Can.ret)) A1⟩
  | _ => exact T2.fail.elim)⟩
theorem RepAll.cut {F : Addr → Prop} {H : Hp} {vs : List V} {ds : List PyData} (r : RepAll F H vs ds) (lo hi : Option Int) : RepAll F H (cutV vs lo hi) (cutD ds lo hi) := by
  unfold cutV cutD
  rw [r.length]
  exact (r.drop _).take _
theorem cut_whole {α : Type} {xs : List α} {lo hi : Option Int} (h : HT.sIx xs.length 0 lo = 0 ∧ HT.sIx xs.length xs.length hi = xs.length) : cutD xs lo hi = xs := by
  unfold cutD
  rw [h.1, h.2]
  simp
/-- a list, whatever may be read, cut -/
def rSlLR (K : PySem.W.Frag) : V → Option Int → Option Int → Hp → VK → Prop := fun x lo hi H Q => rSlL K x lo hi H Q ∨ rSlA K x lo hi H Q
theorem de_sl (he : PE X e (liftE f)) (hl : PO X lo (liftO fl)) (hu : PO X hi (liftO fh)) : PE X (.Subscript e (.Slice lo hi none p2) pos) (liftE (dSl f fl fh)) := pe_mono (pe_slice (sl_list.or sl_tupA) he hl hu) fun σ H Q h => by
  obtain ⟨C, G, ρ, R, T, k⟩ := h
  refine ⟨C, G, ρ, R, T.fst, fun c ρ1 G1 v H1 cn1 A1 p1 n1 => ?_⟩
  have T1 := T.snd cn1
  refine ⟨C, G1, ρ1, A1.rs, T1.fst, fun l ρ2 G2 H2 cn2 A2 => ?_⟩
  have T2 := T1.snd cn2
  refine ⟨C, G2, ρ2, A2.rs, T2.fst, fun u ρ3 G3 H3 cn3 A3 => ?_⟩
  have T3 := T2.snd cn3
  have A := (A1.trans A2).trans A3
  obtain ⟨d, ed⟩ := T3.fst.now
  have T4 := T3.snd (Can.now ed)
  obtain ⟨c', ec⟩ := T4.opt
  have tp := ((A3.pend A2.rs (A2.pend A1.rs p1))).top A3.rs ed
  have fin : ∀ v H', Step (Fb C G3) H3 v H' c' → Q v H' := fun v H' s => by
    obtain ⟨G4, A4, p4, n4⟩ := s.aft A3.rs
    exact k c' ρ3 G4 v H' (cn1.bnd (cn2.bnd (cn3.bnd ((Can.now ed).bnd (by rw [ec]; exact Can.opt))))) (A.trans A4) p4 (n4.back A.fr.there)
  cases d with
  | list ds =>
    cases ec
    obtain ⟨a, ys, rfl, r, p⟩ := tp.list'
    exact .inl ⟨a, ys, rfl, .inl r, fin_lst (p.cut l u) fin⟩
  | tuple ds =>
    cases ec
    have tr := tp.tupRep
    obtain ⟨a, ys, rfl, r, p⟩ := tp.tuple'
    refine .inr ⟨a, ys, rfl, .inl r, fun hw => ?_, fun _ => fin_tup (p.cut l u) fin⟩
    rw [p.length] at hw
    have e := cut_whole hw
    refine fin_val ?_ fin
    rw [e]
    exact tr
  | _ => cases ec
end
end DL
set_option Elab.async false
set_option linter.all false
set_option maxRecDepth 100000
set_option maxHeartbeats 1000000
/-! Part 7: lists changed in place; statements. -/
namespace DL
open PySem PySem.Spec L2
variable [Fam]

/-! ### what a name owns is written -/
section
variable {C : Ctx} {G : List Addr} {ρ : Env'} {σ : L2.St} {H : Hp} {i : Nat} {a : Addr} {o' : HO} {d d' : PyData}
theorem RS.own (R : RS C G ρ σ H) (e : ρ[i]? = some (some (.own d))) : ∃ a, σ[i]? = some (some (.ref a)) ∧ a ∈ G ∧ OwnOk (Fb C G) H a d := by
  obtain ⟨v, hv, a, rfl, hG, ok⟩ := R.slot i _ e
  exact ⟨a, hv, hG, ok⟩
theorem set_get {ρ : Env'} {i j : Nat} {c c' : Option Cell} (h : (ρ.set i c)[j]? = some c') : (j = i ∧ c' = c ∧ i < ρ.length) ∨ (j ≠ i ∧ ρ[j]? = some c') := by
  by_cases e : j = i
  · subst e
    by_cases hl : j < ρ.length
    · rw [List.getElem?_set_self hl] at h
      exact .inl ⟨rfl, (Option.some.inj h).symm, hl⟩
    · rw [List.getElem?_eq_none (by rw [List.length_set]; omega)] at h
      cases h
  · rw [List.getElem?_set_ne (Ne.symm e)] at h
    exact .inr ⟨e, h⟩
theorem kind_set {ρ : Env'} {i : Nat} {c c' : Cell} (e : ρ[i]? = some (some c)) (hk : c'.kind = c.kind) : Shape ρ (ρ.set i (some c')) := fun j => by
  by_cases h : j = i
  · subst h
    have hl : j < ρ.length := (List.getElem?_eq_some_iff.mp e).1
    rw [List.getElem?_set_self hl, e]
    simp [hk]
  · rw [List.getElem?_set_ne (Ne.symm h)]
theorem upd_get {H : Hp} {a b : Addr} {o o' : HO} (n : b ≠ a) (h : H b = some o) : upd H a o' b = some o := by
  rw [upd_ne n]
  exact h
theorem RS.write (R : RS C G ρ σ H) (e : ρ[i]? = some (some (.own d))) (hs : σ[i]? = some (some (.ref a))) (p : Parts (Fb C G) H o' d') : Aft C G ρ σ H G (ρ.set i (some (.own d'))) (upd H a o') := by
  obtain ⟨a', hs', hG, ok⟩ := R.own e
  rw [hs] at hs'; cases hs'
  have hil : i < ρ.length := (List.getElem?_eq_some_iff.mp e).1
  have sh : Shape ρ (ρ.set i (some (.own d'))) := kind_set e rfl
  have hS : ¬ C.S a := R.notS hG
  have hk : ∀ b o, H b = some o → ¬ Fb C G b → ¬ Fb C G b ∧ upd H a o' b = some o := fun b o h n => ⟨n, upd_get (fun z : b = a => n (.inr (z ▸ hG))) h⟩
  have fr : Fr C ρ σ H (upd H a o') := ⟨fun b o h _ no => by
    rw [upd_ne (fun z => no (by subst z; exact ⟨i, ⟨d, e⟩, hs⟩))]; exact h, fun b h => by
    by_cases z : b = a
    · subst z; rw [upd_same]; simp
    · rw [upd_ne z]; exact h⟩
  refine ⟨⟨by rw [List.length_set]; exact R.len, fun b o h0 ns => ?_, fun b hb => ?_, ?_, fun j c ej => ?_, fun j k v n hj hk' e1 => ?_⟩, fr, sh, GExt.refl⟩
  · have := R.frame b o h0 ns
    rw [upd_ne (fun z => by subst z; rw [(R.gs _ hG).1] at h0; cases h0)]
    exact this
  · have := R.gs b hb
    exact ⟨this.1, this.2.1, fr.there b this.2.2⟩
  · refine C.keep _ _ _ R.src fun b o h n => ?_
    rw [upd_ne (fun z => by
      subst z
      rcases n with n | n
      · exact hS n
      · exact n (.inr hG))]
    exact h
  · rcases set_get ej with ⟨rfl, ec, _⟩ | ⟨ne, ej'⟩
    · cases ec
      exact ⟨_, hs, a, rfl, hG, o', upd_same, p.to hk⟩
    · obtain ⟨v, hv, s⟩ := R.slot j c ej'
      refine ⟨v, hv, ?_⟩
      have other : ∀ b, c.excl = true → v = .ref b → b ≠ a := fun b hx hv' z => by
        subst z
        subst hv'
        exact R.sep j i _ ne ⟨c, ej', hx⟩ ⟨_, e, rfl⟩ hv hs
      cases c with
      | val d2 => exact Rep.to hk s
      | own d2 => obtain ⟨b, rfl, g, ok2⟩ := s; exact ⟨b, rfl, g, ok2.to hk fun o h => by rw [upd_ne (other b rfl rfl)]; exact h⟩
      | lck d2 => obtain ⟨b, rfl, g, ok2⟩ := s; exact ⟨b, rfl, g, ok2.to hk fun o h => by rw [upd_ne (other b rfl rfl)]; exact h⟩
      | src => exact s
  · exact R.sep j k v n (sh.ex hj) (sh.ex hk') e1
end

/-! ### methods of a list that a name owns -/
def MethD (r : V → List V → Hp → VK → Prop) (g : PyData → List PyData → Option (PyData × PyData)) : Prop := ∀ (F : Addr → Prop) (H : Hp) (a : Addr) (o : HO) (vs : List V) (d : PyData) (ds : List PyData) (d' c : PyData) (Q : VK),
  H a = some o → Parts F H o d → RepAll F H vs ds → g d ds = some (d', c) → (∀ o' v, Parts F H o' d' → Rep F H v c → Q v (upd H a o')) → r (.ref a) vs H Q
def ownAt (i : Nat) : M PyData := fun ρ ω => match ρ[i]? with
  | some (some (.own d)) => some (d, ρ, ω)
  | _ => none
def isLst : PyData → Bool
  | .list _ => true
  | _ => false
def putOwn (i : Nat) (d : PyData) : M Unit := fun ρ ω => match ρ[i]? with
  | some (some (.own _)) => some ((), ρ.set i (some (.own d)), ω)
  | _ => none
def dMeth (i : Nat) (g : PyData → List PyData → Option (PyData × PyData)) (fa : M (List RC)) : M RC :=
  bnd (ownAt i) fun d0 => if isLst d0 then bnd fa fun cs => bnd (opt (escs cs)) fun ds => bnd (ownAt i) fun d => bnd (opt (g d ds)) fun r => bnd (putOwn i r.1) fun _ => ret (.val r.2) else fail
theorem Tot.ownAt {i : Nat} {ρ : Env'} (h : Tot (ownAt i) ρ) : ∃ d, ρ[i]? = some (some (.own d)) ∧ Can (DL.ownAt i) ρ d ρ := by
  obtain ⟨r, e⟩ := h (fun _ => 0)
  simp only [DL.ownAt] at e
  split at e
  · rename_i d q
    exact ⟨d, q, fun ω => ⟨ω, by simp only [DL.ownAt, q]⟩⟩
  · cases e
theorem Can.putOwn {i : Nat} {ρ : Env'} {d d' : PyData} (h : ρ[i]? = some (some (.own d))) : Can (putOwn i d') ρ () (ρ.set i (some (.own d'))) := fun ω => ⟨ω, by simp only [DL.putOwn, h]⟩
section
variable {X : Cx} {i : Nat} {x name : Str} {p apos cpos : Pos} {e : Expr} {es : List Expr} {fa : M (List RC)} {T id : String} {r : V → List V → Hp → VK → Prop} {g : PyData → List PyData → Option (PyData × PyData)}
theorem lift_meth {K : PySem.W.Frag} (hd : MethD r g) {σ : L2.St} {H : Hp} {Q : VK} (h : liftE (dMeth i g fa) σ H Q) : tBM K "list" r (tVar i) (liftA fa) σ H Q := by
  obtain ⟨C, G, ρ, R, T, k⟩ := h
  obtain ⟨d0, e0, c0⟩ := T.fst.ownAt
  have T1 := T.snd c0
  by_cases hl : isLst d0 = true
  · rw [if_pos hl] at T1
    obtain ⟨a, hs, hG, ok⟩ := R.own e0
    have hty : tyV K "list" (.ref a) H := by
      cases d0 with
      | list ds => obtain ⟨o, eo, po⟩ := ok; cases o <;> first | exact .inl ⟨rfl, _, .inl (.inl eo)⟩ | exact po.elim
      | _ => cases hl
    refine ⟨.ref a, hs, hty, C, G, ρ, R, T1.fst, fun cs ρ1 G1 vs H1 cn1 A1 p1 => ?_⟩
    have T2 := T1.snd cn1
    obtain ⟨ds, e⟩ := T2.fst.opt
    have T3 := T2.snd (a := ds) (by rw [e]; exact Can.opt)
    obtain ⟨d, e1, c1⟩ := T3.fst.ownAt
    have T4 := T3.snd c1
    obtain ⟨⟨d', c⟩, eg⟩ := T4.fst.opt
    obtain ⟨G2, A2, rp, _⟩ := esc_ok R A1 p1 e
    obtain ⟨a2, hs2, hG2, o, eo, po⟩ := A2.rs.own e1
    rw [hs] at hs2; cases hs2
    refine hd _ H1 a o vs d ds d' c Q eo po rp eg fun o' v po' rc => ?_
    have W := A2.rs.write e1 hs po'
    have rc' : Rep (Fb C G2) (upd H1 a o') v c := rc.to fun b u h n => ⟨n, upd_get (fun z : b = a => n (.inr (z ▸ hG2))) h⟩
    refine k (.val c) _ G2 v _ (c0.bnd ?_) (A2.trans W) rc' trivial
    rw [if_pos hl]
    exact cn1.bnd (Can.bnd (a := ds) (by rw [e]; exact Can.opt) (c1.bnd (Can.bnd (a := (d', c)) (by rw [eg]; exact Can.opt) ((Can.putOwn e1).bnd Can.ret))))
  · rw [if_neg hl] at T1
    exact T1.fail.elim
theorem de_meth (slot : Slot "list" name id) (hty : typeOf (.builtin id) = pure (.type "method_descriptor")) (hm : MtR X id r) (hd : MethD r g) (hN : X.N[i]? = some x) (ha : PA X (e :: es) (liftA fa))
    (hv : Vis X.env.scope x := by first | exact Or.inl rfl | exact Or.inr (Or.inl rfl) | exact Or.inr (Or.inr rfl)) (hd1 : (x == ("__debug__" : Str)) = false := by decide) (hcd : (x == ("__classdict__" : Str)) = false := by decide)
    (hbase : attributeBase (.Name x p) name X.env (eval (.Name x p) X.env) = eval (.Name x p) X.env := by rfl)
    (hfew : ((backTo cpos (starEach (e :: es) X.env)).all (fun x => !x.1) && (backToKw cpos (keywordEach [] X.env)).all (fun x => x.1.isSome)
      && decide ((e :: es).length + ([] : List Keyword).length + (if ([] : List Keyword).isEmpty then 0 else 1) < 30)) = true := by rfl)
    (hline : (apos.endLine == cpos.line) = true := by rfl) (hs : starEach (e :: es) X.env = (false, eval e X.env) :: starEach es X.env := by rfl) (hplain : (backTo cpos (starEach es X.env)).any (·.1) = false := by rfl) :
    PE X (.Call (.Attribute (.Name x p) name apos) (e :: es) [] cpos) (liftE (dMeth i g fa)) :=
  pe_mono (pe_bm PySem.F.plainAttrs_list slot hty hm (pe_var hN hv hd1 hcd) ha hbase hfew hline hs hplain) fun _ _ _ h => lift_meth hd h
theorem de_meth0 (slot : Slot "list" name id) (hty : typeOf (.builtin id) = pure (.type "method_descriptor")) (hm : MtR X id r) (hd : MethD r g) (hN : X.N[i]? = some x)
    (hv : Vis X.env.scope x := by first | exact Or.inl rfl | exact Or.inr (Or.inl rfl) | exact Or.inr (Or.inr rfl)) (hd1 : (x == ("__debug__" : Str)) = false := by decide) (hcd : (x == ("__classdict__" : Str)) = false := by decide)
    (hbase : attributeBase (.Name x p) name X.env (eval (.Name x p) X.env) = eval (.Name x p) X.env := by rfl) (hline : (apos.endLine == cpos.line) = true := by rfl) :
    PE X (.Call (.Attribute (.Name x p) name apos) [] [] cpos) (liftE (dMeth i g dNil)) :=
  pe_mono (pe_bm0 PySem.F.plainAttrs_list slot hty hm (pe_var hN hv hd1 hcd) hbase hline) fun σ H Q h => by
    obtain ⟨v, hs, ty, q⟩ := lift_meth (K := X.K) hd h
    exact ⟨v, hs, ty, lift_nil q⟩
end
def gAppend : PyData → List PyData → Option (PyData × PyData)
  | .list xs, [y] => if lenOk (xs.length + 1) then some (.list (xs ++ [y]), .none) else none
  | _, _ => none
def gPop : PyData → List PyData → Option (PyData × PyData)
  | .list xs, [] => match xs[xs.length - 1]? with
    | some y => some (.list xs.dropLast, y)
    | none => none
  | _, _ => none
def gPopAt : PyData → List PyData → Option (PyData × PyData)
  | .list xs, [.int i] => if decide (-(2 ^ 62) ≤ i) && decide (i < 2 ^ 62) then match ixN xs.length i with
    | some j => match xs[j]? with
      | some y => some (.list (xs.eraseIdx j), y)
      | none => none
    | none => none else none
  | _, _ => none
def gInsert : PyData → List PyData → Option (PyData × PyData)
  | .list xs, [.int i, y] => if lenOk (xs.length + 1) && decide (0 ≤ i) && decide (i < 2 ^ 62) then some (.list (xs.take i.toNat ++ [y] ++ xs.drop i.toNat), .none) else none
  | _, _ => none
def gExtend : PyData → List PyData → Option (PyData × PyData)
  | .list xs, [.list ys] => if lenOk (xs.length + ys.length) then some (.list (xs ++ ys), .none) else none
  | _, _ => none
def gReverse : PyData → List PyData → Option (PyData × PyData)
  | .list xs, [] => some (.list xs.reverse, .none)
  | _, _ => none
section
variable {F : Addr → Prop} {H : Hp} {o : HO} {ds : List PyData} {vs : List V} {d e : PyData}
theorem Parts.list' (h : Parts F H o (.list ds)) : ∃ xs, o = .lst xs ∧ RepAll F H xs ds := by
  cases o <;> first | exact ⟨_, rfl, h⟩ | exact h.elim
theorem RepAll.one (h : RepAll F H vs [d]) : ∃ v, vs = [v] ∧ Rep F H v d := by
  cases h with | cons a t => cases t; exact ⟨_, rfl, a⟩
theorem RepAll.two (h : RepAll F H vs [d, e]) : ∃ v w, vs = [v, w] ∧ Rep F H v d ∧ Rep F H w e := by
  cases h with | cons a t => cases t with | cons b t => cases t; exact ⟨_, _, rfl, a, b⟩
theorem RepAll.zero (h : RepAll F H vs []) : vs = [] := by cases h; rfl
theorem md_append : MethD rAppend gAppend := by
  intro F H a o vs d ds d' c Q ha p r e k
  match d, ds, e with
  | .list xs, [y], e =>
    simp only [gAppend] at e
    split at e
    · rename_i hl
      cases e
      obtain ⟨ys, rfl, q⟩ := p.list'
      obtain ⟨v, rfl, rv⟩ := r.one
      have := lenOk_le hl
      exact ⟨a, ys, v, rfl, rfl, ha, by rw [q.length]; omega, k (.lst (ys ++ [v])) .non (q.append (.cons rv .nil)) .non⟩
    · cases e
theorem md_pop : MethD rPop gPop := by
  intro F H a o vs d ds d' c Q ha p r e k
  match d, ds, e with
  | .list xs, [], e =>
    simp only [gPop] at e
    split at e
    · rename_i y hy
      cases e
      obtain ⟨ys, rfl, q⟩ := p.list'
      obtain rfl := r.zero
      obtain ⟨v, h1, h2⟩ := q.get hy
      exact ⟨a, ys, v, rfl, rfl, ha, by rw [q.length]; exact h1, k (.lst ys.dropLast) v q.dropLast h2⟩
    · cases e
theorem md_popAt : MethD rPopAt gPopAt := by
  intro F H a o vs d ds d' c Q ha p r e k
  match d, ds, e with
  | .list xs, [.int i], e =>
    simp only [gPopAt] at e
    split at e
    · rename_i hb
      rw [Bool.and_eq_true] at hb
      have b1 := of_decide_eq_true hb.1
      have b2 := of_decide_eq_true hb.2
      split at e
      · rename_i j hj
        split at e
        · rename_i y hy
          cases e
          obtain ⟨ys, rfl, q⟩ := p.list'
          obtain ⟨v, rfl, rv⟩ := r.one
          cases rv
          obtain ⟨v, h1, h2⟩ := q.get hy
          exact ⟨a, ys, i, j, v, rfl, rfl, ha, by omega, by omega, by rw [q.length]; exact (ixN_seq hj).1, h1, k (.lst (ys.eraseIdx j)) v (q.eraseIdx j) h2⟩
        · cases e
      · cases e
    · cases e
theorem md_insert : MethD (fun x vs H Q => ∃ (l : Addr) (xs : List V) (i : Int) (y : V), x = .ref l ∧ vs = [.int i, y] ∧ H l = some (.lst xs) ∧ xs.length < sizeLine ∧ 0 ≤ i ∧ i < 2 ^ 63 ∧ Q .non (upd H l (.lst (xs.take i.toNat ++ [y] ++ xs.drop i.toNat)))) gInsert := by
  intro F H a o vs d ds d' c Q ha p r e k
  match d, ds, e with
  | .list xs, [.int i, y], e =>
    simp only [gInsert] at e
    split at e
    · rename_i hb
      rw [Bool.and_eq_true, Bool.and_eq_true] at hb
      have b1 := lenOk_le hb.1.1
      have b2 := of_decide_eq_true hb.1.2
      have b3 := of_decide_eq_true hb.2
      cases e
      obtain ⟨ys, rfl, q⟩ := p.list'
      obtain ⟨v, w, rfl, rv, rw'⟩ := r.two
      cases rv
      exact ⟨a, ys, i, w, rfl, rfl, ha, by rw [q.length]; omega, b2, by omega, k (.lst (ys.take i.toNat ++ [w] ++ ys.drop i.toNat)) .non (((q.take _).append (.cons rw' .nil)).append (q.drop _)) .non⟩
    · cases e
/-- xs.extend(ys), ys whatever may be read -/
def rExtA : V → List V → Hp → VK → Prop := fun x vs H Q => ∃ l b xs zs, x = .ref l ∧ vs = [.ref b] ∧ H l = some (.lst xs) ∧ Rd H b (.lst zs) ∧ xs.length + zs.length ≤ sizeLine ∧ Q .non (upd H l (.lst (xs ++ zs)))
theorem mt_extA {X : Cx} : MtM X "list.extend" rExtA := by
  intro pins s σ H x vs v us Q I rx rv h
  obtain ⟨l, b, xs, zs, rfl, rfl, hH, hB, hz, q⟩ := h
  cases rx
  obtain ⟨u, rfl, ru⟩ := rv.one
  cases ru
  obtain ⟨z1, its, n, r1, hl, e1⟩ := I.lstM hH
  obtain ⟨z2, its2, n2, r2, hl2, e2⟩ := lst_rd I hB
  have hsz : its.toArray.size + its2.toArray.size ≤ sizeLine := by simp only [List.size_toArray]; omega
  have hlong : ¬ (!its.toArray.isEmpty && Builtin.List.listTooLong (its.toArray.size + its2.toArray.size)) = true := by rw [notLongL hsz]; simp
  refine call_meets F.slot_list_extend ⟨_, e1, rfl⟩ F.entry_list_extend (F.args_list_extend_2 _ _) (AutoSeq1.list_extend_list_list_0 l its.toArray n b its2.toArray n2 hlong (by simp only [List.size_toArray]; omega) (by omega)) ⟨e1, e2, ?_⟩
  exact ⟨.non, _, I.lset (its' := its ++ its2) hH e1 (by simp) (r1.append r2) (by rw [List.length_append]; omega), rfl, q⟩
theorem md_extend : MethD rExtA gExtend := by
  intro F H a o vs d ds d' c Q ha p r e k
  match d, ds, e with
  | .list xs, [.list ys], e =>
    simp only [gExtend] at e
    split at e
    · rename_i hl
      cases e
      obtain ⟨zs, rfl, q⟩ := p.list'
      obtain ⟨v, rfl, rv⟩ := r.one
      obtain ⟨b, ws, rfl, rd, rq⟩ := rv.top.list'
      exact ⟨a, b, zs, ws, rfl, rfl, ha, rd, by rw [q.length, rq.length]; exact lenOk_le hl, k (.lst (zs ++ ws)) .non (q.append rq) .non⟩
    · cases e
theorem md_reverse : MethD rReverse gReverse := by
  intro F H a o vs d ds d' c Q ha p r e k
  match d, ds, e with
  | .list xs, [], e =>
    cases e
    obtain ⟨ys, rfl, q⟩ := p.list'
    obtain rfl := r.zero
    exact ⟨a, ys, rfl, rfl, ha, k (.lst ys.reverse) .non q.reverse .non⟩
end

/-! ### statements -/
inductive Fl where
  | nx | bk | ct | rt (c : Cell)
structure AftS (C : Ctx) (G : List Addr) (ρ : Env') (σ : L2.St) (H : Hp) (G' : List Addr) (ρ' : Env') (σ' : L2.St) (H' : Hp) : Prop where
  rs : RS C G' ρ' σ' H'
  fr : Fr C ρ σ H H'
  gx : ∀ a ∈ G', a ∈ G ∨ H a = none
  ox : ∀ b, OwnSl ρ' σ' b → OwnSl ρ σ b ∨ H b = none
  lk : ∀ (i : Nat) (d : PyData), ρ'[i]? = some (some (.lck d)) → ρ[i]? = some (some (.lck d)) ∧ σ'[i]? = σ[i]?
def RetOk (C : Ctx) (H : Hp) (v : V) : Cell → Prop
  | .val d => Rep C.F0 H v d ∧ C.Src C.FS H
  | .own d => ∃ a, v = .ref a ∧ C.H0 a = none ∧ ¬ C.F0 a ∧ OwnOk (fun b => C.F0 b ∨ b = a) H a d ∧ C.Src (fun b => C.FS b ∨ b = a) H
  | _ => False
structure RetPost (C : Ctx) (H : Hp) (v : V) (c : Cell) : Prop where
  frame : ∀ b o, C.H0 b = some o → ¬ C.S b → H b = some o
  ok : RetOk C H v c
def endOf (D : Ends) : Fl → L2.St → Hp → Prop
  | .nx => D.nx
  | .bk => D.bk
  | .ct => D.ct
  | .rt _ => fun _ _ => True
def liftS (f : M Fl) : TS := fun D σ H => ∃ C G ρ, RS C G ρ σ H ∧ Tot f ρ ∧ (∀ fl ρ' G' σ' H', Can f ρ fl ρ' → AftS C G ρ σ H G' ρ' σ' H' → endOf D fl σ' H') ∧ ∀ c ρ' v H', Can f ρ (.rt c) ρ' → RetPost C H' v c → D.rt v H'
section
variable {C : Ctx} {G G' G2 : List Addr} {ρ ρ' ρ2 : Env'} {σ σ' σ2 : L2.St} {H H' H2 : Hp}
theorem AftS.refl (R : RS C G ρ σ H) : AftS C G ρ σ H G ρ σ H := ⟨R, Fr.refl, fun _ h => .inl h, fun _ h => .inl h, fun _ _ e => ⟨e, rfl⟩⟩
theorem there_none (f : ∀ b, H b ≠ none → H' b ≠ none) {b : Addr} (h : H' b = none) : H b = none := by
  cases e : H b with
  | none => rfl
  | some o => exact absurd h (f b (by rw [e]; simp))
theorem AftS.trans (h : AftS C G ρ σ H G' ρ' σ' H') (k : AftS C G' ρ' σ' H' G2 ρ2 σ2 H2) : AftS C G ρ σ H G2 ρ2 σ2 H2 where
  rs := k.rs
  fr := ⟨fun b o e ns no => k.fr.keep b o (h.fr.keep b o e ns no) ns (fun z => (h.ox b z).elim no fun q => (by rw [e] at q; cases q)), fun b e => k.fr.there b (h.fr.there b e)⟩
  gx := fun a z => (k.gx a z).elim (h.gx a) fun q => .inr (there_none h.fr.there q)
  ox := fun b z => (k.ox b z).elim (h.ox b) fun q => .inr (there_none h.fr.there q)
  lk := fun i d e => by
    obtain ⟨e1, q1⟩ := k.lk i d e
    obtain ⟨e2, q2⟩ := h.lk i d e1
    exact ⟨e2, q1.trans q2⟩
theorem Aft.aftS (h : Aft C G ρ σ H G' ρ' H') : AftS C G ρ σ H G' ρ' σ H' := ⟨h.rs, h.fr, h.gx.2, fun b z => .inl (h.sh.ownSl z), fun i d e => ⟨h.sh.lck e, rfl⟩⟩
end
end DL
set_option Elab.async false
set_option linter.all false
set_option maxRecDepth 100000
set_option maxHeartbeats 1000000
/-! Part 8: blocks, assignments, returns, loops. -/
namespace DL
open PySem PySem.Spec L2
variable [Fam]

def sSeq (f g : M Fl) : M Fl := bnd f fun fl => match fl with
  | .nx => g
  | x => ret x
def sNx : M Fl := ret .nx
def sBk : M Fl := ret .bk
def sCt : M Fl := ret .ct
def sIf (t : M Bool) (f g : M Fl) : M Fl := bnd t fun b => if b then f else g
def sDrop (f : M RC) : M Fl := bnd f fun _ => ret .nx
/-- what a name is to hold -/
def cellOf : RC → Option Cell
  | .val d => some (.val d)
  | .own d => some (.own d)
  | .src => some .src
  | .brw _ => none
def putC (i : Nat) (c : Cell) : M Unit := fun ρ ω => if Nat.ble (i + 1) ρ.length then some ((), ρ.set i (some c), ω) else none
def sSet (i : Nat) (f : M RC) : M Fl := bnd f fun c => bnd (opt (cellOf c)) fun c' => bnd (putC i c') fun _ => ret .nx
/-- what a def hands back -/
def retCell (ρ : Env') : RC → Option Cell
  | .val d => some (.val d)
  | .own d => some (.own d)
  | .brw i => match ρ[i]? with
    | some (some (.own d)) => some (.own d)
    | some (some (.lck d)) => some (.own d)
    | _ => none
  | .src => none
def nowCell (c : RC) : M Cell := fun ρ ω => match retCell ρ c with
  | some x => some (x, ρ, ω)
  | none => none
def sRet (f : M RC) : M Fl := bnd f fun c => bnd (nowCell c) fun x => ret (.rt x)
def sRetN : M Fl := ret (.rt (.val .none))
section
variable {X : Cx} {st : Stmt} {rest : List Stmt} {e : Expr} {f g : M Fl} {fe : M RC} {t : M Bool} {pos : Pos} {D : Ends} {σ : L2.St} {H : Hp}
theorem lift_seq (h : liftS (sSeq f g) D σ H) : tSeq (liftS f) (liftS g) D σ H := by
  obtain ⟨C, G, ρ, R, T, k, kr⟩ := h
  refine ⟨C, G, ρ, R, T.fst, fun fl ρ1 G1 σ1 H1 cn A => ?_, fun c ρ1 v H1 cn rp => kr c ρ1 v H1 (cn.bnd Can.ret) rp⟩
  cases fl with
  | nx => exact ⟨C, G1, ρ1, A.rs, T.snd cn, fun fl ρ2 G2 σ2 H2 cn2 A2 => k fl ρ2 G2 σ2 H2 (cn.bnd cn2) (A.trans A2), fun c ρ2 v H2 cn2 rp => kr c ρ2 v H2 (cn.bnd cn2) rp⟩
  | bk => exact k .bk ρ1 G1 σ1 H1 (cn.bnd Can.ret) A
  | ct => exact k .ct ρ1 G1 σ1 H1 (cn.bnd Can.ret) A
  | rt c => trivial
theorem lift_nx (h : liftS sNx D σ H) : tNext D σ H := by
  obtain ⟨C, G, ρ, R, T, k, kr⟩ := h
  exact k .nx ρ G σ H Can.ret (.refl R)
theorem dss_nil : PSs X [] (liftS sNx) := pss_mono pss_nil fun _ _ _ h => lift_nx h
theorem dss_cons (h1 : PS X st (liftS f)) (h2 : PSs X rest (liftS g)) : PSs X (st :: rest) (liftS (sSeq f g)) := pss_mono (pss_cons h1 h2) fun _ _ _ h => lift_seq h
theorem dss_one (h1 : PS X st (liftS f)) : PSs X [st] (liftS f) := pss_one h1
theorem ds_pass : PS X (.Pass pos) (liftS sNx) := ps_mono ps_pass fun _ _ _ h => lift_nx h
theorem ds_doc {x : Str} {j : Nat} {pos' : Pos} : PS X (.Expr (.Constant (.str x) j pos) pos') (liftS sNx) := ps_mono ps_doc fun _ _ _ h => lift_nx h
theorem ds_break : PS X (.Break pos) (liftS sBk) := ps_mono ps_break fun D σ H h => by
  obtain ⟨C, G, ρ, R, T, k, kr⟩ := h
  exact k .bk ρ G σ H Can.ret (.refl R)
theorem ds_continue : PS X (.Continue pos) (liftS sCt) := ps_mono ps_continue fun D σ H h => by
  obtain ⟨C, G, ρ, R, T, k, kr⟩ := h
  exact k .ct ρ G σ H Can.ret (.refl R)
/-- code that is never come to -/
theorem ds_never : PS X st (liftS fail) := ps_mono ps_never fun D σ H h => by
  obtain ⟨C, G, ρ, R, T, k, kr⟩ := h
  exact T.fail.elim
theorem dss_never {sts : List Stmt} : PSs X sts (liftS fail) := pss_mono pss_never fun D σ H h => by
  obtain ⟨C, G, ρ, R, T, k, kr⟩ := h
  exact T.fail.elim
theorem ds_expr (he : PE X e (liftE fe)) (hs : swapsWith e none pos.line X.env = pure false := by rfl) : PS X (.Expr e pos) (liftS (sDrop fe)) := ps_mono (ps_expr he hs) fun D σ H h => by
  obtain ⟨C, G, ρ, R, T, k, kr⟩ := h
  exact ⟨C, G, ρ, R, T.fst, fun c ρ1 G1 v H1 cn A p n => k .nx ρ1 G1 σ H1 (cn.bnd Can.ret) A.aftS⟩
theorem ds_if {c : Expr} {a b : List Stmt} (hc : PT X c (liftT t)) (ha : PSs X a (liftS f)) (hb : PSs X b (liftS g)) : PS X (.If c a b pos) (liftS (sIf t f g)) := ps_mono (ps_if hc ha hb) fun D σ H h => by
  obtain ⟨C, G, ρ, R, T, k, kr⟩ := h
  refine ⟨C, G, ρ, R, T.fst, fun b ρ1 G1 H1 cn A => ?_⟩
  cases b with
  | true => exact ⟨C, G1, ρ1, A.rs, T.snd cn, fun fl ρ2 G2 σ2 H2 cn2 A2 => k fl ρ2 G2 σ2 H2 (cn.bnd cn2) (A.aftS.trans A2), fun c ρ2 v H2 cn2 rp => kr c ρ2 v H2 (cn.bnd cn2) rp⟩
  | false => exact ⟨C, G1, ρ1, A.rs, T.snd cn, fun fl ρ2 G2 σ2 H2 cn2 A2 => k fl ρ2 G2 σ2 H2 (cn.bnd cn2) (A.aftS.trans A2), fun c ρ2 v H2 cn2 rp => kr c ρ2 v H2 (cn.bnd cn2) rp⟩
end

/-! ### a name is set -/
section
variable {C : Ctx} {G : List Addr} {ρ : Env'} {σ : L2.St} {H : Hp} {i : Nat} {v : V} {c : RC} {c' : Cell}
theorem Tot.putC (h : Tot (putC i c') ρ) : i < ρ.length := by
  obtain ⟨r, e⟩ := h (fun _ => 0)
  simp only [DL.putC] at e
  split at e
  · rename_i hb; exact Nat.le_of_ble_eq_true hb
  · cases e
theorem Can.putC (h : i < ρ.length) : Can (putC i c') ρ () (ρ.set i (some c')) := fun ω => ⟨ω, by
  simp only [DL.putC]
  rw [if_pos (show Nat.ble (i + 1) (List.length ρ) = true from Nat.ble_eq_true_of_le h)]⟩
theorem set_at {α : Type} {l : List (Option α)} {i j : Nat} {x y : α} (h : (l.set i (some x))[j]? = some (some y)) : (j = i ∧ y = x) ∨ (j ≠ i ∧ l[j]? = some (some y)) := by
  by_cases e : j = i
  · subst e
    by_cases hl : j < l.length
    · rw [List.getElem?_set_self hl] at h
      cases h
      exact .inl ⟨rfl, rfl⟩
    · rw [List.getElem?_eq_none (by rw [List.length_set]; omega)] at h
      cases h
  · rw [List.getElem?_set_ne (Ne.symm e)] at h
    exact .inr ⟨e, h⟩
/-- the slot i takes what waits; H0: the heap ahead of which all that is made for itself is new -/
theorem AftS.put {H0 : Hp} (R : RS C G ρ σ H) (p : Pend C G ρ σ H v c) (hc : cellOf c = some c') (hi : i < ρ.length) : RS C G (ρ.set i (some c')) (σ.set i (some v)) H ∧ (∀ b, OwnSl (ρ.set i (some c')) (σ.set i (some v)) b → OwnSl ρ σ b ∨ (∃ d, c = .own d ∧ v = .ref b)) ∧
    ∀ (j : Nat) (d : PyData), (ρ.set i (some c'))[j]? = some (some (.lck d)) → ρ[j]? = some (some (.lck d)) ∧ (σ.set i (some v))[j]? = σ[j]? := by
  have hl : i < σ.length := by rw [R.len]; exact hi
  have sg : ∀ {j : Nat}, j ≠ i → (σ.set i (some v))[j]? = σ[j]? := fun h => List.getElem?_set_ne (Ne.symm h)
  have nex : ∀ {j : Nat}, j ≠ i → ExAt (ρ.set i (some c')) j → ExAt ρ j := fun {j} n ⟨x, e, q⟩ => ⟨x, by rwa [List.getElem?_set_ne (Ne.symm n)] at e, q⟩
  have own : ExAt (ρ.set i (some c')) i → ∃ d, c = .own d ∧ c' = .own d := fun ⟨x, e, q⟩ => by
    rw [List.getElem?_set_self hi] at e
    cases e
    cases c <;> simp [cellOf] at hc <;> subst hc <;> first | exact ⟨_, rfl, rfl⟩ | cases q
  refine ⟨⟨by simp [R.len], R.frame, R.gs, R.src, fun j x e => ?_, fun j k w n hj hk e1 e2 => ?_⟩, fun b ⟨j, ⟨d, e⟩, e2⟩ => ?_, fun j d e => ?_⟩
  · rcases set_at e with ⟨rfl, rfl⟩ | ⟨n, e⟩
    · refine ⟨v, List.getElem?_set_self hl, ?_⟩
      cases c with
      | val d => simp only [cellOf, Option.some.injEq] at hc; subst hc; exact p
      | own d =>
        simp only [cellOf, Option.some.injEq] at hc; subst hc
        obtain ⟨a, e, g, ns, ok⟩ := p
        exact ⟨a, e, g, ok⟩
      | src => simp only [cellOf, Option.some.injEq] at hc; subst hc; exact p
      | brw k => cases hc
    · obtain ⟨w, hw, s⟩ := R.slot j x e
      exact ⟨w, by rw [sg n]; exact hw, s⟩
  · by_cases a1 : j = i
    · subst a1
      rw [List.getElem?_set_self hl] at e1
      cases e1
      rw [sg (Ne.symm n)] at e2
      obtain ⟨d, rfl, _⟩ := own hj
      obtain ⟨a, rfl, g, ns, ok⟩ := p
      exact ns ⟨k, nex (Ne.symm n) hk, e2⟩
    · by_cases a2 : k = i
      · subst a2
        rw [List.getElem?_set_self hl] at e2
        cases e2
        rw [sg a1] at e1
        obtain ⟨d, rfl, _⟩ := own hk
        obtain ⟨a, rfl, g, ns, ok⟩ := p
        exact ns ⟨j, nex a1 hj, e1⟩
      · rw [sg a1] at e1
        rw [sg a2] at e2
        exact R.sep j k w n (nex a1 hj) (nex a2 hk) e1 e2
  · by_cases a1 : j = i
    · subst a1
      rw [List.getElem?_set_self hl] at e2
      cases e2
      obtain ⟨d', h1, _⟩ := own ⟨_, e, rfl⟩
      exact .inr ⟨d', h1, rfl⟩
    · rw [sg a1] at e2
      rw [List.getElem?_set_ne (Ne.symm a1)] at e
      exact .inl ⟨j, ⟨d, e⟩, e2⟩
  · rcases set_at e with ⟨rfl, h⟩ | ⟨n, e⟩
    · subst h
      cases c <;> simp [cellOf] at hc
    · exact ⟨e, sg n⟩
theorem New.at {H : Hp} {b : Addr} {d : PyData} (n : New H (.ref b) (.own d)) : H b = none := by
  obtain ⟨a, e, q⟩ := n
  cases e
  exact q
end
section
variable {X : Cx} {i : Nat} {x : Str} {e : Expr} {fe : M RC} {pos pos' : Pos} {D : Ends} {σ : L2.St} {H : Hp}
theorem lift_set (h : liftS (sSet i fe) D σ H) : tAsg (liftE fe) (gName i) D σ H := by
  obtain ⟨C, G, ρ, R, T, k, kr⟩ := h
  refine ⟨C, G, ρ, R, T.fst, fun c ρ1 G1 v H1 cn A p n => ?_⟩
  have T1 := T.snd cn
  obtain ⟨c', ec⟩ := T1.fst.opt
  have T2 := T1.snd (a := c') (by rw [ec]; exact Can.opt)
  have hi := T2.fst.putC
  obtain ⟨R2, o2, l2⟩ := AftS.put (H0 := H) A.rs p ec hi
  have A1 := A.aftS
  refine k .nx _ G1 _ H1 (cn.bnd (Can.bnd (a := c') (by rw [ec]; exact Can.opt) ((Can.putC hi).bnd Can.ret))) ⟨R2, A.fr, A.gx.2, fun b z => ?_, fun j d z => ?_⟩
  · rcases o2 b z with z | ⟨d, rfl, rfl⟩
    · exact A1.ox b z
    · exact .inr n.at
  · obtain ⟨e1, q1⟩ := l2 j d z
    obtain ⟨e2, q2⟩ := A1.lk j d e1
    exact ⟨e2, q1.trans q2⟩
theorem ds_set (i : Nat) (hN : X.N.Nodup) (he : PE X e (liftE fe)) (hi : X.N[i]? = some x := by rfl) (hx : Loc X.env.scope x := by first | exact Or.inl rfl | exact Or.inr rfl) (hs : swapsWith e (some (.Name x pos')) pos.line X.env = pure false := by rfl) (hf : X.fn x = true ∨ X.env.scope.names.lookup x = some .local := by first | exact .inl rfl | exact .inr rfl | assumption) :
    PS X (.Assign [.Name x pos'] e pos) (liftS (sSet i fe)) := ps_mono (ps_set hN hi hx he hs hf) fun _ _ _ h => lift_set h

/-! ### return -/
theorem Tot.nowCell {ρ : Env'} {c : RC} (h : Tot (nowCell c) ρ) : ∃ x, retCell ρ c = some x := by
  obtain ⟨r, e⟩ := h (fun _ => 0)
  simp only [DL.nowCell] at e
  split at e
  · rename_i y hy; exact ⟨y, hy⟩
  · cases e
theorem Can.nowCell {ρ : Env'} {c : RC} {x : Cell} (h : retCell ρ c = some x) : Can (nowCell c) ρ x ρ := fun ω => ⟨ω, by simp only [DL.nowCell, h]⟩
theorem ret_own {C : Ctx} {G : List Addr} {ρ : Env'} {a : Addr} {d : PyData} (R : RS C G ρ σ H) (hG : a ∈ G) (ok : OwnOk (Fb C G) H a d) : RetOk C H (.ref a) (.own d) := by
  have hk : ∀ b o, H b = some o → ¬ Fb C G b → ¬ (C.F0 b ∨ b = a) ∧ H b = some o := fun b o e n => ⟨fun z => n (z.imp id (fun (z : b = a) => z ▸ hG)), e⟩
  obtain ⟨g1, g2, g3⟩ := R.gs a hG
  exact ⟨a, rfl, g1, g2, ok.to hk fun _ h => h, C.mono _ _ _ (fun b z => z.imp id (fun (z : b = a) => z ▸ hG)) R.src⟩
theorem ret_ok {C : Ctx} {G : List Addr} {ρ : Env'} {v : V} {c : RC} {x : Cell} (R : RS C G ρ σ H) (p : Pend C G ρ σ H v c) (e : retCell ρ c = some x) : RetPost C H v x := by
  refine ⟨R.frame, ?_⟩
  cases c with
  | val d =>
    cases e
    exact ⟨Rep.to (fun b o h n => ⟨fun z => n (.inl z), h⟩) p, C.mono _ _ _ (fun _ z => .inl z) R.src⟩
  | own d =>
    cases e
    obtain ⟨a, rfl, hG, ns, ok⟩ := p
    exact ret_own R hG ok
  | brw i =>
    obtain ⟨hv, ex⟩ := p
    obtain ⟨a, d, hs, hG, ok, q⟩ := R.ex ex
    rw [hv] at hs; cases hs
    rcases q with q | q <;> (simp only [retCell, q, Option.some.injEq] at e; subst e; exact ret_own R hG ok)
  | src => cases e
theorem ds_ret (he : PE X e (liftE fe)) : PS X (.Return (some e) pos) (liftS (sRet fe)) := ps_mono (ps_ret he) fun D σ H h => by
  obtain ⟨C, G, ρ, R, T, k, kr⟩ := h
  refine ⟨C, G, ρ, R, T.fst, fun c ρ1 G1 v H1 cn A p n => ?_⟩
  obtain ⟨x, ex⟩ := (T.snd cn).fst.nowCell
  exact kr x ρ1 v H1 (cn.bnd ((Can.nowCell ex).bnd Can.ret)) (ret_ok A.rs p ex)
theorem ds_retN : PS X (.Return none pos) (liftS sRetN) := ps_mono ps_retN fun D σ H h => by
  obtain ⟨C, G, ρ, R, T, k, kr⟩ := h
  exact kr (.val .none) ρ .non H Can.ret ⟨R.frame, .non, C.mono _ _ _ (fun _ z => .inl z) R.src⟩
end
end DL
set_option Elab.async false
set_option linter.all false
set_option maxRecDepth 100000
set_option maxHeartbeats 1000000
/-! Part 9: targets, what is walked, for, while, comprehensions. -/
namespace DL
open PySem PySem.Spec L2
variable [Fam]

/-! ### targets -/
/-- only the names js are stored, nothing is made common -/
structure Only (js : List Nat) (G : List Addr) (ρ : Env') (σ : L2.St) (G' : List Addr) (ρ' : Env') (σ' : L2.St) : Prop where
  len : σ'.length = σ.length
  at_ : ∀ j, j ∉ js → ρ'[j]? = ρ[j]? ∧ σ'[j]? = σ[j]?
  gs : ∀ a ∈ G, a ∈ G'
theorem Only.trans {a b : List Nat} {G G' G2 : List Addr} {ρ ρ' ρ2 : Env'} {σ σ' σ2 : L2.St} (h : Only a G ρ σ G' ρ' σ') (k : Only b G' ρ' σ' G2 ρ2 σ2) : Only (a ++ b) G ρ σ G2 ρ2 σ2 :=
  ⟨k.len.trans h.len, fun j n => by
    rw [List.mem_append, not_or] at n
    exact ⟨((k.at_ j n.2).1).trans (h.at_ j n.1).1, ((k.at_ j n.2).2).trans (h.at_ j n.1).2⟩, fun x z => k.gs x (h.gs x z)⟩
theorem Only.refl {G : List Addr} {ρ : Env'} {σ : L2.St} : Only [] G ρ σ G ρ σ := ⟨rfl, fun _ _ => ⟨rfl, rfl⟩, fun _ h => h⟩
def liftG (js : List Nat) (g : PyData → M Unit) : TG := fun v σ H Q => ∃ C G ρ d, RS C G ρ σ H ∧ Rep (Fb C G) H v d ∧ Tot (g d) ρ ∧ ∀ ρ' G' σ' H', Can (g d) ρ () ρ' → AftS C G ρ σ H G' ρ' σ' H' → Only js G ρ σ G' ρ' σ' → Q σ' H'
def liftGs (js : List Nat) (g : List PyData → M Unit) : TGs := fun vs σ H Q => ∃ C G ρ ds, RS C G ρ σ H ∧ RepAll (Fb C G) H vs ds ∧ Tot (g ds) ρ ∧ ∀ ρ' G' σ' H', Can (g ds) ρ () ρ' → AftS C G ρ σ H G' ρ' σ' H' → Only js G ρ σ G' ρ' σ' → Q σ' H'
def gN (i : Nat) (d : PyData) : M Unit := putC i (.val d)
def gsNil : List PyData → M Unit
  | [] => ret ()
  | _ => fail
def gsCons (g : PyData → M Unit) (r : List PyData → M Unit) : List PyData → M Unit
  | d :: ds => bnd (g d) fun _ => r ds
  | [] => fail
def gT (n : Nat) (r : List PyData → M Unit) : PyData → M Unit
  | .tuple ds => if ds.length = n then r ds else fail
  | _ => fail
section
variable {X : Cx} {i : Nat} {x : Str} {pos : Pos} {e : Expr} {es : List Expr} {g : PyData → M Unit} {r : List PyData → M Unit}
theorem pg_mono {t t' : TG} (h : PG X e t) (k : ∀ v σ H Q, t' v σ H Q → t v σ H Q) : PG X e t' := ⟨fun pins s σ H v u Q I rv q => h.run pins s σ H v u Q I rv (k v σ H Q q)⟩
theorem pgs_mono {t t' : TGs} (h : PGs X es t) (k : ∀ v σ H Q, t' v σ H Q → t v σ H Q) : PGs X es t' := ⟨fun pins s σ H v u Q I rv q => h.run pins s σ H v u Q I rv (k v σ H Q q)⟩
theorem put_val {C : Ctx} {G : List Addr} {ρ : Env'} {σ : L2.St} {H : Hp} {v : V} {d : PyData} (R : RS C G ρ σ H) (rv : Rep (Fb C G) H v d) (hi : i < ρ.length) : AftS C G ρ σ H G (ρ.set i (some (.val d))) (σ.set i (some v)) H := by
  obtain ⟨R2, o2, l2⟩ := AftS.put (H0 := H) (c := .val d) R rv rfl hi
  exact ⟨R2, Fr.refl, fun _ h => .inl h, fun b z => (o2 b z).elim .inl (fun ⟨_, q, _⟩ => by cases q), l2⟩
theorem dg_name (i : Nat) (hN : X.N.Nodup) (hi : X.N[i]? = some x := by rfl) (hx : Loc X.env.scope x := by first | exact Or.inl rfl | exact Or.inr rfl) (hf : X.fn x = true ∨ X.env.scope.names.lookup x = some .local := by first | exact .inl rfl | exact .inr rfl | assumption) : PG X (.Name x pos) (liftG [i] (gN i)) :=
  pg_mono (pg_name hN hi hx hf) fun v σ H Q h => by
    obtain ⟨C, G, ρ, d, R, rv, T, k⟩ := h
    have hil := T.putC
    exact k _ G _ H (Can.putC hil) (put_val R rv hil) ⟨by simp, fun j n => by
      have n' : i ≠ j := fun z => n (by simp [z])
      exact ⟨List.getElem?_set_ne n', List.getElem?_set_ne n'⟩, fun _ h => h⟩
theorem dgs_nil : PGs X [] (liftGs [] gsNil) := pgs_mono pgs_nil fun v σ H Q h => by
  obtain ⟨C, G, ρ, ds, R, rv, T, k⟩ := h
  cases rv with
  | nil => exact ⟨rfl, k ρ G σ H Can.ret (.refl R) .refl⟩
  | cons _ _ => exact T.fail.elim
theorem carryS (R : RS C G ρ σ H) (A : AftS C G ρ σ H G' ρ' σ' H') : ∀ b o, H b = some o → ¬ Fb C G b → ¬ Fb C G' b ∧ H' b = some o := fun b o e n => by
  refine ⟨fun z => ?_, A.fr.keep b o e (fun z => n (.inl (C.sub b z))) fun z => n (.inr (R.exG z.ex))⟩
  rcases z with z | z
  · exact n (.inl z)
  · rcases A.gx b z with q | q
    · exact n (.inr q)
    · rw [e] at q; cases q
theorem dgs_cons {j1 j2 : List Nat} (h1 : PG X e (liftG j1 g)) (h2 : PGs X es (liftGs j2 r)) (hs : (assignEach (e :: es) X.env).map (·.2) = assign e X.env :: (assignEach es X.env).map (·.2) := by rfl) : PGs X (e :: es) (liftGs (j1 ++ j2) (gsCons g r)) := pgs_mono (pgs_cons h1 h2 hs) fun vs σ H Q h => by
  obtain ⟨C, G, ρ, ds, R, rv, T, k⟩ := h
  cases rv with
  | nil => exact T.fail.elim
  | cons q t =>
    refine ⟨_, _, rfl, C, G, ρ, _, R, q, T.fst, fun ρ1 G1 σ1 H1 cn A o1 => ?_⟩
    exact ⟨C, G1, ρ1, _, A.rs, t.to (carryS R A), T.snd cn, fun ρ2 G2 σ2 H2 cn2 A2 o2 => k ρ2 G2 σ2 H2 (cn.bnd cn2) (A.trans A2) (o1.trans o2)⟩
theorem dg_tup {js : List Nat} {kk n : Nat} (hc : X.calm = true) (h : PGs X es (liftGs js r)) (hn : (assignEach es X.env).length = n := by rfl) (hst : (assignEach es X.env).findIdx? (·.1) = none := by rfl) : PG X (.Tuple es kk pos) (liftG js (gT n r)) := pg_mono (pg_tup hc h hn hst) fun v σ H Q h => by
  obtain ⟨C, G, ρ, d, R, rv, T, k⟩ := h
  cases d with
  | tuple ds =>
    obtain ⟨a, xs, rfl, nf, rd, p⟩ := rv.tuple'
    by_cases hl : ds.length = n
    · simp only [gT, if_pos hl] at T k
      exact ⟨a, xs, rfl, .inl rd, by rw [p.length]; exact hl, C, G, ρ, ds, R, p, T, k⟩
    · simp only [gT, if_neg hl] at T
      exact T.fail.elim
  | _ => exact T.fail.elim
/-- target = value, the value common -/
def sAsg (f : M RC) (g : PyData → M Unit) : M Fl := bnd f fun c => bnd (opt (esc c)) fun d => bnd (g d) fun _ => ret .nx
theorem esc_one {C : Ctx} {G G' : List Addr} {ρ ρ' : Env'} {σ : L2.St} {H H' : Hp} {v : V} {c : RC} {d : PyData} (R0 : RS C G ρ σ H) (A : Aft C G ρ σ H G' ρ' H') (p : Pend C G' ρ' σ H' v c) (n : New H v c) (e : esc c = some d) : ∃ G'', Aft C G ρ σ H G'' ρ' H' ∧ Rep (Fb C G'') H' v d := by
  obtain ⟨G2, A2, r, _⟩ := esc_ok R0 A (vs := [v]) (cs := [c]) (ds := [d]) (.cons p n .nil) (by simp [escs, e])
  obtain ⟨w, hw, q⟩ := r.one
  cases hw
  exact ⟨G2, A2, q⟩
theorem ds_asg {js : List Nat} {tg e : Expr} {fe : M RC} (he : PE X e (liftE fe)) (hg : PG X tg (liftG js g)) (hs : swapsWithSole [tg] e pos.line X.env = pure false := by rfl) (hw : swappedStores [tg] e X.env = pure none := by rfl)
    (h1 : (assignEach [tg] X.env).map (·.2) = [assign tg X.env] := by rfl) : PS X (.Assign [tg] e pos) (liftS (sAsg fe g)) := ps_mono (ps_asg he hg hs hw h1) fun D σ H h => by
  obtain ⟨C, G, ρ, R, T, k, kr⟩ := h
  refine ⟨C, G, ρ, R, T.fst, fun c ρ1 G1 v H1 cn A p n => ?_⟩
  have T1 := T.snd cn
  obtain ⟨d, ed⟩ := T1.fst.opt
  have T2 := T1.snd (a := d) (by rw [ed]; exact Can.opt)
  obtain ⟨G2, A2, rv⟩ := esc_one R A p n ed
  exact ⟨C, G2, ρ1, d, A2.rs, rv, T2.fst, fun ρ2 G3 σ2 H2 cn2 A3 _ => k .nx ρ2 G3 σ2 H2 (cn.bnd (Can.bnd (a := d) (by rw [ed]; exact Can.opt) (cn2.bnd Can.ret))) (A2.aftS.trans A3)⟩
/-- a, b = x, y with local names -/
def sPar (i j : Nat) (fa : M (List RC)) : M Fl := bnd fa fun cs => match cs with
  | [c, d] => bnd (opt (cellOf c)) fun c' => bnd (opt (cellOf d)) fun d' => bnd (putC i c') fun _ => bnd (putC j d') fun _ => ret .nx
  | _ => fail
end

/-! ### what is walked -/
structure Its where
  lock : Option Nat
  items : List PyData
def lockAt (ρ : Env') : Option Nat → Env'
  | none => ρ
  | some i => match ρ[i]? with
    | some (some (.own d)) => ρ.set i (some (.lck d))
    | _ => ρ
def freeAt (ρ : Env') : Option Nat → Env'
  | none => ρ
  | some i => match ρ[i]? with
    | some (some (.lck d)) => ρ.set i (some (.own d))
    | _ => ρ
/-- J walks these items, whatever the later states are -/
def ItOk (C : Ctx) (G : List Addr) (ρ : Env') (σ : L2.St) (H : Hp) (J : It) (ds : List PyData) : Prop :=
  ∀ G2 ρ2 σ2 H2, AftS C G ρ σ H G2 ρ2 σ2 H2 → (∀ i, i < ds.length → J.go i H2) ∧ (∀ i, ds.length ≤ i → J.stop i H2) ∧ ∀ i x H3, i < ds.length → J.yld i H2 x H3 → ∃ d, ds[i]? = some d ∧ Step (Fb C G2) H2 x H3 (.val d)
def liftI (f : M Its) : TI := fun σ H R => ∃ C G ρ, RS C G ρ σ H ∧ Tot f ρ ∧ ∀ it ρ' G' H' J, Can f ρ it ρ' → Aft C G ρ σ H G' ρ' H' → RS C G' (lockAt ρ' it.lock) σ H' → ItOk C G' (lockAt ρ' it.lock) σ H' J it.items → R J H'
def lockOf (ρ : Env') : RC → Option (Option Nat)
  | .val _ => some none
  | .own _ => some none
  | .brw i => match ρ[i]? with
    | some (some (.own _)) => some (some i)
    | some (some (.lck _)) => some none
    | _ => none
  | .src => none
def seqOf : PyData → Option (List PyData)
  | .list ds => some ds
  | .tuple ds => some ds
  | _ => none
/-- a list or a tuple -/
def iSeq (f : M RC) : M Its := bnd f fun c => bnd (now c) fun d => bnd (opt (seqOf d)) fun ds => fun ρ ω => match lockOf ρ c with
  | some l => some (⟨l, ds⟩, ρ, ω)
  | none => none
section
variable {C : Ctx} {G G' : List Addr} {ρ ρ' : Env'} {σ σ' : L2.St} {H H' : Hp} {i : Nat} {d : PyData}
theorem RS.relock (R : RS C G ρ σ H) {c c' : Cell} (e : ρ[i]? = some (some c)) (h : (c = .own d ∧ c' = .lck d) ∨ (c = .lck d ∧ c' = .own d)) : RS C G (ρ.set i (some c')) σ H := by
  have hil : i < ρ.length := (List.getElem?_eq_some_iff.mp e).1
  have hx : ∀ j, ExAt (ρ.set i (some c')) j → ExAt ρ j := fun j ⟨x, ex, q⟩ => by
    rcases set_at ex with ⟨rfl, rfl⟩ | ⟨n, ex⟩
    · refine ⟨c, e, ?_⟩
      rcases h with ⟨rfl, rfl⟩ | ⟨rfl, rfl⟩ <;> rfl
    · exact ⟨x, ex, q⟩
  refine ⟨by simp [R.len], R.frame, R.gs, R.src, fun j x ex => ?_, fun j k w n hj hk => R.sep j k w n (hx j hj) (hx k hk)⟩
  rcases set_at ex with ⟨rfl, rfl⟩ | ⟨n, ex⟩
  · obtain ⟨v, hv, s⟩ := R.slot _ _ e
    refine ⟨v, hv, ?_⟩
    rcases h with ⟨rfl, rfl⟩ | ⟨rfl, rfl⟩ <;> exact s
  · exact R.slot j x ex
theorem RS.lock (R : RS C G ρ σ H) (l : Option Nat) : RS C G (lockAt ρ l) σ H := by
  cases l with
  | none => exact R
  | some i =>
    simp only [lockAt]
    split
    · rename_i d e; exact R.relock e (.inl ⟨rfl, rfl⟩)
    · exact R
theorem RS.free (R : RS C G ρ σ H) (l : Option Nat) : RS C G (freeAt ρ l) σ H := by
  cases l with
  | none => exact R
  | some i =>
    simp only [freeAt]
    split
    · rename_i d e; exact R.relock e (.inr ⟨rfl, rfl⟩)
    · exact R
theorem own_set {c : Cell} {j : Nat} (h : OwnAt (ρ.set i (some (.lck d))) j) : j ≠ i ∧ OwnAt ρ j := by
  obtain ⟨d', e⟩ := h
  rcases set_at e with ⟨rfl, q⟩ | ⟨n, e⟩
  · cases q
  · exact ⟨n, d', e⟩
/-- where a sequence stands: nobody changes it while it is walked -/
theorem seq_read {v : V} {c : RC} {ds : List PyData} {l : Option Nat} (R : RS C G ρ σ H) (p : Pend C G ρ σ H v c) (eg : c.get ρ = some d) (es : seqOf d = some ds) (el : lockOf ρ c = some l) :
    ∃ a xs, v = .ref a ∧ RepAll (Fb C G) H xs ds ∧ ¬ C.S a ∧ ¬ OwnSl (lockAt ρ l) σ a ∧ ((d = .list ds ∧ Rd H a (.lst xs)) ∨ (d = .tuple ds ∧ Rd H a (.tup xs))) := by
  have tp := p.top R eg
  obtain ⟨a, xs, rfl, rd, hd⟩ : ∃ a xs, v = .ref a ∧ RepAll (Fb C G) H xs ds ∧ ((d = .list ds ∧ Rd H a (.lst xs)) ∨ (d = .tuple ds ∧ Rd H a (.tup xs))) := by
    cases d with
    | list ds' => cases es; obtain ⟨a, xs, e, r, q⟩ := tp.list'; exact ⟨a, xs, e, q, .inl ⟨rfl, r⟩⟩
    | tuple ds' => cases es; obtain ⟨a, xs, e, r, q⟩ := tp.tuple'; exact ⟨a, xs, e, q, .inr ⟨rfl, r⟩⟩
    | _ => cases es
  refine ⟨a, xs, rfl, rd, ?_, ?_, hd⟩
  · cases c with
    | val d' => exact fun z => Rep.ref_nf p (.inl (C.sub _ z))
    | own d' => obtain ⟨b, e, hG, _⟩ := p; cases e; exact R.notS hG
    | brw i =>
      obtain ⟨b, d', hs, hG, _⟩ := R.ex p.2
      have := p.1
      rw [hs] at this; cases this
      exact R.notS hG
    | src => cases eg
  · cases c with
    | val d' => cases el; exact fun z => Rep.ref_nf p (.inr (R.exG z.ex))
    | own d' => cases el; obtain ⟨b, e, hG, ns, _⟩ := p; cases e; exact fun z => ns z.ex
    | brw i =>
      obtain ⟨hv, ex⟩ := p
      simp only [lockOf] at el
      split at el
      · rename_i d' e
        cases el
        simp only [lockAt, e]
        rintro ⟨j, oj, ej⟩
        obtain ⟨n, oj⟩ := own_set (c := .src) oj
        exact R.sep j i _ n oj.ex ex ej hv
      · rename_i d' e
        cases el
        rintro ⟨j, ⟨d2, oj⟩, ej⟩
        have oj : ρ[j]? = some (some (.own d2)) := oj
        have n : j ≠ i := fun z => by subst z; rw [e] at oj; cases oj
        exact R.sep j i _ n ⟨_, oj, rfl⟩ ex ej hv
      · cases el
    | src => cases el
theorem itok_list {K : PySem.W.Frag} {a : Addr} {xs : List V} {ds : List PyData} (R : RS C G ρ σ H) (rd : Rd H a (.lst xs)) (p : RepAll (Fb C G) H xs ds) (nS : ¬ C.S a) (nO : ¬ OwnSl ρ σ a) : ItOk C G ρ σ H (Itl K a) ds := by
  intro G2 ρ2 σ2 H2 A
  have rd2 : Rd H2 a (.lst xs) := rd_at rd fun o e => A.fr.keep a o e nS nO
  have p2 := p.to (carryS R A)
  have q : SqL K H2 a xs := .inl rd2
  refine ⟨fun i hi => ⟨xs, xs[i]'(by rw [p.length]; exact hi), q, by simp⟩, fun i hi => ⟨xs, q, by rw [p.length]; exact hi⟩, fun i x H3 hi ⟨e, y⟩ => ?_⟩
  subst e
  obtain ⟨d, h1, h2⟩ := p2.get' (y xs q)
  exact ⟨d, h1, .inl ⟨rfl, h2⟩⟩
theorem itok_tup {K : PySem.W.Frag} {a : Addr} {xs : List V} {ds : List PyData} (R : RS C G ρ σ H) (rd : Rd H a (.tup xs)) (p : RepAll (Fb C G) H xs ds) (nS : ¬ C.S a) (nO : ¬ OwnSl ρ σ a) : ItOk C G ρ σ H (Itt K a) ds := by
  intro G2 ρ2 σ2 H2 A
  have rd2 : Rd H2 a (.tup xs) := rd_at rd fun o e => A.fr.keep a o e nS nO
  have p2 := p.to (carryS R A)
  have q : SqT K H2 a xs := .inl rd2
  refine ⟨fun i hi => ⟨xs, xs[i]'(by rw [p.length]; exact hi), q, by simp⟩, fun i hi => ⟨xs, q, by rw [p.length]; exact hi⟩, fun i x H3 hi ⟨e, y⟩ => ?_⟩
  subst e
  obtain ⟨d, h1, h2⟩ := p2.get' (y xs q)
  exact ⟨d, h1, .inl ⟨rfl, h2⟩⟩
end
theorem pi_mono {X : Cx} {tg e : Expr} {t t' : TI} (h : PI X tg e t) (k : ∀ σ H Q, t' σ H Q → t σ H Q) : PI X tg e t' := ⟨fun pins s σ H Q I q => h.run pins s σ H Q I (k σ H Q q)⟩
/-- a list or a tuple is walked -/
def iSq (K : PySem.W.Frag) (tl : TE) : TI := fun σ H R => tl σ H fun x H1 => ∃ a, x = .ref a ∧ (((∃ xs, SqL K H1 a xs) ∧ R (Itl K a) H1) ∨ ((∃ xs, SqT K H1 a xs) ∧ R (Itt K a) H1))
section
variable {X : Cx} {tg e : Expr} {f : M RC} {pos p : Pos}
theorem pi_sq {l : Expr} {tl : TE} (hl : PE X l tl) : PI X tg l (iSq X.K tl) := by
  refine ⟨fun pins s σ H R I h => thn (hl.run pins s σ H _ I h) fun v s1 ⟨x, H1, I1, r1, a, e, q⟩ => ?_⟩
  subst e
  cases r1
  have new : ∀ ob : Obj, Inv X pins σ H1 { s1 with heap := s1.heap.push ob } := fun ob => I1.kept (t' := s1.toks) fun b o e => Heap.get?_push_of_some _ e
  have fp : ∀ b ∈ [s1.heap.objs.size], FpOk X pins H1 b := fun b hb => by
    obtain rfl : b = s1.heap.objs.size := by simpa using hb
    exact I1.fpOk (Nat.le_refl _) (I1.hok.fresh (Nat.le_refl _))
  rcases q with ⟨⟨xs, hq⟩, q⟩ | ⟨⟨xs, hq⟩, q⟩
  · obtain ⟨its, rv, pl, hz⟩ := I1.list hq
    exact wpAny_pyIter_list pl.isList ⟨s1.heap.objs.size, [s1.heap.objs.size], _, _, H1, rfl, new _, turn_list a _, ⟨_, Heap.get?_push_size _ rfl, rfl, rfl⟩, fp, q⟩
  · obtain ⟨its, rv, pl, hz⟩ := I1.tuple hq
    exact wpAny_pyIter_tuple (show s1.heap.IsTuple a its.toArray from pl) ⟨s1.heap.objs.size, [s1.heap.objs.size], _, _, H1, rfl, new _, turn_tuple a _, ⟨_, Heap.get?_push_size _ rfl, rfl, rfl⟩, fp, q⟩
theorem di_seq (he : PE X e (liftE f)) : PI X tg e (liftI (iSeq f)) := pi_mono (pi_sq he) fun σ H Q h => by
  obtain ⟨C, G, ρ, R, T, k⟩ := h
  refine ⟨C, G, ρ, R, T.fst, fun c ρ1 G1 v H1 cn A p n => ?_⟩
  have T1 := T.snd cn
  obtain ⟨d, ed⟩ := T1.fst.now
  have T2 := T1.snd (Can.now ed)
  obtain ⟨ds, es⟩ := T2.fst.opt
  have T3 := T2.snd (a := ds) (by rw [es]; exact Can.opt)
  obtain ⟨l, el⟩ : ∃ l, lockOf ρ1 c = some l := by
    obtain ⟨r, e⟩ := T3 (fun _ => 0)
    cases q : lockOf ρ1 c with
    | none => simp only [q] at e; cases e
    | some l => exact ⟨l, rfl⟩
  obtain ⟨a, xs, rfl, rp, nS, nO, hd⟩ := seq_read A.rs p ed es el
  have RL := A.rs.lock l
  have cn2 : Can (iSeq f) ρ (⟨l, ds⟩ : Its) ρ1 := cn.bnd ((Can.now ed).bnd (Can.bnd (a := ds) (by rw [es]; exact Can.opt) fun ω => ⟨ω, by simp only [el]⟩))
  refine ⟨a, rfl, ?_⟩
  rcases hd with ⟨_, rd⟩ | ⟨_, rd⟩
  · exact .inl ⟨⟨xs, .inl rd⟩, k ⟨l, ds⟩ ρ1 G1 H1 _ cn2 A RL (itok_list RL rd rp nS nO)⟩
  · exact .inr ⟨⟨xs, .inl rd⟩, k ⟨l, ds⟩ ρ1 G1 H1 _ cn2 A RL (itok_tup RL rd rp nS nO)⟩

/-! ### ranges -/
def rngD (lo : Int) (c : Int) (n : Nat) : List PyData := (List.range n).map fun (i : Nat) => .int (lo + (i : Int) * c)
def smallI (i : Int) : Bool := Nat.ble i.natAbs 1000000000000000000
theorem smallI_iff {i : Int} (h : smallI i = true) : -(2 ^ 60) ≤ i ∧ i < 2 ^ 60 := by
  have := Nat.le_of_ble_eq_true h
  omega
/-- how many turns -/
def turnsOf (i j c : Int) : Nat := if c > 0 then (if i < j then ((j - i - 1) / c + 1).toNat else 0) else (if j < i then ((i - j - 1) / (-c) + 1).toNat else 0)
def gRng1 : List PyData → Option (List PyData)
  | [.int j] => if smallI j then some (rngD 0 1 j.toNat) else none
  | _ => none
def gRng2 : List PyData → Option (List PyData)
  | [.int i, .int j] => if smallI i && smallI j then some (rngD i 1 (j - i).toNat) else none
  | _ => none
def gRng3 : List PyData → Option (List PyData)
  | [.int i, .int j, .int c] => if decide (c ≠ 0) && decide (c.natAbs < 1073741824) && Builtin.Range.small i j c && decide (Builtin.Range.rangeSize i j c = ((Builtin.Range.rangeSize i j c).toNat : Int)) then some (rngD i c (Builtin.Range.rangeSize i j c).toNat) else none
  | _ => none
def iRng (g : List PyData → Option (List PyData)) (fa : M (List RC)) : M Its := bnd fa fun cs => bnd (nows cs) fun ds => bnd (opt (g ds)) fun xs => ret ⟨none, xs⟩
theorem itok_rng {C : Ctx} {G : List Addr} {ρ : Env'} {σ : L2.St} {H : Hp} {lo : Int} {n : Nat} : ItOk C G ρ σ H (Itr lo n) (rngD lo 1 n) := by
  intro G2 ρ2 σ2 H2 A
  have hl : (rngD lo 1 n).length = n := by simp [rngD]
  refine ⟨fun i hi => by rw [hl] at hi; exact hi, fun i hi => by rw [hl] at hi; exact hi, fun i x H3 hi ⟨e, y⟩ => ⟨.int (lo + i), ?_, .inl ⟨e, by subst y; exact .int _⟩⟩⟩
  rw [hl] at hi
  simp [rngD, List.getElem?_map, List.getElem?_range hi]
theorem itok_rngC {C : Ctx} {G : List Addr} {ρ : Env'} {σ : L2.St} {H : Hp} {lo c : Int} {n : Nat} : ItOk C G ρ σ H (Itc lo c n) (rngD lo c n) := by
  intro G2 ρ2 σ2 H2 A
  have hl : (rngD lo c n).length = n := by simp [rngD]
  refine ⟨fun i hi => by rw [hl] at hi; exact hi, fun i hi => by rw [hl] at hi; exact hi, fun i x H3 hi ⟨e, y⟩ => ⟨.int (lo + (i : Nat) * c), ?_, .inl ⟨e, by subst y; exact .int _⟩⟩⟩
  rw [hl] at hi
  simp [rngD, List.getElem?_map, List.getElem?_range hi]
theorem lift_rng {wi : TI} {ta : TA} {fa : M (List RC)} {g : List PyData → Option (List PyData)} {σ : L2.St} {H : Hp} {R : It → Hp → Prop} (h : liftI (iRng g fa) σ H R) {W : List V → Hp → Prop}
    (hw : ∀ (F : Addr → Prop) vs ds xs H', TopAll F H' vs ds → g ds = some xs → (∀ J, (∀ C G ρ σ, ItOk C G ρ σ H' J xs) → R J H') → W vs H') : liftA fa σ H W := by
  obtain ⟨C, G, ρ, R, T, k⟩ := h
  refine ⟨C, G, ρ, R, T.fst, fun cs ρ1 G1 vs H1 cn1 A p1 => ?_⟩
  have T1 := T.snd cn1
  obtain ⟨ds, cn2, tp⟩ := nows_ok A.rs p1 T1.fst
  obtain ⟨xs, ex⟩ := (T1.snd cn2).fst.opt
  exact hw _ vs ds xs H1 tp ex fun J hJ => k ⟨none, xs⟩ ρ1 G1 H1 J (cn1.bnd (cn2.bnd (Can.bnd (a := xs) (by rw [ex]; exact Can.opt) Can.ret))) A A.rs (hJ _ _ _ _)
theorem di_rng1 {a : Expr} {fa : M (List RC)} (hg : Gl X "range") (hm : X.mg "range" = none) (ha : PA X [a] (liftA fa)) (hs : starEach [a] X.env = [(false, eval a X.env)] := by rfl) : PI X tg (.Call (.Name "range" p) [a] [] pos) (liftI (iRng gRng1 fa)) := pi_mono (pi_range1 hg hm ha hs) fun σ H Q h =>
  lift_rng (wi := fun _ _ _ => True) (ta := fun _ _ _ => True) h fun F vs ds xs H' tp ex k => by
    match ds, ex with
    | [.int j], ex =>
      simp only [gRng1] at ex
      split at ex
      · rename_i hb
        obtain ⟨b1, b2⟩ := smallI_iff hb
        cases ex
        obtain ⟨v, rfl, t⟩ := tp.one
        cases t
        exact ⟨j, rfl, by omega, by omega, k _ fun _ _ _ _ => itok_rng⟩
      · cases ex
theorem di_rng2 {a b : Expr} {fa : M (List RC)} (hg : Gl X "range") (hm : X.mg "range" = none) (ha : PA X [a, b] (liftA fa)) (hs : starEach [a, b] X.env = [(false, eval a X.env), (false, eval b X.env)] := by rfl) (hs2 : starEach [b] X.env = [(false, eval b X.env)] := by rfl) :
    PI X tg (.Call (.Name "range" p) [a, b] [] pos) (liftI (iRng gRng2 fa)) := pi_mono (pi_range2 hg hm ha hs hs2) fun σ H Q h =>
  lift_rng (wi := fun _ _ _ => True) (ta := fun _ _ _ => True) h fun F vs ds xs H' tp ex k => by
    match ds, ex with
    | [.int i, .int j], ex =>
      simp only [gRng2] at ex
      split at ex
      · rename_i hb
        rw [Bool.and_eq_true] at hb
        obtain ⟨b1, b2⟩ := smallI_iff hb.1
        obtain ⟨b3, b4⟩ := smallI_iff hb.2
        cases ex
        obtain ⟨v, w, rfl, t, t'⟩ := tp.two
        cases t; cases t'
        exact ⟨i, j, rfl, ⟨by omega, by omega, by omega, by omega⟩, k _ fun _ _ _ _ => itok_rng⟩
      · cases ex
theorem TopAll.three {F : Addr → Prop} {H : Hp} {vs : List V} {d e f : PyData} (h : TopAll F H vs [d, e, f]) : ∃ v w u, vs = [v, w, u] ∧ Top F H v d ∧ Top F H w e ∧ Top F H u f := by
  cases h with | cons a t => cases t with | cons b t => cases t with | cons c t => cases t; exact ⟨_, _, _, rfl, a, b, c⟩
theorem di_rng3 {a b c : Expr} {fa : M (List RC)} (hg : Gl X "range") (hm : X.mg "range" = none) (ha : PA X [a, b, c] (liftA fa))
    (hs : starEach [a, b, c] X.env = (false, eval a X.env) :: starEach [b, c] X.env := by rfl) (hpl : (backTo pos (starEach [b, c] X.env)).any (·.1) = false := by rfl) :
    PI X tg (.Call (.Name "range" p) [a, b, c] [] pos) (liftI (iRng gRng3 fa)) := pi_mono (pi_range3 hg hm ha hs hpl) fun σ H Q h =>
  lift_rng (wi := fun _ _ _ => True) (ta := fun _ _ _ => True) h fun F vs ds xs H' tp ex k => by
    match ds, ex with
    | [.int i, .int j, .int c], ex =>
      simp only [gRng3] at ex
      split at ex
      · rename_i hb
        rw [Bool.and_eq_true, Bool.and_eq_true, Bool.and_eq_true] at hb
        have b1 := of_decide_eq_true hb.1.1.1
        have b2 := of_decide_eq_true hb.1.1.2
        have b4 := of_decide_eq_true hb.2
        cases ex
        obtain ⟨v, w, u, rfl, t, t', t''⟩ := tp.three
        cases t; cases t'; cases t''
        exact ⟨i, j, c, _, rfl, ⟨b1, b2, hb.1.2, b4⟩, k _ fun _ _ _ _ => itok_rngC⟩
      · cases ex

/-! ### for -/
def forL (g : PyData → M Unit) (f : M Fl) : List PyData → M Fl
  | [] => ret .nx
  | d :: ds => bnd (g d) fun _ => bnd f fun fl => match fl with
    | .nx => forL g f ds
    | .ct => forL g f ds
    | .bk => ret .nx
    | .rt c => ret (.rt c)
def mayLock (ρ : Env') : Option Nat → Bool
  | none => true
  | some i => match ρ[i]? with
    | some (some (.own _)) => true
    | _ => false
def lockM (l : Option Nat) : M Unit := fun ρ ω => if mayLock ρ l then some ((), lockAt ρ l, ω) else none
def freeM (l : Option Nat) : M Unit := fun ρ ω => some ((), freeAt ρ l, ω)
def sFor (fi : M Its) (g : PyData → M Unit) (f : M Fl) : M Fl := bnd fi fun it => bnd (lockM it.lock) fun _ => bnd (forL g f it.items) fun fl => bnd (freeM it.lock) fun _ => ret fl
end
section
variable {C : Ctx} {G G' : List Addr} {ρ ρ' : Env'} {σ σ' : L2.St} {H H' : Hp}
theorem Tot.lockM {l : Option Nat} (h : Tot (DL.lockM l) ρ) : mayLock ρ l = true := by
  obtain ⟨r, e⟩ := h (fun _ => 0)
  simp only [DL.lockM] at e
  split at e
  · assumption
  · cases e
theorem Can.lockM {l : Option Nat} (h : mayLock ρ l = true) : Can (DL.lockM l) ρ () (lockAt ρ l) := fun ω => ⟨ω, by simp only [DL.lockM, h, if_true]⟩
theorem mayLock_own {l : Option Nat} (h : mayLock ρ l = true) : ∀ i, l = some i → OwnAt ρ i := fun i e => by
  subst e
  simp only [mayLock] at h
  split at h
  · rename_i d q; exact ⟨d, q⟩
  · cases h
theorem Can.freeM {l : Option Nat} : Can (DL.freeM l) ρ () (freeAt ρ l) := fun ω => ⟨ω, rfl⟩
theorem lock_own {l : Option Nat} {i : Nat} (h : OwnAt (lockAt ρ l) i) : OwnAt ρ i := by
  cases l with
  | none => exact h
  | some j =>
    simp only [lockAt] at h
    split at h
    · exact (own_set (c := .src) h).2
    · exact h
theorem lock_sl {l : Option Nat} {b : Addr} (h : OwnSl (lockAt ρ l) σ b) : OwnSl ρ σ b := let ⟨i, o, e⟩ := h; ⟨i, lock_own o, e⟩
theorem lock_get {l : Option Nat} {i : Nat} {d : PyData} (h : (lockAt ρ l)[i]? = some (some (.lck d))) : ρ[i]? = some (some (.lck d)) ∨ (l = some i ∧ ρ[i]? = some (some (.own d))) := by
  cases l with
  | none => exact .inl h
  | some j =>
    simp only [lockAt] at h
    split at h
    · rename_i d' e
      rcases set_at h with ⟨rfl, q⟩ | ⟨n, q⟩
      · cases q; exact .inr ⟨rfl, e⟩
      · exact .inl q
    · exact .inl h
theorem free_own {l : Option Nat} {i : Nat} (h : OwnAt (freeAt ρ l) i) : OwnAt ρ i ∨ (l = some i ∧ ∃ d, ρ[i]? = some (some (.lck d))) := by
  cases l with
  | none => exact .inl h
  | some j =>
    simp only [freeAt] at h
    split at h
    · rename_i d' e
      obtain ⟨d, h⟩ := h
      rcases set_at h with ⟨rfl, q⟩ | ⟨n, q⟩
      · exact .inr ⟨rfl, d', e⟩
      · exact .inl ⟨d, q⟩
    · exact .inl h
theorem free_lck {l : Option Nat} {i : Nat} {d : PyData} (h : (freeAt ρ l)[i]? = some (some (.lck d))) : ρ[i]? = some (some (.lck d)) ∧ l ≠ some i := by
  cases l with
  | none => exact ⟨h, fun z => by cases z⟩
  | some j =>
    simp only [freeAt] at h
    split at h
    · rename_i d' e
      rcases set_at h with ⟨rfl, q⟩ | ⟨n, q⟩
      · cases q
      · exact ⟨q, fun z => by cases z; exact n rfl⟩
    · rename_i hx
      refine ⟨h, fun z => ?_⟩
      cases z
      exact hx d h
/-- what a loop did between the lock and its opening -/
theorem AftS.unlock {l : Option Nat} (R : RS C G ρ σ H) (hl : ∀ i, l = some i → OwnAt ρ i) (A : AftS C G (lockAt ρ l) σ H G' ρ' σ' H') : AftS C G ρ σ H G' (freeAt ρ' l) σ' H' := by
  refine ⟨A.rs.free l, ⟨fun b o e ns no => A.fr.keep b o e ns fun z => no (lock_sl z), A.fr.there⟩, A.gx, fun b ⟨i, oi, ei⟩ => ?_, fun i d e => ?_⟩
  · rcases free_own oi with o | ⟨rfl, d, o⟩
    · exact (A.ox b ⟨i, o, ei⟩).imp lock_sl id
    · obtain ⟨e1, q⟩ := A.lk i d o
      rw [q] at ei
      exact .inl ⟨i, hl i rfl, ei⟩
  · obtain ⟨e1, n⟩ := free_lck e
    obtain ⟨e2, q⟩ := A.lk i d e1
    rcases lock_get e2 with e3 | ⟨z, _⟩
    · exact ⟨e3, q⟩
    · exact absurd z n
end
section
variable {X : Cx} {tg iter : Expr} {body : List Stmt} {fi : M Its} {g : PyData → M Unit} {f : M Fl} {pos : Pos}
theorem drop_get {α : Type} {l : List α} {i : Nat} {d : α} (h : l[i]? = some d) : l.drop i = d :: l.drop (i + 1) := by
  obtain ⟨hi, e⟩ := List.getElem?_eq_some_iff.mp h
  rw [List.drop_eq_getElem_cons hi, e]
theorem lift_for {js : List Nat} {D : Ends} {σ : L2.St} {H : Hp} (h : liftS (sFor fi g f) D σ H) : tFor (liftI fi) (liftG js g) (liftS f) D σ H := by
  obtain ⟨C, G, ρ, R, T, k, kr⟩ := h
  refine ⟨C, G, ρ, R, T.fst, fun it ρ1 G1 H1 J cn A RL ok => ?_⟩
  obtain ⟨l, ds⟩ := it
  have T1 := T.snd cn
  have hml := T1.fst.lockM
  have T2 := T1.snd (Can.lockM hml)
  have A0 := A.aftS
  -- the end
  have fin : ∀ {fl : Fl} {ρ2 : Env'} {G2 : List Addr} {σ2 : L2.St} {H2 : Hp}, Can (forL g f ds) (lockAt ρ1 l) fl ρ2 → AftS C G1 (lockAt ρ1 l) σ H1 G2 ρ2 σ2 H2 → endOf D fl σ2 H2 := fun {fl ρ2 G2 σ2 H2} c2 A2 =>
    k fl (freeAt ρ2 l) G2 σ2 H2 (cn.bnd ((Can.lockM hml).bnd (c2.bnd (Can.freeM.bnd Can.ret)))) (A0.trans (A2.unlock A.rs (mayLock_own hml)))
  refine ⟨fun i m σ2 H2 => ∃ ρ2 G2, i ≤ ds.length ∧ m = ds.length - i ∧ AftS C G1 (lockAt ρ1 l) σ H1 G2 ρ2 σ2 H2 ∧ Tot (forL g f (ds.drop i)) ρ2 ∧ ∀ fl ρ', Can (forL g f (ds.drop i)) ρ2 fl ρ' → Can (forL g f ds) (lockAt ρ1 l) fl ρ',
    ⟨ds.length, lockAt ρ1 l, G1, Nat.zero_le _, rfl, .refl RL, by simpa using T2.fst, fun fl ρ' c => by simpa using c⟩, ?_⟩
  rintro i m σ2 H2 ⟨ρ2, G2, hi, rfl, A2, T3, back⟩
  obtain ⟨hgo, hstop, hyld⟩ := ok G2 ρ2 σ2 H2 A2
  by_cases hlt : i < ds.length
  · refine .inr ⟨hgo i hlt, _, fun σ' H' hN => ⟨ds.length - (i + 1), by omega, hN⟩, fun x H3 hy => ?_⟩
    obtain ⟨d, hd, st⟩ := hyld i x H3 hlt hy
    obtain ⟨G3, A3, p3, _⟩ := st.aft A2.rs
    rw [drop_get hd] at T3 back
    refine ⟨C, G3, ρ2, d, A3.rs, p3, T3.fst, fun ρ4 G4 σ4 H4 c4 A4 _ => ?_⟩
    have T4 := T3.snd c4
    have A24 := (A2.trans A3.aftS).trans A4
    refine ⟨C, G4, ρ4, A4.rs, T4.fst, fun fl ρ5 G5 σ5 H5 c5 A5 => ?_, fun c ρ5 v H5 c5 rp => ?_⟩
    · have T5 := T4.snd c5
      have A25 := A24.trans A5
      cases fl with
      | nx => exact ⟨ρ5, G5, hlt, rfl, A25, T5, fun fl ρ' c => back fl ρ' (c4.bnd (c5.bnd c))⟩
      | ct => exact ⟨ρ5, G5, hlt, rfl, A25, T5, fun fl ρ' c => back fl ρ' (c4.bnd (c5.bnd c))⟩
      | bk => exact fin (fl := .nx) (back .nx ρ5 (c4.bnd (c5.bnd Can.ret))) A25
      | rt c => trivial
    · have c6 := back (.rt c) ρ5 (c4.bnd (c5.bnd Can.ret))
      exact kr c (freeAt ρ5 l) v H5 (cn.bnd ((Can.lockM hml).bnd (c6.bnd (Can.freeM.bnd Can.ret)))) rp
  · have e : i = ds.length := by omega
    subst e
    refine .inl ⟨hstop _ (Nat.le_refl _), fin (fl := .nx) (back .nx ρ2 ?_) A2⟩
    rw [List.drop_length]
    exact Can.ret
theorem ds_for {js : List Nat} (hp : PassesOwn (model X.prog X.w) X.A X.env X.xe) (hc : X.calm = true) (hi : PI X tg iter (liftI fi)) (hg : PG X tg (liftG js g)) (hb : PSs X body (liftS f)) (hs : ∀ x, foldedSetIterable iter X.env x = pure x := by intro _; rfl) : PS X (.For tg iter body [] pos) (liftS (sFor fi g f)) :=
  ps_mono (ps_for hp hc hi hg hb hs) fun _ _ _ h => lift_for h

/-! ### while -/
def whileL (t : M Bool) (f : M Fl) : Nat → M Fl
  | 0 => fail
  | n + 1 => bnd t fun b => if b then bnd f fun fl => match fl with
    | .nx => whileL t f n
    | .ct => whileL t f n
    | .bk => ret .nx
    | .rt c => ret (.rt c) else ret .nx
def sWhile (n : Nat) (t : M Bool) (f : M Fl) : M Fl := whileL t f n
theorem lift_while {n : Nat} {t : M Bool} {D : Ends} {σ : L2.St} {H : Hp} (h : liftS (sWhile n t f) D σ H) : tWhile (liftT t) (liftS f) D σ H := by
  obtain ⟨C, G, ρ, R, T, k, kr⟩ := h
  refine ⟨fun m σ2 H2 => ∃ ρ2 G2, AftS C G ρ σ H G2 ρ2 σ2 H2 ∧ Tot (whileL t f m) ρ2 ∧ ∀ fl ρ', Can (whileL t f m) ρ2 fl ρ' → Can (sWhile n t f) ρ fl ρ', ⟨n, ρ, G, .refl R, T, fun fl ρ' c => c⟩, ?_⟩
  rintro m σ2 H2 ⟨ρ2, G2, A2, T2, back⟩
  cases m with
  | zero => exact T2.fail.elim
  | succ m =>
    refine ⟨C, G2, ρ2, A2.rs, T2.fst, fun b ρ3 G3 H3 c3 A3 => ?_⟩
    have T3 := T2.snd c3
    have A23 := A2.trans A3.aftS
    cases b with
    | false => exact k .nx ρ3 G3 σ2 H3 (back .nx ρ3 (c3.bnd Can.ret)) A23
    | true =>
      refine iteT ⟨_, fun σ' H' hN => ⟨m, Nat.lt_succ_self m, hN⟩, ?_⟩
      have T3 : Tot (bnd f fun fl => match fl with
        | .nx => whileL t f m
        | .ct => whileL t f m
        | .bk => ret .nx
        | .rt c => ret (.rt c)) ρ3 := T3
      refine ⟨C, G3, ρ3, A3.rs, T3.fst, fun fl ρ5 G5 σ5 H5 c5 A5 => ?_, fun c ρ5 v H5 c5 rp => kr c ρ5 v H5 (back (.rt c) ρ5 (c3.bnd (c5.bnd Can.ret))) rp⟩
      have T5 := T3.snd c5
      have A25 := A23.trans A5
      cases fl with
      | nx => exact ⟨ρ5, G5, A25, T5, fun fl ρ' c => back fl ρ' (c3.bnd (c5.bnd c))⟩
      | ct => exact ⟨ρ5, G5, A25, T5, fun fl ρ' c => back fl ρ' (c3.bnd (c5.bnd c))⟩
      | bk => exact k .nx ρ5 G5 σ5 H5 (back .nx ρ5 (c3.bnd (c5.bnd Can.ret))) A25
      | rt c => trivial
theorem ds_while (n : Nat) {c : Expr} {t : M Bool} (hp : PassesOwn (model X.prog X.w) X.A X.env X.xe) (hc : PT X c (liftT t)) (hb : PSs X body (liftS f)) : PS X (.While c body [] pos) (liftS (sWhile n t f)) := ps_mono (ps_while hp hc hb) fun _ _ _ h => lift_while h
end
end DL
set_option Elab.async false
set_option linter.all false
set_option maxRecDepth 100000
set_option maxHeartbeats 2000000
/-! Part 10: comprehensions. -/
namespace DL
open PySem PySem.Spec L2
variable [Fam]

def wipeE (ρ : Env') : List Nat → Env'
  | [] => ρ
  | v :: vs => (wipeE ρ vs).set v none
def backE (old : Env') : List Nat → Env' → Env'
  | [], ρ => ρ
  | v :: vs, ρ => (backE old vs ρ).set v ((old[v]?).getD none)
def mayWipe (ρ : Env') : List Nat → Bool
  | [] => true
  | v :: vs => (match ρ[v]? with
    | some (some (.own _)) => false
    | some (some (.lck _)) => false
    | _ => true) && mayWipe ρ vs
def wipeM (vs : List Nat) : M Unit := fun ρ ω => some ((), wipeE ρ vs, ω)
def backM (old : Env') (vs : List Nat) : M Unit := fun ρ ω => some ((), backE old vs ρ, ω)
def getE : M Env' := fun ρ ω => some (ρ, ρ, ω)
def compL (g : PyData → M Unit) (t : M Bool) (fe : M RC) (vs : List Nat) : List PyData → List PyData → M (List PyData)
  | [], acc => ret acc.reverse
  | d :: ds, acc => bnd (g d) fun _ => bnd t fun b => if b then bnd fe fun c => bnd (opt (esc c)) fun y => bnd (wipeM vs) fun _ => compL g t fe vs ds (y :: acc) else bnd (wipeM vs) fun _ => compL g t fe vs ds acc
def dLc (vs : List Nat) (fi : M Its) (g : PyData → M Unit) (t : M Bool) (fe : M RC) : M RC := bnd fi fun it => if lenOk it.items.length then bnd (lockM it.lock) fun _ => bnd getE fun ρs => if mayWipe ρs vs then bnd (wipeM vs) fun _ =>
  bnd (compL g t fe vs it.items []) fun acc => bnd (backM ρs vs) fun _ => bnd (freeM it.lock) fun _ => ret (.own (.list acc)) else fail else fail
def tYesD : M Bool := ret true
section
variable {C : Ctx} {G G' G1 : List Addr} {ρ ρ' ρL : Env'} {σ σ' : L2.St} {H H' H1 : Hp} {vs : List Nat}
theorem wipeE_len : ∀ vs : List Nat, (wipeE ρ vs).length = ρ.length
  | [] => rfl
  | v :: vs => by simp [wipeE, wipeE_len vs]
theorem wipeE_out {j : Nat} : ∀ {vs : List Nat}, j ∉ vs → (wipeE ρ vs)[j]? = ρ[j]?
  | [], _ => rfl
  | v :: vs, n => by
    rw [List.mem_cons, not_or] at n
    rw [wipeE, List.getElem?_set_ne (Ne.symm n.1)]
    exact wipeE_out n.2
theorem wipeE_in {j : Nat} {c : Cell} : ∀ {vs : List Nat}, (wipeE ρ vs)[j]? = some (some c) → j ∉ vs
  | [], _ => by simp
  | v :: vs, h => by
    rw [wipeE] at h
    by_cases e : j = v
    · subst e
      by_cases hl : j < (wipeE ρ vs).length
      · rw [List.getElem?_set_self hl] at h; cases h
      · rw [List.getElem?_eq_none (by simpa using hl)] at h; cases h
    · rw [List.getElem?_set_ne (Ne.symm e)] at h
      rw [List.mem_cons, not_or]
      exact ⟨e, wipeE_in h⟩
theorem wipeE_some {j : Nat} {c : Cell} (h : (wipeE ρ vs)[j]? = some (some c)) : j ∉ vs ∧ ρ[j]? = some (some c) := by
  have n := wipeE_in h
  rw [wipeE_out n] at h
  exact ⟨n, h⟩
theorem backE_len {old : Env'} : ∀ vs : List Nat, (backE old vs ρ).length = ρ.length
  | [] => rfl
  | v :: vs => by simp [backE, backE_len vs]
theorem backE_out {old : Env'} {j : Nat} : ∀ {vs : List Nat}, j ∉ vs → (backE old vs ρ)[j]? = ρ[j]?
  | [], _ => rfl
  | v :: vs, n => by
    rw [List.mem_cons, not_or] at n
    rw [backE, List.getElem?_set_ne (Ne.symm n.1)]
    exact backE_out n.2
theorem backE_in {old : Env'} {j : Nat} (hl : old.length = ρ.length) : ∀ {vs : List Nat}, j ∈ vs → (backE old vs ρ)[j]? = old[j]?
  | v :: vs, n => by
    rw [backE]
    by_cases e : j = v
    · subst e
      by_cases h : j < ρ.length
      · rw [List.getElem?_set_self (by rw [backE_len]; exact h)]
        have : j < old.length := by omega
        rw [List.getElem?_eq_getElem this]
        rfl
      · rw [List.getElem?_eq_none (by rw [List.length_set, backE_len]; omega), List.getElem?_eq_none (by omega)]
    · rw [List.getElem?_set_ne (Ne.symm e)]
      exact backE_in hl ((List.mem_cons.mp n).resolve_left e)
theorem wipe_get {j : Nat} : ∀ {vs : List Nat}, j ∉ vs → (wipe σ vs)[j]? = σ[j]?
  | [], _ => rfl
  | v :: vs, n => by
    rw [List.mem_cons, not_or] at n
    rw [wipe, List.getElem?_set_ne (Ne.symm n.1)]
    exact wipe_get n.2
theorem wipe_got {j : Nat} : ∀ {vs : List Nat}, j ∈ vs → (wipe σ vs)[j]? = if j < σ.length then some none else none
  | v :: vs, n => by
    rw [wipe]
    by_cases e : j = v
    · subst e
      by_cases h : j < σ.length
      · rw [List.getElem?_set_self (by rw [wipe_length]; exact h), if_pos h]
      · rw [List.getElem?_eq_none (by rw [List.length_set, wipe_length]; omega), if_neg h]
    · rw [List.getElem?_set_ne (Ne.symm e)]
      exact wipe_got ((List.mem_cons.mp n).resolve_left e)
theorem wipe_only {js : List Nat} (o : Only js G ρ (wipe σ vs) G' ρ' σ') (hj : ∀ j ∈ js, j ∈ vs) : wipe σ' vs = wipe σ vs := by
  refine List.ext_getElem? fun j => ?_
  have hl : σ'.length = σ.length := o.len.trans (wipe_length σ vs)
  by_cases h : j ∈ vs
  · rw [wipe_got h, wipe_got h, hl]
  · rw [wipe_get h, (o.at_ j fun z => h (hj j z)).2]
theorem wipe_ex {i : Nat} (h : ExAt (wipeE ρ vs) i) : i ∉ vs ∧ ExAt ρ i := by
  obtain ⟨c, e, x⟩ := h
  obtain ⟨n, e⟩ := wipeE_some e
  exact ⟨n, c, e, x⟩
theorem RS.wipe (R : RS C G ρ σ H) (vs : List Nat) : RS C G (wipeE ρ vs) (wipe σ vs) H := by
  refine ⟨by rw [wipeE_len, wipe_length]; exact R.len, R.frame, R.gs, R.src, fun i c e => ?_, fun i j v n hi hj e1 e2 => ?_⟩
  · obtain ⟨n, e⟩ := wipeE_some e
    obtain ⟨v, hv, s⟩ := R.slot i c e
    exact ⟨v, by rw [wipe_get n]; exact hv, s⟩
  · obtain ⟨n1, h1⟩ := wipe_ex hi
    obtain ⟨n2, h2⟩ := wipe_ex hj
    rw [wipe_get n1] at e1
    rw [wipe_get n2] at e2
    exact R.sep i j v n h1 h2 e1 e2
theorem AftS.wipe (A : AftS C G ρ σ H G' ρ' σ' H') (vs : List Nat) : AftS C G ρ σ H G' (wipeE ρ' vs) (wipe σ' vs) H' := by
  refine ⟨A.rs.wipe vs, A.fr, A.gx, fun b ⟨i, o, e⟩ => ?_, fun i d e => ?_⟩
  · obtain ⟨n, h⟩ := wipe_ex o.ex
    obtain ⟨d, o⟩ := o
    rw [wipe_get n] at e
    exact A.ox b ⟨i, ⟨d, (wipeE_some o).2⟩, e⟩
  · obtain ⟨n, e⟩ := wipeE_some e
    obtain ⟨e1, q⟩ := A.lk i d e
    exact ⟨e1, by rw [wipe_get n]; exact q⟩
theorem AftS.exSl (A : AftS C G ρ σ H G' ρ' σ' H') {b : Addr} (h : ExSl ρ' σ' b) : ExSl ρ σ b ∨ H b = none := by
  obtain ⟨i, ⟨c, e, x⟩, ei⟩ := h
  cases c with
  | own d => exact (A.ox b ⟨i, ⟨d, e⟩, ei⟩).imp OwnSl.ex id
  | lck d =>
    obtain ⟨e1, q⟩ := A.lk i d e
    exact .inl ⟨i, ⟨_, e1, rfl⟩, by rw [← q]; exact ei⟩
  | _ => cases x
/-- an object that is kept apart and no name has is written -/
theorem AftS.poke {D : Addr} {o' : HO} (A : AftS C G ρ σ H G' ρ' σ' H') (hD : D ∈ G') (ns : ¬ ExSl ρ' σ' D) (h0 : H D = none) : AftS C G ρ σ H G' ρ' σ' (upd H' D o') := by
  have R := A.rs
  have hS : ¬ C.S D := R.notS hD
  have hne : ∀ b o, H b = some o → b ≠ D := fun b o e z => by subst z; rw [h0] at e; cases e
  have th : ∀ b, H' b ≠ none → upd H' D o' b ≠ none := fun b h => by
    by_cases z : b = D
    · subst z; rw [upd_same]; simp
    · rw [upd_ne z]; exact h
  have hk : ∀ b o, H' b = some o → ¬ Fb C G' b → ¬ Fb C G' b ∧ upd H' D o' b = some o := fun b o e n => ⟨n, upd_get (fun z : b = D => n (.inr (z ▸ hD))) e⟩
  refine ⟨⟨R.len, fun b o e n => ?_, fun a ha => ⟨(R.gs a ha).1, (R.gs a ha).2.1, th a (R.gs a ha).2.2⟩, ?_, fun i c e => ?_, R.sep⟩, ⟨fun b o e n1 n2 => upd_get (hne b o e) (A.fr.keep b o e n1 n2), fun b e => th b (A.fr.there b e)⟩, A.gx, A.ox, A.lk⟩
  · exact upd_get (fun z : b = D => by subst z; rw [(R.gs _ hD).1] at e; cases e) (R.frame b o e n)
  · refine C.keep _ _ _ R.src fun b o e n => upd_get (fun z : b = D => ?_) e
    subst z
    exact n.elim hS fun n => n (.inr hD)
  · obtain ⟨v, hv, s⟩ := R.slot i c e
    refine ⟨v, hv, ?_⟩
    have oth : ∀ b, c.excl = true → v = .ref b → b ≠ D := fun b x z w => by
      subst w; subst z
      exact ns ⟨i, ⟨c, e, x⟩, hv⟩
    cases c with
    | val d => exact Rep.to hk s
    | own d => obtain ⟨b, rfl, g, ok⟩ := s; exact ⟨b, rfl, g, ok.to hk fun o e => upd_get (oth b rfl rfl) e⟩
    | lck d => obtain ⟨b, rfl, g, ok⟩ := s; exact ⟨b, rfl, g, ok.to hk fun o e => upd_get (oth b rfl rfl) e⟩
    | src => exact s
theorem mayWipe_at : ∀ {vs : List Nat}, mayWipe ρ vs = true → ∀ i ∈ vs, ¬ ExAt ρ i
  | v :: vs, h, i, hi => by
    simp only [mayWipe, Bool.and_eq_true] at h
    rcases List.mem_cons.mp hi with rfl | hi
    · rintro ⟨c, e, x⟩
      rw [e] at h
      cases c <;> simp [Cell.excl] at x h
    · exact mayWipe_at h.2 i hi
theorem Can.wipeM : Can (DL.wipeM vs) ρ () (wipeE ρ vs) := fun ω => ⟨ω, rfl⟩
theorem Can.getE : Can DL.getE ρ ρ ρ := fun ω => ⟨ω, rfl⟩
theorem Can.backM {old : Env'} : Can (DL.backM old vs) ρ () (backE old vs ρ) := fun ω => ⟨ω, rfl⟩
/-- the block's names as they were before; the lock is opened -/
theorem lc_end {ρ1 : Env'} {l : Option Nat} {ρ2 : Env'} {G2 : List Addr} {H2 : Hp} (gsub : ∀ a ∈ G1, a ∈ G2) (R1 : RS C G1 ρ1 σ H1) (hml : mayLock ρ1 l = true) (hw : mayWipe (lockAt ρ1 l) vs = true) (A : AftS C G1 (lockAt ρ1 l) σ H1 G2 ρ2 (wipe σ vs) H2)
    (sh : ∀ j, j ∉ vs → (ρ2[j]?.map (Option.map Cell.kind)) = ((lockAt ρ1 l)[j]?.map (Option.map Cell.kind))) : Aft C G1 ρ1 σ H1 G2 (freeAt (backE (lockAt ρ1 l) vs ρ2) l) H2 ∧ ∀ b, ExSl (freeAt (backE (lockAt ρ1 l) vs ρ2) l) σ b → ExSl ρ2 (wipe σ vs) b := by
  have RL := R1.lock l
  have hlen : (lockAt ρ1 l).length = ρ2.length := by rw [← RL.len, ← A.rs.len, wipe_length]
  have hex : ∀ i, ExAt (backE (lockAt ρ1 l) vs ρ2) i → i ∉ vs ∧ ExAt ρ2 i := fun i ⟨c, e, x⟩ => by
    by_cases h : i ∈ vs
    · rw [backE_in hlen h] at e
      exact absurd ⟨c, e, x⟩ (mayWipe_at hw i h)
    · rw [backE_out h] at e
      exact ⟨h, c, e, x⟩
  have RB : RS C G2 (backE (lockAt ρ1 l) vs ρ2) σ H2 := by
    refine ⟨by rw [backE_len, ← hlen]; exact RL.len, A.rs.frame, A.rs.gs, A.rs.src, fun i c e => ?_, fun i j v n hi hj e1 e2 => ?_⟩
    · by_cases h : i ∈ vs
      · rw [backE_in hlen h] at e
        obtain ⟨v, hv, s⟩ := RL.slot i c e
        refine ⟨v, hv, ?_⟩
        cases c with
        | val d => exact Rep.to (carryS RL A) s
        | own d => exact absurd ⟨_, e, rfl⟩ (mayWipe_at hw i h)
        | lck d => exact absurd ⟨_, e, rfl⟩ (mayWipe_at hw i h)
        | src => exact s
      · rw [backE_out h] at e
        obtain ⟨v, hv, s⟩ := A.rs.slot i c e
        rw [wipe_get h] at hv
        exact ⟨v, hv, s⟩
    · obtain ⟨n1, h1⟩ := hex i hi
      obtain ⟨n2, h2⟩ := hex j hj
      exact A.rs.sep i j v n h1 h2 (by rw [wipe_get n1]; exact e1) (by rw [wipe_get n2]; exact e2)
  have AB : AftS C G1 (lockAt ρ1 l) σ H1 G2 (backE (lockAt ρ1 l) vs ρ2) σ H2 := by
    refine ⟨RB, A.fr, A.gx, fun b ⟨i, o, e⟩ => ?_, fun i d e => ?_⟩
    · obtain ⟨n, _⟩ := hex i o.ex
      obtain ⟨d, o⟩ := o
      rw [backE_out n] at o
      exact A.ox b ⟨i, ⟨d, o⟩, by rw [wipe_get n]; exact e⟩
    · obtain ⟨n, _⟩ := hex i ⟨_, e, rfl⟩
      rw [backE_out n] at e
      exact ⟨(A.lk i d e).1, rfl⟩
  have AU := AB.unlock R1 (mayLock_own hml)
  have shB : Shape (lockAt ρ1 l) (backE (lockAt ρ1 l) vs ρ2) := fun j => by
    by_cases h : j ∈ vs
    · rw [backE_in hlen h]
    · rw [backE_out h]; exact sh j h
  refine ⟨⟨AU.rs, AU.fr, fun j => ?_, gsub, AU.gx⟩, fun b ⟨i, o, e⟩ => ?_⟩
  · cases l with
    | none => exact shB j
    | some i =>
      obtain ⟨d, ed⟩ := mayLock_own hml i rfl
      have eL : lockAt ρ1 (some i) = ρ1.set i (some (.lck d)) := by simp only [lockAt, ed]
      have eLi : (lockAt ρ1 (some i))[i]? = some (some (.lck d)) := by rw [eL]; exact List.getElem?_set_self (List.getElem?_eq_some_iff.mp ed).1
      have eB : (backE (lockAt ρ1 (some i)) vs ρ2)[i]? = some (some (.lck d)) := shB.symm.lck eLi
      have eF : freeAt (backE (lockAt ρ1 (some i)) vs ρ2) (some i) = (backE (lockAt ρ1 (some i)) vs ρ2).set i (some (.own d)) := by simp only [freeAt, eB]
      rw [eF]
      by_cases h : j = i
      · subst h
        rw [List.getElem?_set_self (List.getElem?_eq_some_iff.mp eB).1, ed]
      · rw [List.getElem?_set_ne (Ne.symm h)]
        refine (shB j).trans ?_
        rw [eL, List.getElem?_set_ne (Ne.symm h)]
  · have o' : ExAt (backE (lockAt ρ1 l) vs ρ2) i := by
      obtain ⟨c, ec, x⟩ := o
      cases c with
      | own d =>
        rcases free_own ⟨d, ec⟩ with q | ⟨_, d', q⟩
        · exact q.ex
        · exact ⟨_, q, rfl⟩
      | lck d => exact ⟨_, (free_lck ec).1, rfl⟩
      | _ => cases x
    obtain ⟨n, h⟩ := hex i o'
    exact ⟨i, h, by rw [wipe_get n]; exact e⟩
end
def liftTs (t : M Bool) : TT := liftT t
section
variable {X : Cx} {tg iter elt : Expr} {ifs : List Expr} {fi : M Its} {g : PyData → M Unit} {t : M Bool} {fe : M RC} {pos : Pos} {js vs : List Nat}
theorem lift_lc (hj : ∀ j ∈ js, j ∈ vs) {σ : L2.St} {H : Hp} {Q : VK} (h : liftE (dLc vs fi g t fe) σ H Q) : tLc (liftI fi) (liftG js g) (liftT t) (liftE fe) vs σ H Q := by
  obtain ⟨C, G, ρ, R, T, k⟩ := h
  refine ⟨C, G, ρ, R, T.fst, fun it ρ1 G1 H1 J cn A RL ok D hD => ?_⟩
  obtain ⟨l, ds⟩ := it
  have T1 := T.snd cn
  by_cases hlen : lenOk ds.length = true
  case neg => rw [if_neg hlen] at T1; exact T1.fail.elim
  rw [if_pos hlen] at T1
  have hml := T1.fst.lockM
  have T2 := (T1.snd (Can.lockM hml)).snd Can.getE
  by_cases hw : mayWipe (lockAt ρ1 l) vs = true
  case neg => rw [if_neg hw] at T2; exact T2.fail.elim
  rw [if_pos hw] at T2
  have T3 := T2.snd Can.wipeM
  have hz := lenOk_le hlen
  -- the new list stands
  obtain ⟨RN, FN, GN⟩ := RL.new (o := .lst []) hD (D :: G1) (.inr rfl)
  have hDG : D ∉ G1 := fun z => (RL.gs D z).2.2 hD
  have A0 : AftS C G1 (lockAt ρ1 l) σ H1 (D :: G1) (wipeE (lockAt ρ1 l) vs) (wipe σ vs) (upd H1 D (.lst [])) := AftS.wipe ⟨RN, FN, GN.2, fun b z => .inl z, fun i d e => ⟨e, rfl⟩⟩ vs
  have nD0 : ¬ ExSl (wipeE (lockAt ρ1 l) vs) (wipe σ vs) D := fun ⟨i, o, e⟩ => by
    obtain ⟨n, o⟩ := wipe_ex o
    rw [wipe_get n] at e
    exact hDG (RL.exG ⟨i, o, e⟩)
  refine ⟨fun i m H2 => ∃ ρ2 G2 acc das, i ≤ ds.length ∧ m = ds.length - i ∧ AftS C G1 (lockAt ρ1 l) σ H1 G2 ρ2 (wipe σ vs) H2 ∧ (∀ j, j ∉ vs → (ρ2[j]?.map (Option.map Cell.kind)) = ((lockAt ρ1 l)[j]?.map (Option.map Cell.kind))) ∧
    (∀ a ∈ D :: G1, a ∈ G2) ∧ ¬ ExSl ρ2 (wipe σ vs) D ∧ H2 D = some (.lst acc) ∧ RepAll (Fb C G2) H2 acc das ∧ das.length ≤ i ∧ Tot (compL g t fe vs (ds.drop i) das.reverse) ρ2 ∧ ∀ r ρ', Can (compL g t fe vs (ds.drop i) das.reverse) ρ2 r ρ' → Can (compL g t fe vs ds []) (wipeE (lockAt ρ1 l) vs) r ρ',
    ⟨ds.length, wipeE (lockAt ρ1 l) vs, D :: G1, [], [], Nat.zero_le _, rfl, A0, fun j n => by rw [wipeE_out n], fun _ z => z, nD0, upd_same, .nil, Nat.le_refl _, by simpa using T3.fst, fun r ρ' c => by simpa using c⟩, ?_⟩
  rintro i m H2 ⟨ρ2, G2, acc, das, hi, rfl, A2, sh, hsub, nD, eD, ra, hal, T4, back⟩
  have hDG2 := hsub D List.mem_cons_self
  obtain ⟨hgo, hstop, hyld⟩ := ok G2 ρ2 _ H2 A2
  by_cases hlt : i < ds.length
  · refine .inr ⟨hgo i hlt, _, fun H' hN => ⟨ds.length - (i + 1), by omega, hN⟩, fun x H3 hy => ?_⟩
    obtain ⟨d, hd, st⟩ := hyld i x H3 hlt hy
    obtain ⟨G3, A3, p3, _⟩ := st.aft A2.rs
    rw [drop_get hd] at T4 back
    refine ⟨C, G3, ρ2, d, A3.rs, p3, T4.fst, fun ρ4 G4 σ4 H4 c4 A4 o4 => ?_⟩
    have T5 := T4.snd c4
    refine ⟨wipe_only o4 hj, C, G4, ρ4, A4.rs, T5.fst, fun b ρ5 G5 H5 c5 A5 => ?_⟩
    have T6 := T5.snd c5
    -- D is not looked at meanwhile
    have A34 := A3.aftS.trans A4
    have A35 := A34.trans A5.aftS
    have g35 : ∀ a ∈ G2, a ∈ G5 := fun a z => A5.gx.1 a (o4.gs a (A3.gx.1 a z))
    have d2 : H2 D ≠ none := by rw [eD]; simp
    have nO : ¬ OwnSl ρ2 (wipe σ vs) D := fun z => nD z.ex
    have nS := A2.rs.notS hDG2
    have sh4 : ∀ j, j ∉ vs → (ρ4[j]?.map (Option.map Cell.kind)) = ((lockAt ρ1 l)[j]?.map (Option.map Cell.kind)) := fun j n => by rw [(o4.at_ j fun z => n (hj j z)).1]; exact sh j n
    cases b with
    | false =>
      have w : ∃ ρ2 G2 acc das, i + 1 ≤ ds.length ∧ ds.length - (i + 1) = ds.length - (i + 1) ∧ AftS C G1 (lockAt ρ1 l) σ H1 G2 ρ2 (wipe σ vs) H5 ∧ (∀ j, j ∉ vs → (ρ2[j]?.map (Option.map Cell.kind)) = ((lockAt ρ1 l)[j]?.map (Option.map Cell.kind))) ∧
          (∀ a ∈ D :: G1, a ∈ G2) ∧ ¬ ExSl ρ2 (wipe σ vs) D ∧ H5 D = some (.lst acc) ∧ RepAll (Fb C G2) H5 acc das ∧ das.length ≤ i + 1 ∧ Tot (compL g t fe vs (ds.drop (i + 1)) das.reverse) ρ2 ∧ ∀ r ρ', Can (compL g t fe vs (ds.drop (i + 1)) das.reverse) ρ2 r ρ' → Can (compL g t fe vs ds []) (wipeE (lockAt ρ1 l) vs) r ρ' := by
        have AW := (A2.trans A35).wipe vs
        rw [wipe_only o4 hj] at AW
        have T7 : Tot (bnd (wipeM vs) fun _ => compL g t fe vs (ds.drop (i + 1)) das.reverse) ρ5 := T6
        refine ⟨_, G5, acc, das, hlt, rfl, AW, fun j n => ?_, fun a z => g35 a (hsub a z), fun z => ?_, A35.fr.keep D _ eD nS nO, ra.to (carryS A2.rs A35), by omega, T7.snd Can.wipeM, fun r ρ' c => ?_⟩
        · rw [wipeE_out n]; exact (A5.sh j).trans (sh4 j n)
        · have AW' := A35.wipe vs
          rw [wipe_only o4 hj] at AW'
          exact (AW'.exSl z).elim nD d2
        · have c7 : Can (bnd (wipeM vs) fun _ => compL g t fe vs (ds.drop (i + 1)) das.reverse) ρ5 r ρ' := Can.wipeM.bnd c
          exact back r ρ' (c4.bnd (c5.bnd c7))
      exact w
    | true =>
      refine iteT ?_
      have T6 : Tot (bnd fe fun c => bnd (opt (esc c)) fun y => bnd (wipeM vs) fun _ => compL g t fe vs (ds.drop (i + 1)) (y :: das.reverse)) ρ5 := T6
      refine ⟨C, G5, ρ5, A5.rs, T6.fst, fun c ρ6 G6 y H6 c6 A6 p6 n6 => ?_⟩
      have T7 := T6.snd c6
      obtain ⟨yd, ey⟩ := T7.fst.opt
      have T8 := T7.snd (a := yd) (by rw [ey]; exact Can.opt)
      obtain ⟨G7, A7, ry⟩ := esc_one A5.rs A6 p6 n6 ey
      have A37 := A35.trans A7.aftS
      have eD6 : H6 D = some (.lst acc) := A37.fr.keep D _ eD nS nO
      have ra6 := ra.to (carryS A2.rs A37)
      have g37 : ∀ a ∈ G2, a ∈ G7 := fun a z => A7.gx.1 a (g35 a z)
      have hDG7 := g37 D hDG2
      refine ⟨acc, eD6, by rw [ra.length]; omega, ?_⟩
      have w : ∃ ρ2 G2 acc' das', i + 1 ≤ ds.length ∧ ds.length - (i + 1) = ds.length - (i + 1) ∧ AftS C G1 (lockAt ρ1 l) σ H1 G2 ρ2 (wipe σ vs) (upd H6 D (.lst (acc ++ [y]))) ∧ (∀ j, j ∉ vs → (ρ2[j]?.map (Option.map Cell.kind)) = ((lockAt ρ1 l)[j]?.map (Option.map Cell.kind))) ∧
          (∀ a ∈ D :: G1, a ∈ G2) ∧ ¬ ExSl ρ2 (wipe σ vs) D ∧ (upd H6 D (.lst (acc ++ [y]))) D = some (.lst acc') ∧ RepAll (Fb C G2) (upd H6 D (.lst (acc ++ [y]))) acc' das' ∧ das'.length ≤ i + 1 ∧ Tot (compL g t fe vs (ds.drop (i + 1)) das'.reverse) ρ2 ∧ ∀ r ρ', Can (compL g t fe vs (ds.drop (i + 1)) das'.reverse) ρ2 r ρ' → Can (compL g t fe vs ds []) (wipeE (lockAt ρ1 l) vs) r ρ' := by
        have AW := (A2.trans A37).wipe vs
        rw [wipe_only o4 hj] at AW
        have AW' := A37.wipe vs
        rw [wipe_only o4 hj] at AW'
        have nD7 : ¬ ExSl (wipeE ρ6 vs) (wipe σ vs) D := fun z => (AW'.exSl z).elim nD d2
        have hk : ∀ b o, H6 b = some o → ¬ Fb C G7 b → ¬ Fb C G7 b ∧ upd H6 D (.lst (acc ++ [y])) b = some o := fun b o e n => ⟨n, upd_get (fun z : b = D => n (.inr (z ▸ hDG7))) e⟩
        refine ⟨_, G7, acc ++ [y], das ++ [yd], hlt, rfl, AW.poke hDG7 nD7 hD, fun j n => ?_, fun a z => g37 a (hsub a z), nD7, upd_same, (ra6.append (.cons ry .nil)).to hk, by rw [List.length_append]; simp; omega, ?_, fun r ρ' c => ?_⟩
        · rw [wipeE_out n]; exact ((A5.sh.trans A6.sh) j).trans (sh4 j n)
        · rw [List.reverse_append]; exact T8.snd Can.wipeM
        · rw [List.reverse_append] at c
          exact back r ρ' (c4.bnd (c5.bnd (Can.bnd c6 (Can.bnd (a := yd) (by rw [ey]; exact Can.opt) (Can.bnd Can.wipeM c)))))
      exact w
  · have e : i = ds.length := by omega
    subst e
    refine .inl ⟨hstop _ (Nat.le_refl _), ?_⟩
    rw [List.drop_length] at T4 back
    obtain ⟨AE, hx⟩ := lc_end (fun a z => hsub a (List.mem_cons_of_mem _ z)) A.rs hml hw A2 sh
    have cE := back das.reverse.reverse ρ2 Can.ret
    rw [List.reverse_reverse] at cE
    refine k (.own (.list das)) _ G2 (.ref D) H2 (cn.bnd ?_) (A.trans AE) ⟨D, rfl, hDG2, fun z => nD (hx D z), .lst acc, eD, ra⟩ ⟨D, rfl, there_none A.fr.there hD⟩
    rw [if_pos hlen]
    refine (Can.lockM hml).bnd (Can.getE.bnd ?_)
    rw [if_pos hw]
    exact Can.wipeM.bnd (cE.bnd (Can.backM.bnd (Can.freeM.bnd Can.ret)))
theorem dts_nil : PTs X [] (liftT tYesD) := ⟨fun pins s σ H Q I hw => pts_nil.run pins s σ H Q I (lift_retT hw)⟩
theorem dts_one {c : Expr} (h : PT X c (liftT t)) : PTs X [c] (liftT t) := pts_one h
theorem de_lc {scope : Scope} {own : List (Str × Nat)} (hc : X.calm = true) (hN : X.N.Nodup) (hi : PI X tg iter (liftI fi)) (ok : BlkOk X.N X.env.scope scope own)
    (hg : ∀ (s : Shared) (H : Hp) (C : Addr) (cl : List (Str × Addr)) (fp : List Addr), PG (X.blk s H scope (compEnvC scope cl C X.env) fp) tg (liftG js g)) (ht : ∀ (s : Shared) (H : Hp) (C : Addr) (cl : List (Str × Addr)) (fp : List Addr), PTs (X.blk s H scope (compEnvC scope cl C X.env) fp) ifs (liftT t))
    (he : ∀ (s : Shared) (H : Hp) (C : Addr) (cl : List (Str × Addr)) (fp : List Addr), PE (X.blk s H scope (compEnvC scope cl C X.env) fp) elt (liftE fe)) (hj : ∀ j ∈ js, j ∈ own.map (·.2)) (hs : ∀ x, foldedSetIterable iter X.env x = pure x := by intro _; rfl) :
    PE X (.ListComp elt [⟨tg, iter, ifs, 0⟩] scope pos) (liftE (dLc (own.map (·.2)) fi g t fe)) := pe_mono (pe_lc hc hN hi ok hg ht he hs) fun _ _ _ h => lift_lc hj h
theorem ds_setLc (i : Nat) {y : Str} {py spos : Pos} {scope : Scope} {own : List (Str × Nat)} (hc : X.calm = true) (hN : X.N.Nodup) (hy : X.N[i]? = some y) (hyl : X.env.scope.names.lookup y = some .local)
    (hsw : swapsWith (.ListComp elt [⟨tg, iter, ifs, 0⟩] scope pos) (some (.Name y py)) spos.line X.env = pure true) (hi : PI X tg iter (liftI fi)) (ok : BlkOk X.N X.env.scope scope own)
    (hg : ∀ (s : Shared) (H : Hp) (C : Addr) (cl : List (Str × Addr)) (fp : List Addr), PG (X.blk s H scope (compEnvC scope cl C X.env) fp) tg (liftG js g)) (ht : ∀ (s : Shared) (H : Hp) (C : Addr) (cl : List (Str × Addr)) (fp : List Addr), PTs (X.blk s H scope (compEnvC scope cl C X.env) fp) ifs (liftT t))
    (he : ∀ (s : Shared) (H : Hp) (C : Addr) (cl : List (Str × Addr)) (fp : List Addr), PE (X.blk s H scope (compEnvC scope cl C X.env) fp) elt (liftE fe)) (hj : ∀ j ∈ js, j ∈ own.map (·.2)) (hs : ∀ x, foldedSetIterable iter X.env x = pure x := by intro _; rfl) :
    PS X (.Assign [.Name y py] (.ListComp elt [⟨tg, iter, ifs, 0⟩] scope pos) spos) (liftS (sSet i (dLc (own.map (·.2)) fi g t fe))) := ps_mono (ps_setLc hc hN hy hyl hsw hi ok hg ht he hs) fun D σ H h => by
  have q := lift_set h
  exact lift_lc hj q
end
end DL
set_option Elab.async false
set_option linter.all false
set_option maxRecDepth 100000
set_option maxHeartbeats 1000000
/-! Part 11: defs and their calls. -/
namespace DL
open PySem PySem.Spec L2
open PyProof.Rows hiding St
variable [Fam]

/-! ### a def's promise, where nothing is being shown -/
structure FnG (P : Program) (w : World) (K : PySem.W.Frag) (mg : Str → Option Value) (base : Heap) (CX : CXT) (k : Nat) (f : Addr) (fd : FuncData) (ps : List Str) (sp : Sp) : Prop where
  len : ∀ vs H Q E, sp vs H Q E → vs.length = ps.length
  run : ∀ (A : Around) (outer : List Env) (s : Shared) (H : Hp) (args : Args) (us : List Value) (vs : List V) (Q : VK) (E : XK), Rm k A → Env0 P w K mg base A outer s H → BindsTo s fd args (ps.zip us) → Vals vs us → sp vs H Q E →
    codeAny (model P w) A (.call (.ref f) args) (CR CX outer P w H s Q E) s
section
variable {P : Program} {w : World} {K : PySem.W.Frag} {mg : Str → Option Value} {base : Heap}
theorem FnG.mono {CX : CXT} {j k : Nat} {f : Addr} {fd : FuncData} {ps : List Str} {sp : Sp} (F : FnG P w K mg base CX j f fd ps sp) (h : j ≤ k) : FnG P w K mg base CX k f fd ps sp :=
  ⟨F.len, fun A outer s H args us vs Q E hr => F.run A outer s H args us vs Q E (hr.mono h)⟩
/-- the rule for a def: its body's reading at each entry -/
theorem fng_of {CX : CXT} {k : Nat} {f : Addr} {x qual : Str} {st : Stmt} {fd : FuncData} {N ps : List Str} {sp : Sp} (F : Fun K x qual st f fd) (S : FnScope N ps (defScope st)) (len : ∀ vs H Q E, sp vs H Q E → vs.length = ps.length)
    (hbody : ∀ (cdv : Value) (A : Around) (outer : List Env) (s : Shared) (H : Hp) (vs : List V) (Q : VK) (E : XK), Rm k (A.deeper (envOfC qual (defScope st) s.heap.objs.size f cdv)) → sp vs H Q E →
      ∃ t, PSs (cxOf CX P w K mg base N qual (defScope st) f cdv A outer s H E) (defBody st) t ∧ t { nx := fun _ H' => Q .non H', rt := Q } (start N vs) H) : FnG P w K mg base CX (k + 1) f fd ps sp := by
  obtain ⟨oc, od, kV, doc, pm, an, cdv, ct, osl, rfl, lk, hcd⟩ := F.ex
  refine ⟨len, fun A outer s H args us vs Q E hr e0 hb r hsp => ?_⟩
  have hl := len _ _ _ _ hsp
  have old : ∀ b o, base.get? b = some o → s.heap.get? b = some o := fun b o e => (e0.bs b o e).1
  have KX : K.In s.heap := e0.mod.kin.keeps old
  have kinds : ∀ y ∈ ps.zip us, (defScope st).names.lookup y.1 = some .local ∨ ((defScope st).names.lookup y.1 = some .cell ∧ ((cellsFrom (s.heap.objs.size + 1) (defScope st).names []).lookup y.1).isSome = true) := by
    rintro ⟨n, v⟩ hy
    exact (S.par n (List.of_mem_zip hy).1).imp id fun q => ⟨q, PySem.W.cellsFrom_some _ _ _ (.inl q)⟩
  refine codeAny_call_function hr.room.depth (KX _ _ lk) rfl S.co S.gen rfl (PySem.W.codeRec_of KX hcd) (hb _ _ _ _ (wpAny_newFunctionEnv_cells S.kind kinds fun env he s1 x => ?_))
  subst he
  refine ⟨(e0.mod.nolimit.keeps old).keeps x.toInCall.keep, codeAny_func ?_⟩
  obtain ⟨t, ht, hq⟩ := hbody cdv A outer s H vs Q E (hr.deeper _) hsp
  refine wpAny_mono (ht.run [] s1 (start N vs) H _ (inv_start S hr.room.hd e0 hl r x) hq) (fun fl s' hs => ?_) fun e s' hs => hs
  cases fl with
  | ret u =>
    obtain ⟨v, σ', H', J, rv, q⟩ := hs
    exact ⟨v, H', J.os, J.bare, J.base, J.hok, rv, q⟩
  | next =>
    obtain ⟨σ', H', J, q⟩ := hs
    exact ⟨V.non, H', J.os, J.bare, J.base, J.hok, rfl, q⟩
  | brk => obtain ⟨_, _, _, q⟩ := hs; exact q.elim
  | cont => obtain ⟨_, _, _, q⟩ := hs; exact q.elim
end

/-! ### the promise by a function on data -/
abbrev Fn := List Cell → Om → Option (Cell × Om)
inductive ArgsOk (C : Ctx) (H : Hp) : List V → List Cell → Prop
  | nil : ArgsOk C H [] []
  | val {v : V} {vs : List V} {d : PyData} {cs : List Cell} : Rep C.F0 H v d → ArgsOk C H vs cs → ArgsOk C H (v :: vs) (.val d :: cs)
  | src {vs : List V} {cs : List Cell} : ArgsOk C H vs cs → ArgsOk C H (C.srcv :: vs) (.src :: cs)
def CanF (Φ : Fn) (cs : List Cell) (c : Cell) : Prop := ∀ ω', ∃ ω, Φ cs ω = some (c, ω')
def TotF (Φ : Fn) (cs : List Cell) : Prop := ∀ ω, ∃ r, Φ cs ω = some r
def spD (n : Nat) (Φ : Fn) : Sp := fun vs H Q _ => ∃ C cs, C.H0 = H ∧ cs.length = n ∧ ArgsOk C H vs cs ∧ C.Src C.FS H ∧ TotF Φ cs ∧ ∀ c v H', CanF Φ cs c → RetPost C H' v c → Q v H'
def padE (n : Nat) (cs : List Cell) : Env' := cs.map some ++ List.replicate (n - cs.length) none
/-- a body of n names is run -/
def runB (n : Nat) (body : M Fl) : Fn := fun cs ω => match body (padE n cs) ω with
  | some (.rt c, _, ω') => some (c, ω')
  | some (.nx, _, ω') => some (.val .none, ω')
  | _ => none
theorem ArgsOk.length {C : Ctx} {H : Hp} {vs : List V} {cs : List Cell} (h : ArgsOk C H vs cs) : vs.length = cs.length := by
  induction h with
  | nil => rfl
  | val _ _ ih => simp [ih]
  | src _ ih => simp [ih]
theorem ArgsOk.get {C : Ctx} {H : Hp} {vs : List V} {cs : List Cell} (h : ArgsOk C H vs cs) : ∀ {i : Nat} {c : Cell}, cs[i]? = some c → ∃ v, vs[i]? = some v ∧ ((∃ d, c = .val d ∧ Rep C.F0 H v d) ∨ (c = .src ∧ v = C.srcv)) := by
  induction h with
  | nil => intro i c e; simp at e
  | val r _ ih =>
    intro i c e
    cases i with
    | zero => simp at e; subst e; exact ⟨_, rfl, .inl ⟨_, rfl, r⟩⟩
    | succ i => obtain ⟨v, h1, h2⟩ := ih (i := i) (by simpa using e); exact ⟨v, by simpa using h1, h2⟩
  | src _ ih =>
    intro i c e
    cases i with
    | zero => simp at e; subst e; exact ⟨_, rfl, .inr ⟨rfl, rfl⟩⟩
    | succ i => obtain ⟨v, h1, h2⟩ := ih (i := i) (by simpa using e); exact ⟨v, by simpa using h1, h2⟩
theorem pad_get {n i : Nat} {cs : List Cell} {c : Cell} (h : (padE n cs)[i]? = some (some c)) : cs[i]? = some c := by
  unfold padE at h
  by_cases hi : i < cs.length
  · rw [List.getElem?_append_left (by simpa using hi), List.getElem?_map] at h
    cases e : cs[i]? with
    | none => rw [e] at h; cases h
    | some x => rw [e] at h; cases h; rfl
  · rw [List.getElem?_append_right (by simpa using hi), List.getElem?_replicate] at h
    split at h <;> cases h
theorem start_get {N : List Str} {vs : List V} {i : Nat} {v : V} (h : vs[i]? = some v) : (start N vs)[i]? = some (some v) := by
  have hi := (List.getElem?_eq_some_iff.mp h).1
  unfold L2.start
  rw [List.getElem?_append_left (by simpa using hi), List.getElem?_map, h]
  rfl
theorem rs_start {C : Ctx} {N : List Str} {vs : List V} {cs : List Cell} (h : ArgsOk C C.H0 vs cs) (hs : C.Src C.FS C.H0) : RS C [] (padE N.length cs) (start N vs) C.H0 := by
  have no : ∀ i, ¬ ExAt (padE N.length cs) i := fun i ⟨c, e, x⟩ => by
    obtain ⟨v, _, q⟩ := h.get (pad_get e)
    rcases q with ⟨d, rfl, _⟩ | ⟨rfl, _⟩ <;> cases x
  refine ⟨by simp [L2.start, padE, h.length], fun b o e _ => e, fun a ha => (by cases ha), C.mono _ _ _ (fun b z => z.elim id fun z => by cases z) hs, fun i c e => ?_, fun i j v n hi => absurd hi (no i)⟩
  obtain ⟨v, hv, q⟩ := h.get (pad_get e)
  refine ⟨v, start_get hv, ?_⟩
  rcases q with ⟨d, rfl, r⟩ | ⟨rfl, r⟩
  · exact r.to fun b o e n => ⟨fun z => z.elim n (fun z => by cases z), e⟩
  · exact r
section
variable {P : Program} {w : World} {K : PySem.W.Frag} {mg : Str → Option Value} {base : Heap}
/-- the rule: a def by its body's function on data -/
theorem fn_body {k : Nat} {f : Addr} {x qual : Str} {st : Stmt} {fd : FuncData} {N ps : List Str} {body : M Fl} (F : Fun K x qual st f fd) (S : FnScope N ps (defScope st)) 
    (hbody : ∀ (cdv : Value) (A : Around) (outer : List Env) (s : Shared) (H : Hp), Rm k (A.deeper (envOfC qual (defScope st) s.heap.objs.size f cdv)) → PSs (cxOf CX0 P w K mg base N qual (defScope st) f cdv A outer s H E0).nox (defBody st) (liftS body)) :
    FnG P w K mg base CX0 (k + 1) f fd ps (spD ps.length (runB N.length body)) := by
  refine fng_of F S (fun vs H Q E h => ?_) fun cdv A outer s H vs Q E hr h => ?_
  · obtain ⟨C, cs, _, hl, a, _⟩ := h
    exact a.length.trans hl
  · obtain ⟨C, cs, rfl, hl, a, hs, T, k⟩ := h
    have T' : Tot body (padE N.length cs) := fun ω => by
      obtain ⟨r, e⟩ := T ω
      unfold runB at e
      cases q : body (padE N.length cs) ω with
      | none => rw [q] at e; cases e
      | some x => exact ⟨x, rfl⟩
    refine ⟨_, (hbody cdv A outer s C.H0 hr).nox, C, [], padE N.length cs, rs_start a hs, T', fun fl ρ' G' σ' H' cn A' => ?_, fun c ρ' v H' cn rp => ?_⟩
    · cases fl with
      | nx =>
        refine k (.val .none) .non H' (fun ω' => ?_) ⟨A'.rs.frame, .non, C.mono _ _ _ (fun _ z => .inl z) A'.rs.src⟩
        obtain ⟨ω, e⟩ := cn ω'
        exact ⟨ω, by unfold runB; rw [e]⟩
      | rt c => trivial
      | bk =>
        obtain ⟨ω, e⟩ := cn (fun _ => 0)
        obtain ⟨r, e2⟩ := T ω
        unfold runB at e2
        rw [e] at e2
        cases e2
      | ct =>
        obtain ⟨ω, e⟩ := cn (fun _ => 0)
        obtain ⟨r, e2⟩ := T ω
        unfold runB at e2
        rw [e] at e2
        cases e2
    · refine k c v H' (fun ω' => ?_) rp
      obtain ⟨ω, e⟩ := cn ω'
      exact ⟨ω, by unfold runB; rw [e]⟩
end

/-! ### a def is called -/
mutual
/-- no list, no dict within -/
def flatD : PyData → Bool
  | .none => true
  | .bool _ => true
  | .int _ => true
  | .str _ => true
  | .tuple ds => flatAll ds
  | _ => false
def flatAll : List PyData → Bool
  | [] => true
  | d :: ds => flatD d && flatAll ds
end
section
variable {F F' : Addr → Prop} {H : Hp}
mutual
theorem Rep.flat (h : ∀ b, F' b → F b ∨ ∃ o, H b = some o ∧ Mut (some o)) : ∀ {v : V} {d : PyData}, Rep F H v d → flatD d = true → Rep F' H v d
  | _, _, .non, _ => .non
  | _, _, .bl b, _ => .bl b
  | _, _, .int i, _ => .int i
  | _, _, .str x, _ => .str x
  | _, _, .tup n r k, e => .tup (fun z => by
      rcases h _ z with q | ⟨o, q, m⟩
      · exact n q
      · rcases r with r | ⟨ob, r⟩ <;> (rw [r] at q; cases q; exact m)) r (RepAll.flat h k (by simpa only [flatD] using e))
  | _, _, .lst _ _ _, e => by simp only [flatD] at e; cases e
  | _, _, .dK _ _ _, e => by simp only [flatD] at e; cases e
  | _, _, .dT _ _ _, e => by simp only [flatD] at e; cases e
theorem RepAll.flat (h : ∀ b, F' b → F b ∨ ∃ o, H b = some o ∧ Mut (some o)) : ∀ {v : List V} {d : List PyData}, RepAll F H v d → flatAll d = true → RepAll F' H v d
  | _, _, .nil, _ => .nil
  | _, _, .cons a t, e => by
    simp only [flatAll, Bool.and_eq_true] at e
    exact .cons (Rep.flat h a e.1) (RepAll.flat h t e.2)
end
end
/-- what is handed over; what a name owns is lent -/
def argOf (ρ : Env') : RC → Option (Bool × Cell)
  | .val d => some (false, .val d)
  | .own d => some (false, .val d)
  | .src => some (false, .src)
  | .brw i => match ρ[i]? with
    | some (some (.own d)) => some (true, .val d)
    | some (some (.lck d)) => some (true, .val d)
    | _ => none
def argsOf (ρ : Env') : List RC → Option (Bool × List Cell)
  | [] => some (false, [])
  | c :: cs => match argOf ρ c, argsOf ρ cs with
    | some (a, x), some (b, xs) => some (a || b, x :: xs)
    | _, _ => none
def useF (Φ : Fn) (lent : Bool) (cs : List Cell) : M RC := fun ρ ω => match Φ cs ω with
  | some (.val d, ω') => if !lent || flatD d then some (.val d, ρ, ω') else none
  | some (.own d, ω') => if !lent then some (.own d, ρ, ω') else none
  | _ => none
def callF (Φ : Fn) (cs : List RC) : M RC := fun ρ ω => match argsOf ρ cs with
  | some (l, as) => useF Φ l as ρ ω
  | none => none
def dCallF (Φ : Fn) (fa : M (List RC)) : M RC := bnd fa fun cs => callF Φ cs
section
variable {C : Ctx} {G G' : List Addr} {ρ ρ' : Env'} {σ : L2.St} {H H' H0 : Hp}
def temps : List V → List RC → List Addr
  | .ref a :: vs, .own _ :: cs => a :: temps vs cs
  | _ :: vs, _ :: cs => temps vs cs
  | _, _ => []
def lents : List V → List RC → List Addr
  | .ref a :: vs, .brw _ :: cs => a :: lents vs cs
  | _ :: vs, _ :: cs => lents vs cs
  | _, _ => []
theorem temps_ok : ∀ {vs : List V} {cs : List RC}, PendAll C G ρ σ H H0 vs cs → ∀ a ∈ temps vs cs, ¬ ExSl ρ σ a ∧ H0 a = none ∧ a ∈ G
  | _, _, .nil, a, h => by cases h
  | v :: _, c :: _, .cons p n t, a, h => by
    cases c with
    | own d =>
      obtain ⟨b, rfl, hG, ns, ok⟩ := p
      obtain ⟨b', e, hn⟩ := n
      cases e
      rcases List.mem_cons.mp h with rfl | h
      · exact ⟨ns, hn, hG⟩
      · exact temps_ok t a h
    | val d => cases v <;> exact temps_ok t a h
    | brw i => cases v <;> exact temps_ok t a h
    | src => cases v <;> exact temps_ok t a h
theorem lents_ok : ∀ {vs : List V} {cs : List RC}, PendAll C G ρ σ H H0 vs cs → ∀ a ∈ lents vs cs, ExSl ρ σ a
  | _, _, .nil, a, h => by cases h
  | v :: _, c :: _, .cons p n t, a, h => by
    cases c with
    | brw i =>
      cases v with
      | ref b =>
        rcases List.mem_cons.mp h with rfl | h
        · exact ⟨i, p.2, p.1⟩
        · exact lents_ok t a h
      | _ => exact lents_ok t a h
    | own d => cases v <;> exact lents_ok t a h
    | val d => cases v <;> exact lents_ok t a h
    | src => cases v <;> exact lents_ok t a h
theorem lents_none : ∀ {vs : List V} {cs : List RC} {l : Bool} {as : List Cell}, argsOf ρ cs = some (l, as) → l = false → lents vs cs = []
  | [], [], _, _, _, _ => rfl
  | [], _ :: _, _, _, _, _ => by cases ‹RC› <;> rfl
  | _ :: _, [], _, _, _, _ => by cases ‹V› <;> rfl
  | v :: vs, c :: cs, l, as, e, z => by
    simp only [argsOf] at e
    split at e
    · rename_i a x b xs e1 e2
      cases e
      rw [Bool.or_eq_false_iff] at z
      have ih := lents_none (vs := vs) e2 z.2
      cases c with
      | brw i => simp only [argOf] at e1; split at e1 <;> first | (cases e1; cases z.1) | cases e1
      | own d => cases v <;> exact ih
      | val d => cases v <;> exact ih
      | src => cases v <;> exact ih
    · cases e
theorem args_rep {F : Addr → Prop} {C' : Ctx} (R : RS C G ρ σ H) (hF : ∀ b, C'.F0 b → Fb C G b) (hs : C'.srcv = C.srcv) : ∀ {vs : List V} {cs : List RC} {l : Bool} {as : List Cell}, PendAll C G ρ σ H H0 vs cs → argsOf ρ cs = some (l, as) →
    (∀ a ∈ temps vs cs, ¬ C'.F0 a) → (∀ a ∈ lents vs cs, ¬ C'.F0 a) → ArgsOk C' H vs as
  | _, _, _, _, .nil, e, _, _ => by cases e; exact .nil
  | v :: vs, c :: cs, l, as, .cons p n t, e, ht, hl => by
    have hk : ∀ b o, H b = some o → ¬ Fb C G b → ¬ C'.F0 b ∧ H b = some o := fun b o e n => ⟨fun z => n (hF b z), e⟩
    simp only [argsOf] at e
    split at e
    · rename_i a x b xs e1 e2
      cases e
      cases c with
      | val d => cases e1; exact .val (Rep.to hk p) (args_rep (F := F) R hF hs t e2 (fun a h => ht a (by cases v <;> exact h)) fun a h => hl a (by cases v <;> exact h))
      | own d =>
        cases e1
        obtain ⟨b, rfl, hG, ns, ok⟩ := p
        exact .val (OwnOk.rep (ht b List.mem_cons_self) (ok.to hk fun _ h => h)) (args_rep (F := F) R hF hs t e2 (fun a h => ht a (List.mem_cons_of_mem _ h)) hl)
      | src => cases e1; have p' : v = C.srcv := p; rw [p', ← hs]; exact .src (args_rep (F := F) R hF hs t e2 (fun a h => ht a (by cases v <;> exact h)) fun a h => hl a (by cases v <;> exact h))
      | brw i =>
        obtain ⟨b, d, hv, hG, ok, q⟩ := R.ex p.2
        have p1 := p.1
        rw [hv] at p1; cases p1
        have ex : x = .val d := by rcases q with q | q <;> (simp only [argOf, q, Option.some.injEq, Prod.mk.injEq] at e1; exact e1.2.symm)
        subst ex
        exact .val (OwnOk.rep (hl b List.mem_cons_self) (ok.to hk fun _ h => h)) (args_rep (F := F) R hF hs t e2 ht fun a h => hl a (List.mem_cons_of_mem _ h))
    · cases e
end

/-- the callee's surroundings -/
def Ctx.callee (C : Ctx) (F0 FS : Addr → Prop) (H : Hp) (sub : ∀ b, C.S b → F0 b) (f0 : ∀ b, F0 b → C.S b ∨ H b ≠ none) : Ctx := { C with F0 := F0, FS := FS, H0 := H, sub := sub, f0 := f0 }
section
variable {X : Cx} {Φ : Fn} {n k : Nat} {fa : M (List RC)}
theorem use_ok {C : Ctx} {G G1 : List Addr} {ρ ρ1 : Env'} {σ : L2.St} {H H1 : Hp} {Q : VK} {vs : List V} {cs : List RC} {E : XK} (R : RS C G ρ σ H) (A : Aft C G ρ σ H G1 ρ1 H1) (p : PendAll C G1 ρ1 σ H1 H vs cs) (T1 : Tot (callF Φ cs) ρ1)
    (hn : ∀ cs r ω, Φ cs ω = some r → cs.length = n) (k : ∀ c G' v H', Can (callF Φ cs) ρ1 c ρ1 → Aft C G ρ σ H G' ρ1 H' → Pend C G' ρ1 σ H' v c → New H v c → Q v H') : spD n Φ vs H1 Q E := by
  obtain ⟨⟨l, as⟩, ea⟩ : ∃ q, argsOf ρ1 cs = some q := by
    obtain ⟨r, e⟩ := T1 (fun _ => 0)
    unfold callF at e
    cases q : argsOf ρ1 cs with
    | none => rw [q] at e; cases e
    | some x => exact ⟨x, rfl⟩
  have T2 : Tot (useF Φ l as) ρ1 := fun ω => by
    obtain ⟨r, e⟩ := T1 ω
    unfold callF at e
    rw [ea] at e
    exact ⟨r, e⟩
  have tk := temps_ok p
  have lk := lents_ok p
  let G2 := G1.filter fun b => decide (b ∉ temps vs cs)
  have sub2 : ∀ b ∈ G2, b ∈ G1 := fun b hb => (List.mem_filter.mp hb).1
  have in2 : ∀ b ∈ G1, b ∉ temps vs cs → b ∈ G2 := fun b hb hn => List.mem_filter.mpr ⟨hb, decide_eq_true hn⟩
  have ex2 : ∀ b, ExSl ρ1 σ b → b ∈ G2 := fun b hb => in2 b (A.rs.exG hb) fun z => (tk b z).1 hb
  have out2 : ∀ b ∈ temps vs cs, b ∉ G2 := fun b hb z => (of_decide_eq_true (List.mem_filter.mp z).2) hb
  have R2 : RS C G2 ρ1 σ H1 := A.rs.less sub2 ex2
  have A2 : Aft C G ρ σ H G2 ρ1 H1 := ⟨R2, A.fr, A.sh, fun b hb => in2 b (A.gx.1 b hb) fun z => (R.gs b hb).2.2 (tk b z).2.1, fun b hb => A.gx.2 b (sub2 b hb)⟩
  clear_value G2
  let F0' : Addr → Prop := fun b => Fb C G2 b ∧ b ∉ lents vs cs
  have nlS : ∀ b, C.S b → b ∉ lents vs cs := fun b hb z => R2.notS (ex2 b (lk b z)) hb
  let C' := C.callee F0' (Fs C G2) H1 (fun b hb => ⟨.inl (C.sub b hb), nlS b hb⟩) (fun b hb => .inr (R2.fb_there hb.1))
  have hF : ∀ b, C'.F0 b → Fb C G1 b := fun b hb => hb.1.imp id (sub2 b)
  have ok : ArgsOk C' H1 vs as := args_rep (F := fun _ => True) A.rs hF rfl p ea (fun a h z => z.1.elim (A.rs.gs a (tk a h).2.2).2.1 (out2 a h)) fun a h z => z.2 h
  refine ⟨C', as, rfl, ?_, ok, R2.src, fun ω => ?_, fun c v H2 cf rp => ?_⟩
  · obtain ⟨r, e⟩ := T2 (fun _ => 0)
    unfold useF at e
    cases q : Φ as (fun _ => 0) with
    | none => rw [q] at e; cases e
    | some x => exact hn _ _ _ q
  · obtain ⟨r, e⟩ := T2 ω
    unfold useF at e
    cases q : Φ as ω with
    | none => rw [q] at e; cases e
    | some x => exact ⟨x, rfl⟩
  · have th : ∀ b, H1 b ≠ none → H2 b ≠ none := fun b h => by
      by_cases hs : C.S b
      · cases c with
        | val d => exact C.there _ _ b rp.ok.2 hs
        | own d => obtain ⟨a, _, _, _, _, s⟩ := rp.ok; exact C.there _ _ b s hs
        | _ => exact rp.ok.elim
      · obtain ⟨o, e⟩ := Option.ne_none_iff_exists'.mp h
        rw [rp.frame b o e hs]; simp
    have fr : Fr C ρ1 σ H1 H2 := ⟨fun b o e ns _ => rp.frame b o e ns, th⟩
    have use : ∀ ω', ∃ ω, Φ as ω = some (c, ω') := cf
    have gs2 : ∀ a ∈ G2, C.H0 a = none ∧ ¬ C.F0 a ∧ H2 a ≠ none := fun a ha => ⟨(R2.gs a ha).1, (R2.gs a ha).2.1, th a (R2.gs a ha).2.2⟩
    have fr0 : ∀ b o, C.H0 b = some o → ¬ C.S b → H2 b = some o := fun b o e ns => rp.frame b o (R2.frame b o e ns) ns
    have toFb : l = false → ∀ b, Fb C G2 b → F0' b := fun hl b hb => ⟨hb, by rw [lents_none ea hl]; simp⟩
    cases c with
    | val d =>
      obtain ⟨rv, sv⟩ := rp.ok
      have hok : (!l || flatD d) = true := by
        obtain ⟨ω, e⟩ := use (fun _ => 0)
        obtain ⟨r, e2⟩ := T2 ω
        unfold useF at e2
        rw [e] at e2
        by_cases z : (!l || flatD d) = true
        · exact z
        · simp only [z] at e2; cases e2
      have R3 : RS C G2 ρ1 σ H2 := R2.heap GExt.refl fr0 gs2 sv fun b o e ns => rp.frame b o e ns
      have rv2 : Rep (Fb C G2) H2 v d := by
        rw [Bool.or_eq_true] at hok
        rcases hok with z | z
        · have hl : l = false := by simpa using z
          exact rv.to fun b o e n => ⟨fun q => n (toFb hl b q), e⟩
        · refine rv.flat (fun b hb => ?_) z
          by_cases hL : b ∈ lents vs cs
          · obtain ⟨i, ⟨c, e1, x⟩, e2⟩ := lk b hL
            obtain ⟨a, dd, hs, hG, ⟨o, eo, po⟩, _⟩ := R2.ex ⟨c, e1, x⟩
            rw [e2] at hs; cases hs
            exact .inr ⟨o, rp.frame _ o eo (R2.notS hG), po.mut⟩
          · exact .inl ⟨hb, hL⟩
      refine k (.val d) G2 v H2 (fun ω' => ?_) (A2.trans ⟨R3, fr, Shape.refl, GExt.refl⟩) rv2 trivial
      obtain ⟨ω, e⟩ := use ω'
      exact ⟨ω, by simp only [callF, ea, useF, e, hok, if_true]⟩
    | own d =>
      obtain ⟨a, rfl, h0, nf, ow, sv⟩ := rp.ok
      have hl : l = false := by
        obtain ⟨ω, e⟩ := use (fun _ => 0)
        obtain ⟨r, e2⟩ := T2 ω
        unfold useF at e2
        rw [e] at e2
        cases l with
        | false => rfl
        | true => simp at e2
      have h1 : H1 a = none := h0
      have gx : GExt G2 (a :: G2) H1 := ⟨fun b hb => List.mem_cons_of_mem _ hb, fun b hb => (List.mem_cons.mp hb).elim (fun z => .inr (z ▸ h1)) .inl⟩
      have h00 : C.H0 a = none := by
        cases e : C.H0 a with
        | none => rfl
        | some u =>
          by_cases hs : C.S a
          · exact absurd h1 (C.there _ _ a R2.src hs)
          · rw [R2.frame a u e hs] at h1; cases h1
      have nF : ¬ Fb C G2 a := R2.fresh h1
      have R3 : RS C (a :: G2) ρ1 σ H2 := R2.heap gx fr0 (fun b hb => by
        rcases List.mem_cons.mp hb with rfl | hb
        · exact ⟨h00, fun z => nF (.inl z), ow.there⟩
        · exact gs2 b hb) (C.mono _ _ _ (fun b z => by
          rcases z with z | z
          · exact .inl (.inl z)
          · rcases List.mem_cons.mp z with z | z
            · exact .inr z
            · exact .inl (.inr z)) sv) fun b o e ns => rp.frame b o e ns
      have ow2 : OwnOk (Fb C (a :: G2)) H2 a d := ow.to (fun b o e n => ⟨fun z => n (by
        rcases z with z | z
        · exact .inl (toFb hl b (.inl z))
        · rcases List.mem_cons.mp z with z | z
          · exact .inr z
          · exact .inl (toFb hl b (.inr z))), e⟩) fun _ h => h
      refine k (.own d) (a :: G2) (.ref a) H2 (fun ω' => ?_) (A2.trans ⟨R3, fr, Shape.refl, gx⟩) ⟨a, rfl, List.mem_cons_self, fun z => nF (.inr (R2.exG z)), ow2⟩ ⟨a, rfl, there_none A.fr.there h1⟩
      obtain ⟨ω, e⟩ := use ω'
      exact ⟨ω, by simp only [callF, ea, useF, e, hl]; rfl⟩
    | _ => exact rp.ok.elim
theorem lift_callF {σ : L2.St} {H : Hp} {Q : VK} (h : liftE (dCallF Φ fa) σ H Q) (hn : ∀ cs r ω, Φ cs ω = some r → cs.length = n) {E : XK} : liftA fa σ H fun vs H1 => spD n Φ vs H1 Q E := by
  obtain ⟨C, G, ρ, R, T, k⟩ := h
  exact ⟨C, G, ρ, R, T.fst, fun cs ρ1 G1 vs H1 cn A p => use_ok R A p (T.snd cn) hn fun c G' v H' c2 A2 p2 n2 => k c ρ1 G' v H' (cn.bnd c2) A2 p2 n2⟩
end
end DL
set_option Elab.async false
set_option linter.all false
set_option maxRecDepth 100000
set_option maxHeartbeats 1000000
/-! Part 12: calls of defs, items set, several names set at once, what is owned made common. -/
namespace DL
open PySem PySem.Spec L2
open PyProof.Rows hiding St
variable [Fam]

def perm {α : Type} (π : List Nat) (l : List α) : List α := π.filterMap fun i => l[i]?
theorem perm_vals {xs : List V} {us : List Value} (r : Vals xs us) : ∀ π : List Nat, Vals (perm π xs) (perm π us)
  | [] => .nil
  | i :: π => by
    unfold perm
    cases e : xs[i]? with
    | none =>
      rw [List.filterMap_cons_none e, List.filterMap_cons_none (r.none_of e)]
      exact perm_vals r π
    | some x =>
      obtain ⟨u, hu, ru⟩ := r.get e
      rw [List.filterMap_cons_some e, List.filterMap_cons_some hu]
      exact .cons ru (perm_vals r π)
/-- a def of the text, its function on data, where it stands -/
structure Cal (P : Program) (w : World) (K : PySem.W.Frag) (mg : Str → Option Value) (base : Heap) (k : Nat) (x : Str) (st : Stmt) (ps : List Str) (Φ : Fn) : Prop where
  ex : ∃ f fd, Fun K x x st f fd ∧ FnG P w K mg base CX0 k f fd ps (spD ps.length Φ) ∧ mg x = some (.ref f) ∧ Binds K fd ps []
  ar : ∀ cs r ω, Φ cs ω = some r → cs.length = ps.length
section
variable {P : Program} {w : World} {K : PySem.W.Frag} {mg : Str → Option Value} {base : Heap}
theorem Cal.mono {j k : Nat} {x : Str} {st : Stmt} {ps : List Str} {Φ : Fn} (F : Cal P w K mg base j x st ps Φ) (h : j ≤ k) : Cal P w K mg base k x st ps Φ :=
  ⟨let ⟨f, fd, a, b, c, d⟩ := F.ex; ⟨f, fd, a, b.mono h, c, d⟩, F.ar⟩
/-- another function that gives no more -/
theorem Cal.imp {k : Nat} {x : Str} {st : Stmt} {ps : List Str} {Φ Φ' : Fn} (F : Cal P w K mg base k x st ps Φ) (h : ∀ cs ω r, Φ' cs ω = some r → Φ cs ω = some r) : Cal P w K mg base k x st ps Φ' := by
  obtain ⟨f, fd, a, b, c, d⟩ := F.ex
  refine ⟨⟨f, fd, a, ⟨?_, ?_⟩, c, d⟩, fun cs r ω e => F.ar cs r ω (h _ _ _ e)⟩
  · rintro vs H Q E ⟨C, cs, _, hl, ha, _⟩
    exact ha.length.trans hl
  · rintro A outer s H args us vs Q E hr e0 hb r ⟨C, cs, hH, hl, ha, hs, T, k⟩
    refine b.run A outer s H args us vs Q E hr e0 hb r ⟨C, cs, hH, hl, ha, hs, fun ω => ?_, fun c v H' cf rp => k c v H' (fun ω' => ?_) rp⟩
    · obtain ⟨r, e⟩ := T ω
      exact ⟨r, h _ _ _ e⟩
    · obtain ⟨ω, e⟩ := cf ω'
      obtain ⟨r, e2⟩ := T ω
      have e3 := h _ _ _ e2
      rw [e] at e3
      cases e3
      exact ⟨ω, e2⟩
/-- a body with m parameters -/
def fnB (m n : Nat) (body : M Fl) : Fn := fun cs ω => if Nat.beq cs.length m then runB n body cs ω else none
theorem cal_mk {k : Nat} {f : Addr} {x : Str} {st : Stmt} {fd : FuncData} {N ps : List Str} {body : M Fl} (F : Fun K x x st f fd) (S : FnScope N ps (defScope st)) (hm : mg x = some (.ref f)) (hb : Binds K fd ps [])
    (hbody : ∀ (cdv : Value) (A : Around) (outer : List Env) (s : Shared) (H : Hp), Rm k (A.deeper (envOfC x (defScope st) s.heap.objs.size f cdv)) → PSs (cxOf CX0 P w K mg base N x (defScope st) f cdv A outer s H E0).nox (defBody st) (liftS body)) :
    Cal P w K mg base (k + 1) x st ps (fnB ps.length N.length body) := by
  have G := fn_body F S hbody
  have C0 : ∀ cs ω r, fnB ps.length N.length body cs ω = some r → runB N.length body cs ω = some r ∧ cs.length = ps.length := fun cs ω r e => by
    unfold fnB at e
    split at e
    · rename_i h; exact ⟨e, Nat.eq_of_beq_eq_true h⟩
    · cases e
  refine ⟨⟨f, fd, F, ⟨?_, ?_⟩, hm, hb⟩, fun cs r ω e => (C0 _ _ _ e).2⟩
  · rintro vs H Q E ⟨C, cs, _, hl, ha, _⟩
    exact ha.length.trans hl
  · rintro A outer s H args us vs Q E hr e0 hb r ⟨C, cs, hH, hl, ha, hs, T, k⟩
    refine G.run A outer s H args us vs Q E hr e0 hb r ⟨C, cs, hH, hl, ha, hs, fun ω => ?_, fun c v H' cf rp => k c v H' (fun ω' => ?_) rp⟩
    · obtain ⟨r, e⟩ := T ω
      exact ⟨r, (C0 _ _ _ e).1⟩
    · obtain ⟨ω, e⟩ := cf ω'
      obtain ⟨r, e2⟩ := T ω
      have e3 := (C0 _ _ _ e2).1
      rw [e] at e3
      cases e3
      exact ⟨ω, e2⟩
end
section
variable {X : Cx} {k : Nat} {x : Str} {st : Stmt} {ps ks : List Str} {Φ : Fn} {fa fk : M (List RC)} {p pos kpos : Pos} {e : Expr} {es : List Expr} {kws : List Keyword} {f : Addr} {fd : FuncData} {sp : Sp}
theorem run_fng {pins : List (Addr × Obj)} {σ : L2.St} {H : Hp} {s : Shared} {Q : VK} {vs : List V} {args : Args} {zs : List Value} (F : FnG X.prog X.w X.K X.mg X.base CX0 k f fd ps sp) (hr : Rm k X.A) (I : Inv X pins σ H s) (hb : BindsTo s fd args (ps.zip zs)) (r : Vals vs zs) (h : sp vs H Q E0) :
    wpAny (model X.prog X.w) X.A (call (.ref f) args.pos args.kw) (EP X pins σ Q) X.xe s := by
  refine wpAny_call (codeAny_mono (F.run X.A X.stack s H args zs vs Q E0 hr I.env0 hb r h) fun r s' hq => ?_)
  cases r with
  | error e => exact False.elim hq
  | ok fl =>
    cases fl with
    | ret u => exact I.after hq
    | next => exact False.elim hq
    | brk => exact False.elim hq
    | cont => exact False.elim hq
theorem de_callF (F : Cal X.prog X.w X.K X.mg X.base k x st ps Φ) (hr : Rm k X.A) (hg : Gl X x) (ha : PA X (e :: es) (liftA fa)) (hdb : (x == ("__debug__" : Str)) = false := by decide)
    (he : starEach (e :: es) X.env = (false, eval e X.env) :: starEach es X.env := by rfl) (hpl : (backTo pos (starEach es X.env)).any (·.1) = false := by rfl) : PE X (.Call (.Name x p) (e :: es) [] pos) (liftE (dCallF Φ fa)) := by
  obtain ⟨f, fd, hF, G, hm, hb⟩ := F.ex
  refine ⟨fun pins s σ H Q I h => wpAny_Call_Name_kw (ld_glob I hg hm ?_ hdb)⟩
  have q := lift_callF (n := ps.length) (E := E0) h F.ar
  refine PySem.W.callWith_K (h₀ := X.base) I.ok.mod.kin hF.kp (thn (ha.run pos pins s σ H _ I q) fun us s1 ⟨vs, H1, I1, r, q⟩ => ⟨I1.kIn, ?_⟩) he hpl
  have hl : us.length = ps.length := r.length ▸ G.len _ _ _ _ q
  have b := hb s1 us I1.kIn (by simpa using hl)
  rw [List.append_nil] at b
  exact run_fng (args := ⟨us, []⟩) G hr I1 b r q
theorem de_callF0 (F : Cal X.prog X.w X.K X.mg X.base k x st ps Φ) (hr : Rm k X.A) (hg : Gl X x) (hdb : (x == ("__debug__" : Str)) = false := by decide) : PE X (.Call (.Name x p) [] [] pos) (liftE (dCallF Φ dNil)) := by
  obtain ⟨f, fd, hF, G, hm, hb⟩ := F.ex
  refine ⟨fun pins s σ H Q I h => wpAny_Call_Name_kw (ld_glob I hg hm ?_ hdb)⟩
  have q := lift_callF (n := ps.length) (E := E0) h F.ar
  have q : spD ps.length Φ [] H Q E0 := lift_nil q
  have hl : 0 = ps.length := G.len _ _ _ _ q
  have b := hb s [] I.kIn (by simpa using hl)
  exact PySem.W.callWith_K0 I.kIn hF.kp (run_fng (args := ⟨[], []⟩) G hr I b .nil q)
/-! ### .. by keywords -/
def dKw (π : List Nat) (n1 n2 : Nat) (Φ : Fn) (fa fk : M (List RC)) : M RC := bnd fa fun cs => bnd fk fun ks => if Nat.beq cs.length n1 && Nat.beq ks.length n2 then callF Φ (perm π (cs ++ ks)) else fail
theorem PendAll.append {C : Ctx} {G : List Addr} {ρ : Env'} {σ : L2.St} {H H0 : Hp} : ∀ {vs ws : List V} {cs ds : List RC}, PendAll C G ρ σ H H0 vs cs → PendAll C G ρ σ H H0 ws ds → PendAll C G ρ σ H H0 (vs ++ ws) (cs ++ ds)
  | _, _, _, _, .nil, h => h
  | _, _, _, _, .cons a b t, h => .cons a b (PendAll.append t h)
theorem PendAll.length {C : Ctx} {G : List Addr} {ρ : Env'} {σ : L2.St} {H H0 : Hp} : ∀ {vs : List V} {cs : List RC}, PendAll C G ρ σ H H0 vs cs → vs.length = cs.length
  | _, _, .nil => rfl
  | _, _, .cons _ _ t => congrArg (· + 1) (PendAll.length t)
theorem PendAll.get {C : Ctx} {G : List Addr} {ρ : Env'} {σ : L2.St} {H H0 : Hp} : ∀ {vs : List V} {cs : List RC} {i : Nat} {v : V}, PendAll C G ρ σ H H0 vs cs → vs[i]? = some v → ∃ c, cs[i]? = some c ∧ Pend C G ρ σ H v c ∧ New H0 v c
  | _, _, _, _, .nil, h => by simp at h
  | _, _, 0, _, .cons a b t, h => by simp at h; subst h; exact ⟨_, rfl, a, b⟩
  | _, _, i + 1, _, .cons a b t, h => by
    obtain ⟨c, e, q⟩ := PendAll.get (i := i) t (by simpa using h)
    exact ⟨c, by simpa using e, q⟩
theorem PendAll.perm {C : Ctx} {G : List Addr} {ρ : Env'} {σ : L2.St} {H H0 : Hp} {vs : List V} {cs : List RC} (p : PendAll C G ρ σ H H0 vs cs) : ∀ π : List Nat, PendAll C G ρ σ H H0 (DL.perm π vs) (DL.perm π cs)
  | [] => .nil
  | i :: π => by
    unfold DL.perm
    cases e : vs[i]? with
    | none =>
      have e2 : cs[i]? = none := by rw [List.getElem?_eq_none_iff] at e ⊢; rw [← p.length]; exact e
      rw [List.filterMap_cons_none e, List.filterMap_cons_none e2]
      exact PendAll.perm p π
    | some x =>
      obtain ⟨c, hc, a, b⟩ := p.get e
      rw [List.filterMap_cons_some e, List.filterMap_cons_some hc]
      exact .cons a b (PendAll.perm p π)
theorem dk_nil : PK X [] (liftA dNil) := ⟨fun pos pins s σ H Q I h => pk_nil.run pos pins s σ H Q I (lift_nil h)⟩
theorem dk_cons {nm : Option Str} {f : M RC} {g : M (List RC)} (ha : PE X e (liftE f)) (hr : PK X kws (liftA g)) : PK X (⟨nm, e, kpos⟩ :: kws) (liftA (dCons f g)) := ⟨fun pos pins s σ H Q I h => (pk_cons ha hr).run pos pins s σ H Q I (lift_cons h)⟩
theorem lift_kw {π : List Nat} {n1 n2 : Nat} {σ : L2.St} {H : Hp} {Q : VK} {E : XK} (h : liftE (dKw π n1 n2 Φ fa fk) σ H Q) (hn : ∀ cs r ω, Φ cs ω = some r → cs.length = ps.length) :
    liftA fa σ H fun vs H1 => liftA fk σ H1 fun zs H2 => vs.length = n1 ∧ zs.length = n2 ∧ spD ps.length Φ (perm π (vs ++ zs)) H2 Q E := by
  obtain ⟨C, G, ρ, R, T, k⟩ := h
  refine ⟨C, G, ρ, R, T.fst, fun cs ρ1 G1 vs H1 cn A p => ?_⟩
  have T1 := T.snd cn
  refine ⟨C, G1, ρ1, A.rs, T1.fst, fun ks ρ2 G2 zs H2 cn2 A2 p2 => ?_⟩
  have T2 := T1.snd cn2
  by_cases hl : (Nat.beq cs.length n1 && Nat.beq ks.length n2) = true
  case neg => rw [if_neg hl] at T2; exact T2.fail.elim
  rw [if_pos hl] at T2
  rw [Bool.and_eq_true] at hl
  have l1 := Nat.eq_of_beq_eq_true hl.1
  have l2 := Nat.eq_of_beq_eq_true hl.2
  refine ⟨p.length.trans l1, p2.length.trans l2, ?_⟩
  have pp := ((p.carry A.rs A2).append (p2.back A.fr.there)).perm π
  have A12 := A.trans A2
  refine use_ok R A12 pp T2 hn fun c G' v H' c2 A3 p3 n3 => k c ρ2 G' v H' (cn.bnd (cn2.bnd ?_)) A3 p3 n3
  rw [if_pos (by rw [Bool.and_eq_true]; exact hl)]
  exact c2
/-- how keywords bind, once for a def -/
def KwB (x : Str) (st : Stmt) (ps ks : List Str) (π : List Nat) (n1 n2 : Nat) : Prop := ∀ (kV doc pm : Value) (an : Option Addr) (cdv ct : Value) (us ws : List Value), us.length = n1 → ws.length = n2 → bindArgs (PySem.W.fnOf x x (defArgs st) (defBody st) (defScope st) .none kV doc pm an cdv ct) ⟨us, ks.zip ws⟩ = pure (ps.zip (perm π (us ++ ws)))
theorem de_callK {π : List Nat} {n1 n2 : Nat} (F : Cal X.prog X.w X.K X.mg X.base k x st ps Φ) (hr : Rm k X.A) (hg : Gl X x) (hb : KwB x st ps ks π n1 n2) (ha : PA X (e :: es) (liftA fa)) (hkw : PK X kws (liftA fk))
    (hall : (backToKw pos (keywordEach kws X.env)).all (·.1.isSome) = true := by rfl) (hks : (backToKw pos (keywordEach kws X.env)).filterMap (·.1) = ks := by rfl) (hdb : (x == ("__debug__" : Str)) = false := by decide)
    (he : starEach (e :: es) X.env = (false, eval e X.env) :: starEach es X.env := by rfl) (hpl : ((backTo pos (starEach (e :: es) X.env)).any (·.1) || (backToKw pos (keywordEach kws X.env)).any (·.1.isNone)) = false := by rfl) :
    PE X (.Call (.Name x p) (e :: es) kws pos) (liftE (dKw π n1 n2 Φ fa fk)) := by
  obtain ⟨f, fd, hF, G, hm, _⟩ := F.ex
  have hkp := hF.kp
  obtain ⟨oc, od, kV, doc, pm, an, cdv, ct, osl, rfl, lk, hcd⟩ := hF.ex
  refine ⟨fun pins s σ H Q I h => wpAny_Call_Name_kw (ld_glob I hg hm ?_ hdb)⟩
  have q := lift_kw (E := E0) h F.ar
  refine PySem.W.callWith_KW (h₀ := X.base) I.ok.mod.kin hkp hall (thn (ha.run pos pins s σ H _ I q) fun us s1 ⟨vs, H1, I1, r, q1⟩ => ?_) hpl he
  refine thn (hkw.run pos pins s1 σ H1 _ I1 q1) fun ws s2 ⟨zs, H2, I2, rz, l1, l2, q2⟩ => ⟨I2.kIn, ?_⟩
  rw [hks]
  exact run_fng (args := ⟨us, ks.zip ws⟩) G hr I2 (.of_eq (hb kV doc pm an cdv ct us ws (r.length ▸ l1) (rz.length ▸ l2))) (perm_vals (r.append rz) π) q2
theorem de_callK0 {π : List Nat} {n2 : Nat} (F : Cal X.prog X.w X.K X.mg X.base k x st ps Φ) (hr : Rm k X.A) (hg : Gl X x) (hb : KwB x st ps ks π 0 n2) (hkw : PK X kws (liftA fk))
    (hall : (backToKw pos (keywordEach kws X.env)).all (·.1.isSome) = true := by rfl) (hks : (backToKw pos (keywordEach kws X.env)).filterMap (·.1) = ks := by rfl) (hdb : (x == ("__debug__" : Str)) = false := by decide)
    (hpl : ((backTo pos (starEach [] X.env)).any (·.1) || (backToKw pos (keywordEach kws X.env)).any (·.1.isNone)) = false := by rfl) :
    PE X (.Call (.Name x p) [] kws pos) (liftE (dKw π 0 n2 Φ dNil fk)) := by
  obtain ⟨f, fd, hF, G, hm, _⟩ := F.ex
  have hkp := hF.kp
  obtain ⟨oc, od, kV, doc, pm, an, cdv, ct, osl, rfl, lk, hcd⟩ := hF.ex
  refine ⟨fun pins s σ H Q I h => wpAny_Call_Name_kw (ld_glob I hg hm ?_ hdb)⟩
  have q := lift_nil (lift_kw (E := E0) h F.ar)
  refine PySem.W.callWith_KW0 (h₀ := X.base) I.ok.mod.kin hkp hall (thn (hkw.run pos pins s σ H _ I q) fun ws s2 ⟨zs, H2, I2, rz, l1, l2, q2⟩ => ⟨I2.kIn, ?_⟩) hpl
  rw [hks]
  exact run_fng (args := ⟨[], ks.zip ws⟩) G hr I2 (.of_eq (hb kV doc pm an cdv ct [] ws rfl (rz.length ▸ l2))) (perm_vals (Vals.append .nil rz) π) q2
end

/-! ### what a name owns becomes common -/
def frzAt (ρ : Env') (i : Nat) : Env' := match ρ[i]? with
  | some (some (.own d)) => ρ.set i (some (.val d))
  | _ => ρ
def sFrz (i : Nat) (f : M Fl) : M Fl := fun ρ ω => f (frzAt ρ i) ω
section
variable {C : Ctx} {G : List Addr} {ρ : Env'} {σ : L2.St} {H : Hp} {i : Nat}
theorem RS.frz (R : RS C G ρ σ H) (i : Nat) : ∃ G', AftS C G ρ σ H G' (frzAt ρ i) σ H := by
  by_cases h : ∃ d, ρ[i]? = some (some (.own d))
  · obtain ⟨d, e⟩ := h
    obtain ⟨a, hs, hG, ok⟩ := R.own e
    have eq : frzAt ρ i = ρ.set i (some (.val d)) := by simp only [frzAt, e]
    have sub : ∀ b ∈ G.filter (fun b => decide (b ≠ a)), b ∈ G := fun b hb => (List.mem_filter.mp hb).1
    have na : a ∉ G.filter (fun b => decide (b ≠ a)) := fun z => (of_decide_eq_true (List.mem_filter.mp z).2) rfl
    have hk : ∀ b o, H b = some o → ¬ Fb C G b → ¬ Fb C (G.filter fun b => decide (b ≠ a)) b ∧ H b = some o := fun b o e n => ⟨fun z => n (z.imp id (sub b)), e⟩
    have hx : ∀ {j c}, (ρ.set i (some (Cell.val d)))[j]? = some (some c) → c.excl = true → j ≠ i ∧ ρ[j]? = some (some c) := fun {j c} ec x => by
      rcases set_at ec with ⟨rfl, rfl⟩ | q
      · cases x
      · exact q
    rw [eq]
    refine ⟨_, ⟨by simp [R.len], R.frame, fun b hb => R.gs b (sub b hb), C.mono _ _ _ (fun b z => z.imp id (sub b)) R.src, fun j c ec => ?_, fun j k v n ⟨c1, e1, x1⟩ ⟨c2, e2, x2⟩ => ?_⟩, Fr.refl, fun b hb => .inl (sub b hb), fun b ⟨j, ⟨d', e1⟩, e2⟩ => ?_, fun j d' e1 => ?_⟩
    · rcases set_at ec with ⟨rfl, rfl⟩ | ⟨n, ec⟩
      · exact ⟨_, hs, OwnOk.rep (fun z => z.elim (R.gs a hG).2.1 na) (ok.to hk fun _ h => h)⟩
      · obtain ⟨v, hv, s⟩ := R.slot j c ec
        refine ⟨v, hv, ?_⟩
        have oth : ∀ b, c.excl = true → v = .ref b → b ∈ G → b ∈ G.filter (fun b => decide (b ≠ a)) := fun b x z hb => List.mem_filter.mpr ⟨hb, decide_eq_true fun w => by
          subst w; subst z
          exact R.sep j i _ n ⟨c, ec, x⟩ ⟨_, e, rfl⟩ hv hs⟩
        cases c with
        | val d2 => exact Rep.to hk s
        | own d2 => obtain ⟨b, rfl, g, ok2⟩ := s; exact ⟨b, rfl, oth b rfl rfl g, ok2.to hk fun _ h => h⟩
        | lck d2 => obtain ⟨b, rfl, g, ok2⟩ := s; exact ⟨b, rfl, oth b rfl rfl g, ok2.to hk fun _ h => h⟩
        | src => exact s
    · exact R.sep j k v n ⟨c1, (hx e1 x1).2, x1⟩ ⟨c2, (hx e2 x2).2, x2⟩
    · exact .inl ⟨j, ⟨d', (hx e1 rfl).2⟩, e2⟩
    · exact ⟨(hx e1 rfl).2, rfl⟩
  · have eq : frzAt ρ i = ρ := by
      simp only [frzAt]
      split
      · rename_i d e; exact absurd ⟨d, e⟩ h
      · rfl
    rw [eq]
    exact ⟨G, .refl R⟩
theorem lift_frz {f : M Fl} {D : Ends} (h : liftS (sFrz i f) D σ H) : liftS f D σ H := by
  obtain ⟨C, G, ρ, R, T, k, kr⟩ := h
  obtain ⟨G', A⟩ := R.frz i
  exact ⟨C, G', frzAt ρ i, A.rs, T, fun fl ρ2 G2 σ2 H2 cn A2 => k fl ρ2 G2 σ2 H2 cn (A.trans A2), kr⟩
end
section
variable {X : Cx} {st : Stmt} {sts : List Stmt} {f : M Fl}
/-- ahead of a statement, of a block -/
theorem ds_frz (i : Nat) (h : PS X st (liftS f)) : PS X st (liftS (sFrz i f)) := ps_mono h fun _ _ _ h => lift_frz h
theorem dss_frz (i : Nat) (h : PSs X sts (liftS f)) : PSs X sts (liftS (sFrz i f)) := pss_mono h fun _ _ _ h => lift_frz h
end

/-! ### several names set at once -/
section
variable {X : Cx} {fa : M (List RC)} {pos : Pos}
/-- both wait; each goes to its name -/
theorem AftS.put1 {C : Ctx} {G G1 : List Addr} {ρ ρ1 : Env'} {σ σ1 : L2.St} {H H1 : Hp} {v : V} {c : RC} {c' : Cell} {i : Nat} (A : AftS C G ρ σ H G1 ρ1 σ1 H1) (p : Pend C G1 ρ1 σ1 H1 v c) (n : New H v c) (hc : cellOf c = some c') (hi : i < ρ1.length) :
    AftS C G ρ σ H G1 (ρ1.set i (some c')) (σ1.set i (some v)) H1 := by
  obtain ⟨R2, o2, l2⟩ := AftS.put (H0 := H) A.rs p hc hi
  refine ⟨R2, A.fr, A.gx, fun b z => ?_, fun j d z => ?_⟩
  · rcases o2 b z with z | ⟨d, rfl, rfl⟩
    · exact A.ox b z
    · exact .inr n.at
  · obtain ⟨e1, q1⟩ := l2 j d z
    obtain ⟨e2, q2⟩ := A.lk j d e1
    exact ⟨e2, q1.trans q2⟩
end
end DL
set_option Elab.async false
set_option linter.all false
set_option maxRecDepth 100000
set_option maxHeartbeats 1000000
/-! Part 13: two and three names set at once; an item of a list set. -/
namespace DL
open PySem PySem.Spec L2
open PyProof.Rows hiding St
variable [Fam]

def sPar2 (i j : Nat) (fa fb : M RC) : M Fl := bnd fa fun c => bnd fb fun d => bnd (opt (cellOf c)) fun c' => bnd (opt (cellOf d)) fun d' => bnd (putC i c') fun _ => bnd (putC j d') fun _ => ret .nx
def sPar3 (i j k : Nat) (fa fb fc : M RC) : M Fl := bnd fa fun c => bnd fb fun d => bnd fc fun e => bnd (opt (cellOf c)) fun c' => bnd (opt (cellOf d)) fun d' => bnd (opt (cellOf e)) fun e' =>
  bnd (putC i c') fun _ => bnd (putC j d') fun _ => bnd (putC k e') fun _ => ret .nx
section
variable {C : Ctx} {G G' : List Addr} {ρ ρ' : Env'} {σ : L2.St} {H H' : Hp} {v w : V} {c d : RC} {c' : Cell} {i : Nat}
theorem set_ex {k : Nat} (h : ExAt (ρ.set i (some c')) k) (n : k ≠ i) : ExAt ρ k := by
  obtain ⟨x, e, q⟩ := h
  rw [List.getElem?_set_ne (Ne.symm n)] at e
  exact ⟨x, e, q⟩
theorem Pend.put {x : Cell} (p : Pend C G ρ σ H w d) (hd : cellOf d = some x) (n : ∀ a, (∃ z, d = .own z) → w = .ref a → v ≠ .ref a) : Pend C G (ρ.set i (some c')) (σ.set i (some v)) H w d := by
  cases d with
  | val z => exact p
  | own z =>
    obtain ⟨a, rfl, hG, ns, ok⟩ := p
    refine ⟨a, rfl, hG, fun ⟨k, o, e⟩ => ?_, ok⟩
    by_cases h : k = i
    · subst h
      by_cases hl : k < σ.length
      · rw [List.getElem?_set_self hl] at e
        exact n a ⟨z, rfl⟩ rfl (Option.some.inj (Option.some.inj e))
      · rw [List.getElem?_eq_none (by rw [List.length_set]; omega)] at e
        cases e
    · rw [List.getElem?_set_ne (Ne.symm h)] at e
      exact ns ⟨k, set_ex o h, e⟩
  | src => exact p
  | brw k => cases hd
/-- what is new is not what stands -/
theorem new_ne (p : Pend C G ρ σ H v c) (hc : cellOf c = some c') (n : New H w d) : ∀ a, (∃ z, d = .own z) → w = .ref a → c ≠ .src → v ≠ .ref a := by
  rintro a ⟨z, rfl⟩ rfl hs rfl
  have h := n.at
  cases c with
  | val y => cases p with
    | lst _ r _ => exact rd_some r h
    | tup _ r _ => exact rd_some r h
    | dK _ r _ => exact rd_some r h
    | dT _ r _ => exact rd_some r h
  | own y => obtain ⟨b, e, _, _, ok⟩ := p; cases e; exact ok.there h
  | src => exact hs rfl
  | brw k => cases hc
end
section
variable {X : Cx} {i j l : Nat} {x y z : Str} {a b c : Expr} {fa fb fc : M RC} {px py pz pt pos : Pos} {kt k2 : Nat} {pt2 : Pos}
/-- no source among them -/
def noSrc : RC → Bool
  | .src => false
  | _ => true
def nsM (f : M RC) : M RC := bnd f fun c => if noSrc c then ret c else fail
theorem lift_par2 {D : Ends} {σ : L2.St} {H : Hp} (h : liftS (sPar2 i j (nsM fa) fb) D σ H) : tPar i j (tCons (liftE fa) (tCons (liftE fb) tNil)) D σ H := by
  obtain ⟨C, G, ρ, R, T, k, kr⟩ := h
  refine ⟨C, G, ρ, R, T.fst.fst, fun c ρ1 G1 v H1 cn A p n => ?_⟩
  have hns : noSrc c = true := by
    have q := T.fst.snd cn
    by_cases z : noSrc c = true
    · exact z
    · rw [if_neg z] at q; exact q.fail.elim
  have cn' : Can (nsM fa) ρ c ρ1 := cn.bnd (by rw [if_pos hns]; exact Can.ret)
  have T1 := T.snd cn'
  refine ⟨C, G1, ρ1, A.rs, T1.fst, fun d ρ2 G2 w H2 cn2 A2 p2 n2 => ⟨v, w, rfl, ?_⟩⟩
  have T2 := T1.snd cn2
  obtain ⟨c', ec⟩ := T2.fst.opt
  have T3 := T2.snd (a := c') (by rw [ec]; exact Can.opt)
  obtain ⟨d', ed⟩ := T3.fst.opt
  have T4 := T3.snd (a := d') (by rw [ed]; exact Can.opt)
  have hi := T4.fst.putC
  have T5 := T4.snd (Can.putC hi)
  have hj := T5.fst.putC
  have A12 := A.trans A2
  have pc := A2.pend A.rs p
  have ne := new_ne p ec n2
  have S1 := AftS.put1 A12.aftS pc n ec hi
  have p2' : Pend C G2 (ρ2.set i (some c')) (σ.set i (some v)) H2 w d := p2.put ed fun a z e => ne a z e (by rintro rfl; cases hns)
  have S2 := AftS.put1 S1 p2' (n2.back A.fr.there) ed hj
  exact k .nx _ G2 _ H2 (cn'.bnd (cn2.bnd (Can.bnd (a := c') (by rw [ec]; exact Can.opt) (Can.bnd (a := d') (by rw [ed]; exact Can.opt) ((Can.putC hi).bnd ((Can.putC hj).bnd Can.ret)))))) S2
theorem ds_par2 (i j : Nat) (hc : X.calm = true) (hN : X.N.Nodup) (ha : PE X a (liftE fa)) (hb : PE X b (liftE fb)) (hi : X.N[i]? = some x := by rfl) (hj : X.N[j]? = some y := by rfl) (hij : i ≠ j := by decide)
    (hx : X.env.scope.names.lookup x = some .local := by rfl) (hy : X.env.scope.names.lookup y = some .local := by rfl)
    (hw : swappedStores [.Tuple [.Name x px, .Name y py] kt pt] (.Tuple [a, b] k2 pt2) X.env = pure (some [x, y]) := by rfl)
    (hs : swapsWithSole [.Tuple [.Name x px, .Name y py] kt pt] (.Tuple [a, b] k2 pt2) pos.line X.env = pure false := by rfl)
    (e1 : starEach [a, b] X.env = (false, eval a X.env) :: starEach [b] X.env := by rfl) (e2 : starEach [b] X.env = (false, eval b X.env) :: starEach [] X.env := by rfl) :
    PS X (.Assign [.Tuple [.Name x px, .Name y py] kt pt] (.Tuple [a, b] k2 pt2) pos) (liftS (sPar2 i j (nsM fa) fb)) :=
  ps_mono (ps_par hc hN hi hj hij hx hy (pa_cons ha (pa_cons hb pa_nil e2) e1) hw hs) fun _ _ _ h => lift_par2 h
theorem lift_par3 {D : Ends} {σ : L2.St} {H : Hp} (h : liftS (sPar3 i j l (nsM fa) (nsM fb) fc) D σ H) : tPar3 i j l (tCons (liftE fa) (tCons (liftE fb) (tCons (liftE fc) tNil))) D σ H := by
  obtain ⟨C, G, ρ, R, T, k, kr⟩ := h
  refine ⟨C, G, ρ, R, T.fst.fst, fun c ρ1 G1 v H1 cn A p n => ?_⟩
  have hns : noSrc c = true := by
    have q := T.fst.snd cn
    by_cases z : noSrc c = true
    · exact z
    · rw [if_neg z] at q; exact q.fail.elim
  have cn' : Can (nsM fa) ρ c ρ1 := cn.bnd (by rw [if_pos hns]; exact Can.ret)
  have T1 := T.snd cn'
  refine ⟨C, G1, ρ1, A.rs, T1.fst.fst, fun d ρ2 G2 w H2 cn2 A2 p2 n2 => ?_⟩
  have hns2 : noSrc d = true := by
    have q := T1.fst.snd cn2
    by_cases z : noSrc d = true
    · exact z
    · rw [if_neg z] at q; exact q.fail.elim
  have cn2' : Can (nsM fb) ρ1 d ρ2 := cn2.bnd (by rw [if_pos hns2]; exact Can.ret)
  have T2 := T1.snd cn2'
  refine ⟨C, G2, ρ2, A2.rs, T2.fst, fun e ρ3 G3 u H3 cn3 A3 p3 n3 => ⟨v, w, u, rfl, ?_⟩⟩
  have T3 := T2.snd cn3
  obtain ⟨c', ec⟩ := T3.fst.opt
  have T4 := T3.snd (a := c') (by rw [ec]; exact Can.opt)
  obtain ⟨d', ed⟩ := T4.fst.opt
  have T5 := T4.snd (a := d') (by rw [ed]; exact Can.opt)
  obtain ⟨e', ee⟩ := T5.fst.opt
  have T6 := T5.snd (a := e') (by rw [ee]; exact Can.opt)
  have hi := T6.fst.putC
  have T7 := T6.snd (Can.putC hi)
  have hj := T7.fst.putC
  have T8 := T7.snd (Can.putC hj)
  have hl := T8.fst.putC
  have A12 := A.trans A2
  have A13 := A12.trans A3
  have pc2 := A2.pend A.rs p
  have pc3 := A3.pend A2.rs pc2
  have pd3 := A3.pend A2.rs p2
  have nd := new_ne p ec n2
  have n1 := new_ne pc2 ec n3
  have n2' := new_ne p2 ed n3
  have S1 := AftS.put1 A13.aftS pc3 n ec hi
  have pd : Pend C G3 (ρ3.set i (some c')) (σ.set i (some v)) H3 w d := pd3.put ed fun a z q => nd a z q (by rintro rfl; cases hns)
  have S2 := AftS.put1 S1 pd (n2.back A.fr.there) ed hj
  have pe1 : Pend C G3 (ρ3.set i (some c')) (σ.set i (some v)) H3 u e := p3.put ee fun a z q => n1 a z q (by rintro rfl; cases hns)
  have pe2 := pe1.put (i := j) (c' := d') (v := w) ee fun a z q => n2' a z q (by rintro rfl; cases hns2)
  have S3 := AftS.put1 S2 pe2 (n3.back A12.fr.there) ee hl
  exact k .nx _ G3 _ H3 (cn'.bnd (cn2'.bnd (cn3.bnd (Can.bnd (a := c') (by rw [ec]; exact Can.opt) (Can.bnd (a := d') (by rw [ed]; exact Can.opt) (Can.bnd (a := e') (by rw [ee]; exact Can.opt) ((Can.putC hi).bnd ((Can.putC hj).bnd ((Can.putC hl).bnd Can.ret))))))))) S3
theorem ds_par3 (i j l : Nat) (hc : X.calm = true) (hN : X.N.Nodup) (ha : PE X a (liftE fa)) (hb : PE X b (liftE fb)) (hcc : PE X c (liftE fc)) (hi : X.N[i]? = some x := by rfl) (hj : X.N[j]? = some y := by rfl) (hl : X.N[l]? = some z := by rfl)
    (hij : i ≠ j := by decide) (hil : i ≠ l := by decide) (hjl : j ≠ l := by decide) (hx : X.env.scope.names.lookup x = some .local := by rfl) (hy : X.env.scope.names.lookup y = some .local := by rfl) (hz : X.env.scope.names.lookup z = some .local := by rfl)
    (hw : swappedStores [.Tuple [.Name x px, .Name y py, .Name z pz] kt pt] (.Tuple [a, b, c] k2 pt2) X.env = pure (some [x, y, z]) := by rfl)
    (hs : swapsWithSole [.Tuple [.Name x px, .Name y py, .Name z pz] kt pt] (.Tuple [a, b, c] k2 pt2) pos.line X.env = pure false := by rfl)
    (e1 : starEach [a, b, c] X.env = (false, eval a X.env) :: starEach [b, c] X.env := by rfl) (e2 : starEach [b, c] X.env = (false, eval b X.env) :: starEach [c] X.env := by rfl) (e3 : starEach [c] X.env = (false, eval c X.env) :: starEach [] X.env := by rfl) :
    PS X (.Assign [.Tuple [.Name x px, .Name y py, .Name z pz] kt pt] (.Tuple [a, b, c] k2 pt2) pos) (liftS (sPar3 i j l (nsM fa) (nsM fb) fc)) :=
  ps_mono (ps_par3 hc hN hi hj hl hij hil hjl hx hy hz (pa_cons ha (pa_cons hb (pa_cons hcc pa_nil e3) e2) e1) hw hs) fun _ _ _ h => lift_par3 h
end

/-! ### xs[k] = e, xs a list that a name owns -/
def setD : PyData → PyData → PyData → Option PyData
  | .list xs, .int k, d => match ixN xs.length k with
    | some j => some (.list (xs.set j d))
    | none => none
  | _, _, _ => none
def sSetIx (i : Nat) (fe fk : M RC) : M Fl := bnd fe fun c => bnd (opt (esc c)) fun d => bnd (ownAt i) fun _ => bnd fk fun kc => bnd (now kc) fun kd => bnd (ownAt i) fun dl => bnd (opt (setD dl kd d)) fun dl' => bnd (putOwn i dl') fun _ => ret .nx
section
variable {X : Cx} {i : Nat} {x : Str} {e ek : Expr} {fe fk : M RC} {pos p ps' : Pos}
theorem lift_setIx {D : Ends} {σ : L2.St} {H : Hp} (h : liftS (sSetIx i fe fk) D σ H) : tAsg (liftE fe) (gSub (tVar i) (liftE fk) rSetL) D σ H := by
  obtain ⟨C, G, ρ, R, T, k, kr⟩ := h
  refine ⟨C, G, ρ, R, T.fst, fun c ρ1 G1 v H1 cn A p n => ?_⟩
  have T1 := T.snd cn
  obtain ⟨d, ed⟩ := T1.fst.opt
  have T2 := T1.snd (a := d) (by rw [ed]; exact Can.opt)
  obtain ⟨G2, A2, rv⟩ := esc_one R A p n ed
  obtain ⟨d0, e0, c0⟩ := T2.fst.ownAt
  have T3 := T2.snd c0
  obtain ⟨a, hs, hG, ok⟩ := A2.rs.own e0
  refine ⟨.ref a, hs, C, G2, ρ1, A2.rs, T3.fst, fun kc ρ2 G3 kv H2 cn2 A3 p3 n3 => ?_⟩
  have T4 := T3.snd cn2
  obtain ⟨kd, ek⟩ := T4.fst.now
  have T5 := T4.snd (Can.now ek)
  obtain ⟨dl, e1, c1⟩ := T5.fst.ownAt
  have T6 := T5.snd c1
  obtain ⟨dl', es⟩ := T6.fst.opt
  obtain ⟨a2, hs2, hG2, o, eo, po⟩ := A3.rs.own e1
  rw [hs] at hs2; cases hs2
  have rv2 : Rep (Fb C G3) H2 v d := rv.to (carry_hk A2.rs A3.fr A3.gx)
  cases dl with
  | list xs =>
    cases kd with
    | int m =>
      simp only [setD] at es
      split at es
      · rename_i j hj
        cases es
        obtain ⟨ys, rfl, q⟩ := po.list'
        have W := A3.rs.write e1 hs (o' := .lst (ys.set j v)) (d' := .list (xs.set j d)) (RepAll.set rv2 j q)
        refine ⟨a, ys, m, j, rfl, (p3.top A3.rs ek).int', eo, by rw [q.length]; exact hj, ?_⟩
        exact k .nx _ G3 _ _ (cn.bnd (Can.bnd (a := d) (by rw [ed]; exact Can.opt) (c0.bnd (cn2.bnd ((Can.now ek).bnd (c1.bnd (Can.bnd (a := .list (xs.set j d)) (by simp only [setD, hj]; exact Can.opt) ((Can.putOwn e1).bnd Can.ret)))))))) ((A2.trans A3).trans W).aftS
      · cases es
    | _ => cases es
  | _ => cases es
theorem ds_setIx (he : PE X e (liftE fe)) (hk : PE X ek (liftE fk)) (hN : X.N[i]? = some x) (hv : Vis X.env.scope x := by first | exact Or.inl rfl | exact Or.inr (Or.inl rfl) | exact Or.inr (Or.inr rfl)) (hd : (x == ("__debug__" : Str)) = false := by decide) (hcd : (x == ("__classdict__" : Str)) = false := by decide)
    (ha : ∀ v, assign (.Subscript (.Name x p) ek ps') X.env v = (do
      let ov ← holding [v] (eval (.Name x p) X.env)
      let iv ← holding [v, ov] (eval ek X.env)
      standAt ps'
      holding [v, ov, iv] (setItem ov iv v)
      release [v, ov, iv] []) := by intro _; rfl) (hs : swapsWithSole [.Subscript (.Name x p) ek ps'] e pos.line X.env = pure false := by rfl) (hw : swappedStores [.Subscript (.Name x p) ek ps'] e X.env = pure none := by rfl)
    (h1 : (assignEach [.Subscript (.Name x p) ek ps'] X.env).map (·.2) = [assign (.Subscript (.Name x p) ek ps') X.env] := by rfl) : PS X (.Assign [.Subscript (.Name x p) ek ps'] e pos) (liftS (sSetIx i fe fk)) :=
  ps_mono (ps_asg he (pg_sub (pe_var hN hv hd hcd) hk set_list ha) hs hw h1) fun _ _ _ h => lift_setIx h
end
end DL
set_option Elab.async false
set_option linter.all false
set_option maxRecDepth 100000
set_option maxHeartbeats 1000000
/-! Part 14: the words that derivations are written in. -/
namespace DL
open PySem PySem.Spec L2
open PyProof.Rows hiding St
variable [Fam]

/-! ### truth of any value -/
def truD : PyData → Option Bool
  | .none => some false
  | .bool b => some b
  | .int i => some (i != 0)
  | .str x => if lenOk x.length then some ((x.length : Int) != 0) else none
  | .list xs => some (!xs.isEmpty)
  | .tuple xs => some (!xs.isEmpty)
  | .dict _ => none
def dTru (f : M RC) : M Bool := bnd f fun c => bnd (now c) fun d => opt (truD d)
section
variable {X : Cx} {k : Nat} {a b c e : Expr} {es : List Expr} {fa fb fc : M RC} {ga : M (List RC)} {pos p : Pos} {F : Addr → Prop} {H : Hp} {x : V} {d : PyData} {t : Bool}
theorem RepAll.empty {vs : List V} {ds : List PyData} (h : RepAll F H vs ds) : vs.isEmpty = ds.isEmpty := by cases h <;> rfl
theorem Top.tru {K : PySem.W.Frag} (h : Top F H x d) (e : truD d = some t) : TruV K x H t := by
  cases h with
  | non => cases e; rfl
  | bl b => cases e; rfl
  | int i => cases e; rfl
  | str z =>
    simp only [truD] at e
    split at e
    · rename_i hl; cases e; exact ⟨lenOk_le hl, rfl⟩
    · cases e
  | lst r p => cases e; exact .inl ⟨_, .inl r, by rw [p.empty]⟩
  | tup n r p => cases e; exact .inr (.inl ⟨_, .inl r, by rw [p.empty]⟩)
  | dK r p => cases e
  | dT r p => cases e
theorem dt_tru (h : PE X e (liftE fa)) (he : ∀ whole, isTrue e X.env whole = (do let v ← whole; standAt e.pos; holding [v] (truthy v)) := by intro _; rfl) : PT X e (liftT (dTru fa)) := pt_mono (pt_truth h he) fun σ H Q h => by
  obtain ⟨C, G, ρ, R, T, k⟩ := h
  refine ⟨C, G, ρ, R, T.fst, fun c1 ρ1 G1 x H1 cn1 A1 p1 n1 => ?_⟩
  have T2 := T.snd cn1
  obtain ⟨dx, ex⟩ := T2.fst.now
  have T3 := T2.snd (Can.now ex)
  obtain ⟨b, eb⟩ := T3.opt
  exact ⟨b, (p1.top A1.rs ex).tru eb, k b ρ1 G1 H1 (cn1.bnd ((Can.now ex).bnd (by rw [eb]; exact Can.opt))) A1⟩

/-! ### a < b < c -/
def chC : RC → M RC
  | .val d => ret (.val d)
  | _ => fail
def chB (g' : PyData → PyData → Option RC) (y : RC) (fc : M RC) : RC → M RC
  | .val (.bool true) => bnd fc fun z => bnd (now y) fun dy => bnd (now z) fun dz => bnd (opt (g' dy dz)) chC
  | .val (.bool false) => ret (.val (.bool false))
  | _ => fail
def dChain (g g' : PyData → PyData → Option RC) (fa fb fc : M RC) : M RC := bnd fa fun x => bnd fb fun y => bnd (now x) fun dx => bnd (now y) fun dy => bnd (opt (g dx dy)) (chB g' y fc)
theorem step_bool {H : Hp} {v : V} {H' : Hp} {b : Bool} (s : Step F H v H' (.val (.bool b))) : v = .bl b ∧ H' = H := by
  rcases s with ⟨e, r⟩ | ⟨q, xs, ds, _, _, _, _, z⟩
  · cases r; exact ⟨rfl, e⟩
  · cases z
theorem lift_chain {r r' : R2} {g g' : PyData → PyData → Option RC} (hg : OpD r g) (hg' : OpD r' g') {σ : L2.St} {H : Hp} {Q : VK} (h : liftE (dChain g g' fa fb fc) σ H Q) : tChain r r' (liftE fa) (liftE fb) (liftE fc) σ H Q := by
  obtain ⟨C, G, ρ, R, T, k⟩ := h
  refine ⟨C, G, ρ, R, T.fst, fun c1 ρ1 G1 x H1 cn1 A1 p1 n1 => ?_⟩
  have T1 := T.snd cn1
  refine ⟨C, G1, ρ1, A1.rs, T1.fst, fun c2 ρ2 G2 y H2 cn2 A2 p2 n2 => ?_⟩
  have T2 := T1.snd cn2
  have p1' := A2.pend A1.rs p1
  obtain ⟨dx, ex⟩ := T2.fst.now
  have T3 := T2.snd (Can.now ex)
  obtain ⟨dy, ey⟩ := T3.fst.now
  have T4 := T3.snd (Can.now ey)
  obtain ⟨rc, er⟩ := T4.fst.opt
  have T5 := T4.snd (a := rc) (by rw [er]; exact Can.opt)
  have cn0 : ∀ {c : RC} {ρ3 : Env'}, Can (chB g' c2 fc rc) ρ2 c ρ3 → Can (dChain g g' fa fb fc) ρ c ρ3 := fun {c ρ3} q => cn1.bnd (cn2.bnd ((Can.now ex).bnd ((Can.now ey).bnd (Can.bnd (a := rc) (by rw [er]; exact Can.opt) q))))
  refine hg _ H2 x y dx dy rc _ (p1'.top A2.rs ex) (p2.top A2.rs ey) er fun v H3 s => ?_
  cases rc with
  | val d =>
    cases d with
    | bool b =>
      obtain ⟨rfl, rfl⟩ := step_bool s
      refine ⟨b, rfl, ?_⟩
      cases b with
      | false => exact iteF (k (.val (.bool false)) ρ2 G2 (.bl false) H3 (cn0 (c := .val (.bool false)) Can.ret) (A1.trans A2) (.bl false) trivial)
      | true =>
        refine iteT ⟨C, G2, ρ2, A2.rs, Tot.fst T5, fun c3 ρ4 G4 z H4 cn3 A4 p3 n3 => ?_⟩
        have T6 := Tot.snd T5 cn3
        obtain ⟨dy', ey'⟩ := T6.fst.now
        have T7 := T6.snd (Can.now ey')
        obtain ⟨dz, ez⟩ := T7.fst.now
        have T8 := T7.snd (Can.now ez)
        obtain ⟨r2, er2⟩ := T8.fst.opt
        have T9 := T8.snd (a := r2) (by rw [er2]; exact Can.opt)
        refine hg' _ H4 y z dy' dz r2 _ ((A4.pend A2.rs p2).top A4.rs ey') (p3.top A4.rs ez) er2 fun v H5 s => ?_
        cases r2 with
        | val d =>
          obtain ⟨G5, A5, p5, n5⟩ := s.aft A4.rs
          have c9 : Can (chB g' c2 fc (.val (.bool true))) ρ2 (.val d) ρ4 := Can.bnd cn3 ((Can.now ey').bnd ((Can.now ez).bnd (Can.bnd (a := .val d) (g := chC) (by rw [er2]; exact Can.opt) (show Can (chC (.val d)) ρ4 (.val d) ρ4 from Can.ret))))
          exact k (.val d) ρ4 G5 v H5 (cn0 c9) (((A1.trans A2).trans A4).trans A5) p5 trivial
        | _ => exact T9.fail.elim
    | _ => exact T5.fail.elim
  | _ => exact T5.fail.elim
theorem de_chain {op op' : CmpOp} {r r' : R2} {g g' : PyData → PyData → Option RC} (ho : OpR X (compareOp op) r) (ho' : OpR X (compareOp op') r') (hg : OpD r g) (hg' : OpD r' g') (ha : PE X a (liftE fa)) (hb : PE X b (liftE fb)) (hc : PE X c (liftE fc))
    (h : PE X a (liftE fa) → PE X b (liftE fb) → PE X c (liftE fc) → PE X e (tChain r r' (liftE fa) (liftE fb) (liftE fc))) : PE X e (liftE (dChain g g' fa fb fc)) := pe_mono (h ha hb hc) fun _ _ _ q => lift_chain hg hg' q

/-! ### built-ins by name -/
theorem bt_len : bootBuiltins "len" = some (.builtin "len") := by decide +kernel
theorem bt_repr : bootBuiltins "repr" = some (.builtin "repr") := by decide +kernel
theorem bt_abs : bootBuiltins "abs" = some (.builtin "abs") := by decide +kernel
theorem bt_sum : bootBuiltins "sum" = some (.builtin "sum") := by decide +kernel
theorem bt_max : bootBuiltins "max" = some (.builtin "max") := by decide +kernel
theorem bt_min : bootBuiltins "min" = some (.builtin "min") := by decide +kernel
theorem bt_all : bootBuiltins "all" = some (.builtin "all") := by decide +kernel
theorem bt_any : bootBuiltins "any" = some (.builtin "any") := by decide +kernel
theorem bt_int : bootBuiltins "int" = some (.type "int") := by decide +kernel
theorem bt_list : bootBuiltins "list" = some (.type "list") := by decide +kernel
theorem bt_tuple : bootBuiltins "tuple" = some (.type "tuple") := by decide +kernel
variable (hr : Rm k X.A)
theorem de_len (hm : X.mg "len" = none) (ha : PA X (e :: es) (liftA ga)) (hg : Gl X "len" := by rfl) (he : starEach (e :: es) X.env = (false, eval e X.env) :: starEach es X.env := by rfl) (hpl : (backTo pos (starEach es X.env)).any (·.1) = false := by rfl) : PE X (.Call (.Name "len" p) (e :: es) [] pos) (liftE (dCall gLen ga)) := de_callB cr_len cd_len hg hm bt_len ha (by decide) (by decide) he hpl
theorem de_repr (hr : Rm k X.A) (hm : X.mg "repr" = none) (ha : PA X (e :: es) (liftA ga)) (hg : Gl X "repr" := by rfl) (he : starEach (e :: es) X.env = (false, eval e X.env) :: starEach es X.env := by rfl) (hpl : (backTo pos (starEach es X.env)).any (·.1) = false := by rfl) : PE X (.Call (.Name "repr" p) (e :: es) [] pos) (liftE (dCall gRepr ga)) := de_callB (cr_repr hr.gd (by have := hr.room.un; omega)) cd_repr hg hm bt_repr ha (by decide) (by decide) he hpl
theorem de_abs (hm : X.mg "abs" = none) (ha : PA X (e :: es) (liftA ga)) (hg : Gl X "abs" := by rfl) (he : starEach (e :: es) X.env = (false, eval e X.env) :: starEach es X.env := by rfl) (hpl : (backTo pos (starEach es X.env)).any (·.1) = false := by rfl) : PE X (.Call (.Name "abs" p) (e :: es) [] pos) (liftE (dCall gAbs ga)) := de_callB call_abs cd_abs hg hm bt_abs ha (by decide) (by decide) he hpl
theorem de_sum (hc : X.calm = true) (hm : X.mg "sum" = none) (ha : PA X (e :: es) (liftA ga)) (hg : Gl X "sum" := by rfl) (he : starEach (e :: es) X.env = (false, eval e X.env) :: starEach es X.env := by rfl) (hpl : (backTo pos (starEach es X.env)).any (·.1) = false := by rfl) : PE X (.Call (.Name "sum" p) (e :: es) [] pos) (liftE (dCall gSum ga)) := de_callB (cr_sum hc) cd_sum hg hm bt_sum ha (by decide) (by decide) he hpl
theorem de_max (hc : X.calm = true) (hm : X.mg "max" = none) (ha : PA X (e :: es) (liftA ga)) (hg : Gl X "max" := by rfl) (he : starEach (e :: es) X.env = (false, eval e X.env) :: starEach es X.env := by rfl) (hpl : (backTo pos (starEach es X.env)).any (·.1) = false := by rfl) : PE X (.Call (.Name "max" p) (e :: es) [] pos) (liftE (dCall gMax ga)) := de_callB (cr_max' hc) cd_max hg hm bt_max ha (by decide) (by decide) he hpl
theorem de_min (hc : X.calm = true) (hm : X.mg "min" = none) (ha : PA X (e :: es) (liftA ga)) (hg : Gl X "min" := by rfl) (he : starEach (e :: es) X.env = (false, eval e X.env) :: starEach es X.env := by rfl) (hpl : (backTo pos (starEach es X.env)).any (·.1) = false := by rfl) : PE X (.Call (.Name "min" p) (e :: es) [] pos) (liftE (dCall gMin ga)) := de_callB (cr_min' hc) cd_min hg hm bt_min ha (by decide) (by decide) he hpl
theorem de_all (hc : X.calm = true) (hm : X.mg "all" = none) (ha : PA X (e :: es) (liftA ga)) (hg : Gl X "all" := by rfl) (he : starEach (e :: es) X.env = (false, eval e X.env) :: starEach es X.env := by rfl) (hpl : (backTo pos (starEach es X.env)).any (·.1) = false := by rfl) : PE X (.Call (.Name "all" p) (e :: es) [] pos) (liftE (dCall gAll ga)) := de_callB (cr_all hc) cd_all hg hm bt_all ha (by decide) (by decide) he hpl
theorem de_any (hc : X.calm = true) (hm : X.mg "any" = none) (ha : PA X (e :: es) (liftA ga)) (hg : Gl X "any" := by rfl) (he : starEach (e :: es) X.env = (false, eval e X.env) :: starEach es X.env := by rfl) (hpl : (backTo pos (starEach es X.env)).any (·.1) = false := by rfl) : PE X (.Call (.Name "any" p) (e :: es) [] pos) (liftE (dCall gAny ga)) := de_callB (cr_any hc) cd_any hg hm bt_any ha (by decide) (by decide) he hpl
theorem de_toInt (hm : X.mg "int" = none) (ha : PA X (e :: es) (liftA ga)) (hg : Gl X "int" := by rfl) (he : starEach (e :: es) X.env = (false, eval e X.env) :: starEach es X.env := by rfl) (hpl : (backTo pos (starEach es X.env)).any (·.1) = false := by rfl) : PE X (.Call (.Name "int" p) (e :: es) [] pos) (liftE (dCall gInt ga)) := de_callTy call_int1 cd_int hg hm bt_int ha (by decide) (by decide) he hpl
theorem de_toList (hm : X.mg "list" = none) (ha : PA X (e :: es) (liftA ga)) (hg : Gl X "list" := by rfl) (he : starEach (e :: es) X.env = (false, eval e X.env) :: starEach es X.env := by rfl) (hpl : (backTo pos (starEach es X.env)).any (·.1) = false := by rfl) : PE X (.Call (.Name "list" p) (e :: es) [] pos) (liftE (dCall gList ga)) := de_callTy call_list_of cd_list hg hm bt_list ha (by decide) (by decide) he hpl
theorem de_toTuple (hm : X.mg "tuple" = none) (ha : PA X (e :: es) (liftA ga)) (hg : Gl X "tuple" := by rfl) (he : starEach (e :: es) X.env = (false, eval e X.env) :: starEach es X.env := by rfl) (hpl : (backTo pos (starEach es X.env)).any (·.1) = false := by rfl) : PE X (.Call (.Name "tuple" p) (e :: es) [] pos) (liftE (dCall gTuple ga)) := de_callTy call_tuple_of cd_tuple hg hm bt_tuple ha (by decide) (by decide) he hpl
end

/-! ### methods of lists by name -/
theorem mt_of {X : Cx} {id : String} {r : V → List V → Hp → VK → Prop} (h : MtM X id r) : MtR X id r := h
end DL
set_option Elab.async false
set_option linter.all false
set_option maxRecDepth 100000
set_option maxHeartbeats 1000000
/-! Part 15: a name takes a common value; list(range(..)). -/
namespace DL
open PySem PySem.Spec L2
open PyProof.Rows hiding St
variable [Fam]

section
variable {X : Cx} {i : Nat} {x : Str} {e : Expr} {fe : M RC} {pos pos' : Pos} {D : Ends} {σ : L2.St} {H : Hp}
/-- name = value, the value common from then on (the source too) -/
def cellOfV : RC → Option Cell
  | .val d => some (.val d)
  | .own d => some (.val d)
  | .src => some .src
  | .brw _ => none
def sSetV (i : Nat) (f : M RC) : M Fl := bnd f fun c => bnd (opt (cellOfV c)) fun c' => bnd (putC i c') fun _ => ret .nx
theorem lift_setV (h : liftS (sSetV i fe) D σ H) : tAsg (liftE fe) (gName i) D σ H := by
  obtain ⟨C, G, ρ, R, T, k, kr⟩ := h
  refine ⟨C, G, ρ, R, T.fst, fun c ρ1 G1 v H1 cn A p n => ?_⟩
  have T1 := T.snd cn
  obtain ⟨c', ec⟩ := T1.fst.opt
  have T2 := T1.snd (a := c') (by rw [ec]; exact Can.opt)
  have hi := T2.fst.putC
  have cn2 : Can (sSetV i fe) ρ .nx (ρ1.set i (some c')) := cn.bnd (Can.bnd (a := c') (by rw [ec]; exact Can.opt) ((Can.putC hi).bnd Can.ret))
  cases c with
  | val d =>
    cases ec
    exact k .nx _ G1 _ H1 cn2 (A.aftS.trans (put_val A.rs p hi))
  | own d =>
    cases ec
    obtain ⟨G2, A2, rv⟩ := esc_one R A p n (d := d) rfl
    exact k .nx _ G2 _ H1 cn2 (A2.aftS.trans (put_val A2.rs rv hi))
  | src =>
    cases ec
    exact k .nx _ G1 _ H1 cn2 (AftS.put1 A.aftS p n rfl hi)
  | brw j => cases ec
theorem ds_setV (i : Nat) (hN : X.N.Nodup) (he : PE X e (liftE fe)) (hi : X.N[i]? = some x := by rfl) (hx : Loc X.env.scope x := by first | exact Or.inl rfl | exact Or.inr rfl) (hs : swapsWith e (some (.Name x pos')) pos.line X.env = pure false := by rfl) (hf : X.fn x = true ∨ X.env.scope.names.lookup x = some .local := by first | exact .inl rfl | exact .inr rfl | assumption) :
    PS X (.Assign [.Name x pos'] e pos) (liftS (sSetV i fe)) := ps_mono (ps_set hN hi hx he hs hf) fun _ _ _ h => lift_setV h
end
section
variable {X : Cx} {tg iter elt : Expr} {ifs : List Expr} {fi : M Its} {g : PyData → M Unit} {t : M Bool} {fe : M RC} {pos : Pos} {js vs : List Nat}
theorem ds_setLcV (i : Nat) {y : Str} {py spos : Pos} {scope : Scope} {own : List (Str × Nat)} (hc : X.calm = true) (hN : X.N.Nodup) (hy : X.N[i]? = some y) (hyl : X.env.scope.names.lookup y = some .local)
    (hsw : swapsWith (.ListComp elt [⟨tg, iter, ifs, 0⟩] scope pos) (some (.Name y py)) spos.line X.env = pure true) (hi : PI X tg iter (liftI fi)) (ok : BlkOk X.N X.env.scope scope own)
    (hg : ∀ (s : Shared) (H : Hp) (C : Addr) (cl : List (Str × Addr)) (fp : List Addr), PG (X.blk s H scope (compEnvC scope cl C X.env) fp) tg (liftG js g)) (ht : ∀ (s : Shared) (H : Hp) (C : Addr) (cl : List (Str × Addr)) (fp : List Addr), PTs (X.blk s H scope (compEnvC scope cl C X.env) fp) ifs (liftT t))
    (he : ∀ (s : Shared) (H : Hp) (C : Addr) (cl : List (Str × Addr)) (fp : List Addr), PE (X.blk s H scope (compEnvC scope cl C X.env) fp) elt (liftE fe)) (hj : ∀ j ∈ js, j ∈ own.map (·.2)) (hs : ∀ x, foldedSetIterable iter X.env x = pure x := by intro _; rfl) :
    PS X (.Assign [.Name y py] (.ListComp elt [⟨tg, iter, ifs, 0⟩] scope pos) spos) (liftS (sSetV i (dLc (own.map (·.2)) fi g t fe))) := ps_mono (ps_setLc hc hN hy hyl hsw hi ok hg ht he hs) fun D σ H h => lift_lc hj (lift_setV h)
end
end DL
set_option Elab.async false
set_option linter.all false
set_option maxRecDepth 100000
set_option maxHeartbeats 1000000
/-! Part 16: != over texts without their code points. -/
namespace DL
open PySem PySem.Spec L2
open PyProof.Rows hiding St
variable [Fam]
def gNeS : PyData → PyData → Option RC
  | .str x, .str y => some (.val (.bool (!(x == y))))
  | d, e => gNe d e
theorem opd_neS {K : PySem.W.Frag} : OpD (fun x y H Q => rNe x y H Q ∨ rNeD K x y H Q) gNeS := by
  intro F H x y dx dy c Q hx hy e k
  unfold gNeS at e
  split at e
  · cases e
    cases hx; cases hy
    refine .inl ⟨rfl, ?_⟩
    rw [dec_str]
    exact fin_val (.bl _) k
  · exact .inr (opd_ne F H x y dx dy c Q hx hy e k)
def dNeS := dOp gNeS
theorem dt_neS {X : Cx} {k : Nat} {a b : Expr} {fa fb : M RC} {pos : Pos} (hr : Rm k X.A) (ha : PE X a (liftE fa)) (hb : PE X b (liftE fb)) : PT X (.Compare a [.NotEq] [b] pos) (liftT (dBool (dNeS fa fb))) := dt_cmp (op_ne.or (op_neD hr.room.units)) opd_neS ha hb (nomark _)
end DL
set_option Elab.async false
set_option linter.all false
set_option maxRecDepth 100000
set_option maxHeartbeats 1000000
namespace DL
open PySem PySem.Spec L2
open PyProof.Rows hiding St
variable [Fam]
def topS (i : Nat) : Stmt := PySem.Challenge.pw_forktold_k78_how_many_trees.main.body.getD i (.Pass ⟨0,0,0,0⟩)
abbrev s_law_source : Stmt := topS 5
abbrev s_law_draw : Stmt := topS 6
abbrev s_law : Stmt := topS 12
abbrev s_tree_counts : Stmt := topS 1
abbrev n_tree_counts : List Str := ["size", "counts", "many", "choose", "whole", "part"]
theorem sc_tree_counts : FnScope ["size", "counts", "many", "choose", "whole", "part"] ["size"] (defScope s_tree_counts) := ⟨rfl, rfl, rfl, by decide +kernel, rfl, by decide +kernel, by decide +kernel⟩
def b_tree_counts  : M Fl :=
  (sSeq (sSet 1 (dLst (dCons (dC (.int 0)) (dCons (dC (.int 1)) dNil))))
  (sSeq (sFor (iRng gRng2 (dCons (dC (.int 1)) (dCons (dVar 0) dNil))) (gN 2)
  (sSeq (sAsg (dTup (dCons (dC (.int 1)) (dCons (dC (.int 0)) dNil))) (gT 2 (gsCons (gN 3) (gsCons (gN 4) gsNil))))
  (sSeq (sFor (iRng gRng2 (dCons (dC (.int 1)) (dCons (dAdd (dVar 2) (dC (.int 1))) dNil))) (gN 5)
  (sSeq (sSetV 3 (dDiv (dMul (dVar 3) (dAdd (dSub (dVar 2) (dVar 5)) (dC (.int 1)))) (dVar 5)))
  (sSetV 4 (dAdd (dVar 4) (dMul (dMul (dVar 3) (dIx (dVar 1) (dVar 5))) (dIx (dVar 1) (dAdd (dSub (dVar 2) (dVar 5)) (dC (.int 1)))))))))
  (sDrop (dMeth 1 gAppend (dCons (dSub (dMul (dC (.int 2)) (dVar 4)) (dMul (dVar 2) (dIx (dVar 1) (dVar 2)))) dNil))))))
  (sRet (dVar 1))))
theorem cal_tree_counts {P : Program} {w : World} {K : PySem.W.Frag} {mg : Str → Option Value} {base : Heap} {f : Addr} {fd : FuncData} (F : Fun K "tree_counts" "tree_counts" s_tree_counts f fd) (hm : mg "tree_counts" = some (.ref f)) (m_range : mg "range" = none) :
    Cal P w K mg base 1 "tree_counts" s_tree_counts ["size"] (fnB 1 6 (b_tree_counts )) :=
  cal_mk F sc_tree_counts hm (F.binds fun _ _ _ _ _ _ us hl => match us, hl with | [_], _ => rfl) fun cdv A outer s H hr =>
  (dss_cons (ds_set 1 sc_tree_counts.nd (de_lst (da_cons de_int (da_cons de_int da_nil))))
  (dss_cons (ds_for PassesOwn.never rfl (di_rng2 (by rfl) m_range (da_cons de_int (da_cons (de_var 0) da_nil))) (dg_name 2 sc_tree_counts.nd)
  (dss_cons (ds_asg (de_tup (da_cons de_int (da_cons de_int da_nil))) (dg_tup rfl (dgs_cons (dg_name 3 sc_tree_counts.nd) (dgs_cons (dg_name 4 sc_tree_counts.nd) dgs_nil))))
  (dss_cons (ds_for PassesOwn.never rfl (di_rng2 (by rfl) m_range (da_cons de_int (da_cons (de_add (de_var 2) de_int) da_nil))) (dg_name 5 sc_tree_counts.nd)
  (dss_cons (ds_setV 3 sc_tree_counts.nd (de_div (de_mul (de_var 3) (de_add (de_sub (de_var 2) (de_var 5)) de_int)) (de_var 5)))
  (dss_one (ds_setV 4 sc_tree_counts.nd (de_add (de_var 4) (de_mul (de_mul (de_var 3) (de_ix (de_var 1) (de_var 5))) (de_ix (de_var 1) (de_add (de_sub (de_var 2) (de_var 5)) de_int))))))))
  (dss_one (ds_expr (de_meth PySem.F.slot_list_append PySem.F.type_list_append mt_append md_append rfl (da_cons (de_sub (de_mul de_int (de_var 4)) (de_mul (de_var 2) (de_ix (de_var 1) (de_var 2)))) da_nil)))))))
  (dss_one (ds_ret (de_var 1)))))
-- level 1 uses ['range'] calls []
abbrev s_tree_count : Stmt := topS 2
abbrev n_tree_count : List Str := ["size"]
theorem sc_tree_count : FnScope ["size"] ["size"] (defScope s_tree_count) := ⟨rfl, rfl, rfl, by decide +kernel, rfl, by decide +kernel, by decide +kernel⟩
def b_tree_count (φ_tree_counts : Fn) : M Fl :=
  (sRet (dIx (dCallF φ_tree_counts (dCons (dVar 0) dNil)) (dVar 0)))
theorem cal_tree_count {P : Program} {w : World} {K : PySem.W.Frag} {mg : Str → Option Value} {base : Heap} {f : Addr} {fd : FuncData} (F : Fun K "tree_count" "tree_count" s_tree_count f fd) (hm : mg "tree_count" = some (.ref f)) {φ_tree_counts : Fn} (c_tree_counts : Cal P w K mg base 1 "tree_counts" s_tree_counts ["size"] φ_tree_counts) :
    Cal P w K mg base 2 "tree_count" s_tree_count ["size"] (fnB 1 1 (b_tree_count φ_tree_counts)) :=
  cal_mk F sc_tree_count hm (F.binds fun _ _ _ _ _ _ us hl => match us, hl with | [_], _ => rfl) fun cdv A outer s H hr =>
  (dss_one (ds_ret (de_ix (de_callF (c_tree_counts) hr (by rfl) (da_cons (de_var 0) da_nil)) (de_var 0))))
-- level 2 uses [] calls ['tree_counts']
abbrev s_forked_count : Stmt := topS 3
abbrev n_forked_count : List Str := ["size", "found", "odd"]
theorem sc_forked_count : FnScope ["size", "found", "odd"] ["size"] (defScope s_forked_count) := ⟨rfl, rfl, rfl, by decide +kernel, rfl, by decide +kernel, by decide +kernel⟩
def b_forked_count  : M Fl :=
  (sSeq (sSetV 1 (dC (.int 1)))
  (sSeq (sFor (iRng gRng3 (dCons (dC (.int 3)) (dCons (dSub (dMul (dC (.int 2)) (dVar 0)) (dC (.int 2))) (dCons (dC (.int 2)) dNil)))) (gN 2)
  (sSetV 1 (dMul (dVar 1) (dVar 2))))
  (sRet (dVar 1))))
theorem cal_forked_count {P : Program} {w : World} {K : PySem.W.Frag} {mg : Str → Option Value} {base : Heap} {f : Addr} {fd : FuncData} (F : Fun K "forked_count" "forked_count" s_forked_count f fd) (hm : mg "forked_count" = some (.ref f)) (m_range : mg "range" = none) :
    Cal P w K mg base 1 "forked_count" s_forked_count ["size"] (fnB 1 3 (b_forked_count )) :=
  cal_mk F sc_forked_count hm (F.binds fun _ _ _ _ _ _ us hl => match us, hl with | [_], _ => rfl) fun cdv A outer s H hr =>
  (dss_cons (ds_setV 1 sc_forked_count.nd de_int)
  (dss_cons (ds_for PassesOwn.never rfl (di_rng3 (by rfl) m_range (da_cons de_int (da_cons (de_sub (de_mul de_int (de_var 0)) de_int) (da_cons de_int da_nil)))) (dg_name 2 sc_forked_count.nd)
  (dss_one (ds_setV 1 sc_forked_count.nd (de_mul (de_var 1) (de_var 2)))))
  (dss_one (ds_ret (de_var 1)))))
-- level 1 uses ['range'] calls []
abbrev s_law_pick : Stmt := topS 7
abbrev n_law_pick : List Str := ["_law_source_here", "_law_items"]
theorem sc_law_pick : FnScope ["_law_source_here", "_law_items"] ["_law_source_here", "_law_items"] (defScope s_law_pick) := ⟨rfl, rfl, rfl, by decide +kernel, rfl, by decide +kernel, by decide +kernel⟩
def b_law_pick (φ_law_draw : Fn) : M Fl :=
  (sRet (dIx (dVar 1) (dCallF φ_law_draw (dCons (dVar 0) (dCons (dCall gLen (dCons (dVar 1) dNil)) dNil)))))
theorem cal_law_pick {P : Program} {w : World} {K : PySem.W.Frag} {mg : Str → Option Value} {base : Heap} {f : Addr} {fd : FuncData} (F : Fun K "_law_pick" "_law_pick" s_law_pick f fd) (hm : mg "_law_pick" = some (.ref f)) (m_len : mg "len" = none) {φ_law_draw : Fn} (c_law_draw : Cal P w K mg base 1 "_law_draw" s_law_draw ["_law_source_here", "_law_many"] φ_law_draw) :
    Cal P w K mg base 2 "_law_pick" s_law_pick ["_law_source_here", "_law_items"] (fnB 2 2 (b_law_pick φ_law_draw)) :=
  cal_mk F sc_law_pick hm (F.binds fun _ _ _ _ _ _ us hl => match us, hl with | [_, _], _ => rfl) fun cdv A outer s H hr =>
  (dss_one (ds_ret (de_ix (de_var 1) (de_callF (c_law_draw) hr (by rfl) (da_cons (de_var 0) (da_cons (de_len m_len (da_cons (de_var 1) da_nil)) da_nil))))))
-- level 2 uses ['len'] calls ['_law_draw']
abbrev s_law_known : Stmt := topS 8
abbrev n_law_known : List Str := ["_law_limit", "_law_row", "_law_found", "_law_many", "_law_wide", "_law_low", "_law_k"]
theorem sc_law_known : FnScope ["_law_limit", "_law_row", "_law_found", "_law_many", "_law_wide", "_law_low", "_law_k"] ["_law_limit"] (defScope s_law_known) := ⟨rfl, rfl, rfl, by decide +kernel, rfl, by decide +kernel, by decide +kernel⟩
def b_law_known  : M Fl :=
  (sSeq (sPar2 1 2 (nsM (dLst (dCons (dC (.int 1)) dNil))) (dLst (dCons (dTup (dCons (dC (.int 0)) (dCons (dC (.int 0)) dNil))) (dCons (dTup (dCons (dC (.int 1)) (dCons (dC (.int 1)) dNil))) dNil))))
  (sSeq (sFor (iRng gRng2 (dCons (dC (.int 1)) (dCons (dVar 0) dNil))) (gN 3)
  (sSeq (sAsg (dTup (dCons (dAdd (dVar 1) (dLst (dCons (dC (.int 0)) dNil))) (dCons (dAdd (dLst (dCons (dC (.int 0)) dNil)) (dVar 1)) dNil))) (gT 2 (gsCons (gN 4) (gsCons (gN 5) gsNil))))
  (sSeq (sSetV 1 (dLc [6] (iRng gRng1 (dCons (dAdd (dVar 3) (dC (.int 1))) dNil)) (gN 6) tYesD (dAdd (dMul (dVar 6) (dIx (dVar 4) (dVar 6))) (dMul (dSub (dAdd (dVar 3) (dVar 6)) (dC (.int 1))) (dIx (dVar 5) (dVar 6))))))
  (sDrop (dMeth 2 gAppend (dCons (dTup (dCons (dCall gSum (dCons (dVar 1) dNil)) (dCons (dIx (dVar 1) (dVar 3)) dNil))) dNil))))))
  (sRet (dVar 2))))
theorem cal_law_known {P : Program} {w : World} {K : PySem.W.Frag} {mg : Str → Option Value} {base : Heap} {f : Addr} {fd : FuncData} (F : Fun K "_law_known" "_law_known" s_law_known f fd) (hm : mg "_law_known" = some (.ref f)) (m_range : mg "range" = none) (m_sum : mg "sum" = none) :
    Cal P w K mg base 1 "_law_known" s_law_known ["_law_limit"] (fnB 1 7 (b_law_known )) :=
  cal_mk F sc_law_known hm (F.binds fun _ _ _ _ _ _ us hl => match us, hl with | [_], _ => rfl) fun cdv A outer s H hr =>
  (dss_cons (ds_par2 1 2 rfl sc_law_known.nd (de_lst (da_cons de_int da_nil)) (de_lst (da_cons (de_tup (da_cons de_int (da_cons de_int da_nil))) (da_cons (de_tup (da_cons de_int (da_cons de_int da_nil))) da_nil))))
  (dss_cons (ds_for PassesOwn.never rfl (di_rng2 (by rfl) m_range (da_cons de_int (da_cons (de_var 0) da_nil))) (dg_name 3 sc_law_known.nd)
  (dss_cons (ds_asg (de_tup (da_cons (de_add (de_var 1) (de_lst (da_cons de_int da_nil))) (da_cons (de_add (de_lst (da_cons de_int da_nil)) (de_var 1)) da_nil))) (dg_tup rfl (dgs_cons (dg_name 4 sc_law_known.nd) (dgs_cons (dg_name 5 sc_law_known.nd) dgs_nil))))
  (dss_cons (ds_setLcV (own := [("_law_k", 6)]) 1 rfl sc_law_known.nd rfl rfl (sw_true rfl rfl rfl (by decide +kernel)) (di_rng1 (by rfl) m_range (da_cons (de_add (de_var 3) de_int) da_nil)) (by exact blkOk_by (own := [("_law_k", 6)]) (N := n_law_known) (sc := defScope s_law_known) (by decide +kernel)) (fun _ _ _ _ _ => (dg_name 6 sc_law_known.nd)) (fun _ _ _ _ _ => dts_nil) (fun _ _ _ _ _ => (de_add (de_mul (de_var 6) (de_ix (de_var 4) (de_var 6))) (de_mul (de_sub (de_add (de_var 3) (de_var 6)) de_int) (de_ix (de_var 5) (de_var 6))))) (by decide))
  (dss_one (ds_expr (de_meth PySem.F.slot_list_append PySem.F.type_list_append mt_append md_append rfl (da_cons (de_tup (da_cons (de_sum rfl m_sum (da_cons (de_var 1) da_nil)) (da_cons (de_ix (de_var 1) (de_var 3)) da_nil))) da_nil)))))))
  (dss_one (ds_ret (de_var 2)))))
-- level 1 uses ['range', 'sum'] calls []
abbrev s_law_great : Stmt := topS 9
abbrev n_law_great : List Str := ["_law_many", "_law_scale", "_law_k", "_law_found", "_law_wide", "_law_much", "_law_one"]
theorem sc_law_great : FnScope ["_law_many", "_law_scale", "_law_k", "_law_found", "_law_wide", "_law_much", "_law_one"] ["_law_many"] (defScope s_law_great) := ⟨rfl, rfl, rfl, by decide +kernel, rfl, by decide +kernel, by decide +kernel⟩
def b_law_great  : M Fl :=
  (sSeq (sSetV 1 (dC (.int 1)))
  (sSeq (sFor (iRng gRng1 (dCons (dVar 0) dNil)) (gN 2)
  (sSetV 1 (dMul (dVar 1) (dAdd (dVar 2) (dC (.int 1))))))
  (sSeq (sSet 3 (dLst (dCons (dC (.int 0)) (dCons (dVar 1) dNil))))
  (sSeq (sFor (iRng gRng2 (dCons (dC (.int 2)) (dCons (dAdd (dVar 0) (dC (.int 1))) dNil))) (gN 4)
  (sSeq (sSetV 5 (dMul (dC (.int 2)) (dCall gSum (dCons (dLc [6] (iRng gRng2 (dCons (dC (.int 1)) (dCons (dDiv (dAdd (dVar 4) (dC (.int 1))) (dC (.int 2))) dNil))) (gN 6) tYesD (dMul (dIx (dVar 3) (dVar 6)) (dIx (dVar 3) (dSub (dVar 4) (dVar 6))))) dNil))))
  (sSeq (sIf (dBool (dEq (dMod (dCall gInt (dCons (dVar 4) dNil)) (dC (.int 2))) (dC (.int 0))))
  (sSetV 5 (dAdd (dVar 5) (dMul (dIx (dVar 3) (dDiv (dVar 4) (dC (.int 2)))) (dIx (dVar 3) (dDiv (dVar 4) (dC (.int 2)))))))
  sNx)
  (sDrop (dMeth 3 gAppend (dCons (dSub (dDiv (dVar 5) (dVar 1)) (dDiv (dMul (dSub (dVar 4) (dC (.int 1))) (dIx (dVar 3) (dSub (dVar 4) (dC (.int 1))))) (dVar 4))) dNil))))))
  (sRet (dIx (dVar 3) (dVar 0)))))))
theorem cal_law_great {P : Program} {w : World} {K : PySem.W.Frag} {mg : Str → Option Value} {base : Heap} {f : Addr} {fd : FuncData} (F : Fun K "_law_great" "_law_great" s_law_great f fd) (hm : mg "_law_great" = some (.ref f)) (m_int : mg "int" = none) (m_range : mg "range" = none) (m_sum : mg "sum" = none) :
    Cal P w K mg base 1 "_law_great" s_law_great ["_law_many"] (fnB 1 7 (b_law_great )) :=
  cal_mk F sc_law_great hm (F.binds fun _ _ _ _ _ _ us hl => match us, hl with | [_], _ => rfl) fun cdv A outer s H hr =>
  (dss_cons (ds_setV 1 sc_law_great.nd de_int)
  (dss_cons (ds_for PassesOwn.never rfl (di_rng1 (by rfl) m_range (da_cons (de_var 0) da_nil)) (dg_name 2 sc_law_great.nd)
  (dss_one (ds_setV 1 sc_law_great.nd (de_mul (de_var 1) (de_add (de_var 2) de_int)))))
  (dss_cons (ds_set 3 sc_law_great.nd (de_lst (da_cons de_int (da_cons (de_var 1) da_nil))))
  (dss_cons (ds_for PassesOwn.never rfl (di_rng2 (by rfl) m_range (da_cons de_int (da_cons (de_add (de_var 0) de_int) da_nil))) (dg_name 4 sc_law_great.nd)
  (dss_cons (ds_setV 5 sc_law_great.nd (de_mul de_int (de_sum rfl m_sum (da_cons (de_lc (own := [("_law_one", 6)]) rfl sc_law_great.nd (di_rng2 (by rfl) m_range (da_cons de_int (da_cons (de_div (de_add (de_var 4) de_int) de_int) da_nil))) (by exact blkOk_by (own := [("_law_one", 6)]) (N := n_law_great) (sc := defScope s_law_great) (by decide +kernel)) (fun _ _ _ _ _ => (dg_name 6 sc_law_great.nd)) (fun _ _ _ _ _ => dts_nil) (fun _ _ _ _ _ => (de_mul (de_ix (de_var 3) (de_var 6)) (de_ix (de_var 3) (de_sub (de_var 4) (de_var 6))))) (by decide)) da_nil))))
  (dss_cons (ds_if (dt_eq hr (de_mod (de_toInt m_int (da_cons (de_var 4) da_nil)) de_int) de_int)
  (dss_one (ds_setV 5 sc_law_great.nd (de_add (de_var 5) (de_mul (de_ix (de_var 3) (de_div (de_var 4) de_int)) (de_ix (de_var 3) (de_div (de_var 4) de_int))))))
  dss_nil)
  (dss_one (ds_expr (de_meth PySem.F.slot_list_append PySem.F.type_list_append mt_append md_append rfl (da_cons (de_sub (de_div (de_var 5) (de_var 1)) (de_div (de_mul (de_sub (de_var 4) de_int) (de_ix (de_var 3) (de_sub (de_var 4) de_int))) (de_var 4))) da_nil)))))))
  (dss_one (ds_ret (de_ix (de_var 3) (de_var 0))))))))
-- level 1 uses ['int', 'range', 'sum'] calls []
abbrev s_law_odd_product : Stmt := topS 10
abbrev n_law_odd_product : List Str := ["_law_many", "_law_much", "_law_even", "_law_k"]
theorem sc_law_odd_product : FnScope ["_law_many", "_law_much", "_law_even", "_law_k"] ["_law_many"] (defScope s_law_odd_product) := ⟨rfl, rfl, rfl, by decide +kernel, rfl, by decide +kernel, by decide +kernel⟩
def b_law_odd_product  : M Fl :=
  (sSeq (sAsg (dTup (dCons (dC (.int 1)) (dCons (dC (.int 1)) dNil))) (gT 2 (gsCons (gN 1) (gsCons (gN 2) gsNil))))
  (sSeq (sFor (iRng gRng2 (dCons (dC (.int 1)) (dCons (dSub (dMul (dC (.int 2)) (dVar 0)) (dC (.int 1))) dNil))) (gN 3)
  (sSeq (sSetV 1 (dMul (dVar 1) (dVar 3)))
  (sIf (dBool (dEq (dMod (dCall gInt (dCons (dVar 3) dNil)) (dC (.int 2))) (dC (.int 0))))
  (sSetV 2 (dMul (dVar 2) (dVar 3)))
  sNx)))
  (sRet (dDiv (dVar 1) (dVar 2)))))
theorem cal_law_odd_product {P : Program} {w : World} {K : PySem.W.Frag} {mg : Str → Option Value} {base : Heap} {f : Addr} {fd : FuncData} (F : Fun K "_law_odd_product" "_law_odd_product" s_law_odd_product f fd) (hm : mg "_law_odd_product" = some (.ref f)) (m_int : mg "int" = none) (m_range : mg "range" = none) :
    Cal P w K mg base 1 "_law_odd_product" s_law_odd_product ["_law_many"] (fnB 1 4 (b_law_odd_product )) :=
  cal_mk F sc_law_odd_product hm (F.binds fun _ _ _ _ _ _ us hl => match us, hl with | [_], _ => rfl) fun cdv A outer s H hr =>
  (dss_cons (ds_asg (de_tup (da_cons de_int (da_cons de_int da_nil))) (dg_tup rfl (dgs_cons (dg_name 1 sc_law_odd_product.nd) (dgs_cons (dg_name 2 sc_law_odd_product.nd) dgs_nil))))
  (dss_cons (ds_for PassesOwn.never rfl (di_rng2 (by rfl) m_range (da_cons de_int (da_cons (de_sub (de_mul de_int (de_var 0)) de_int) da_nil))) (dg_name 3 sc_law_odd_product.nd)
  (dss_cons (ds_setV 1 sc_law_odd_product.nd (de_mul (de_var 1) (de_var 3)))
  (dss_one (ds_if (dt_eq hr (de_mod (de_toInt m_int (da_cons (de_var 3) da_nil)) de_int) de_int)
  (dss_one (ds_setV 2 sc_law_odd_product.nd (de_mul (de_var 2) (de_var 3))))
  dss_nil))))
  (dss_one (ds_ret (de_div (de_var 1) (de_var 2))))))
-- level 1 uses ['int', 'range'] calls []
abbrev s_law_mixed : Stmt := topS 11
abbrev n_law_mixed : List Str := ["_law_source_here", "_law_items", "_law_found", "_law_one"]
theorem sc_law_mixed : FnScope ["_law_source_here", "_law_items", "_law_found", "_law_one"] ["_law_source_here", "_law_items"] (defScope s_law_mixed) := ⟨rfl, rfl, rfl, by decide +kernel, rfl, by decide +kernel, by decide +kernel⟩
def b_law_mixed (φ_law_draw : Fn) : M Fl :=
  (sSeq (sSet 2 (dLst dNil))
  (sSeq (sFor (iSeq (dVar 1)) (gN 3)
  (sDrop (dMeth 2 gInsert (dCons (dCallF φ_law_draw (dCons (dVar 0) (dCons (dAdd (dCall gLen (dCons (dVar 2) dNil)) (dC (.int 1))) dNil))) (dCons (dVar 3) dNil)))))
  (sRet (dVar 2))))
theorem cal_law_mixed {P : Program} {w : World} {K : PySem.W.Frag} {mg : Str → Option Value} {base : Heap} {f : Addr} {fd : FuncData} (F : Fun K "_law_mixed" "_law_mixed" s_law_mixed f fd) (hm : mg "_law_mixed" = some (.ref f)) (m_len : mg "len" = none) {φ_law_draw : Fn} (c_law_draw : Cal P w K mg base 1 "_law_draw" s_law_draw ["_law_source_here", "_law_many"] φ_law_draw) :
    Cal P w K mg base 2 "_law_mixed" s_law_mixed ["_law_source_here", "_law_items"] (fnB 2 4 (b_law_mixed φ_law_draw)) :=
  cal_mk F sc_law_mixed hm (F.binds fun _ _ _ _ _ _ us hl => match us, hl with | [_, _], _ => rfl) fun cdv A outer s H hr =>
  (dss_cons (ds_set 2 sc_law_mixed.nd (de_lst da_nil))
  (dss_cons (ds_for PassesOwn.never rfl (di_seq (de_var 1)) (dg_name 3 sc_law_mixed.nd)
  (dss_one (ds_expr (de_meth PySem.F.slot_list_insert PySem.F.type_list_insert mt_insert md_insert rfl (da_cons (de_callF (c_law_draw) hr (by rfl) (da_cons (de_var 0) (da_cons (de_add (de_len m_len (da_cons (de_var 2) da_nil)) de_int) da_nil))) (da_cons (de_var 3) da_nil))))))
  (dss_one (ds_ret (de_var 2)))))
-- level 2 uses ['len'] calls ['_law_draw']
end DL
set_option Elab.async false
set_option linter.all false
set_option maxRecDepth 100000
set_option maxHeartbeats 1000000
/-! What all families of sources share: free reads, changes within the source, the draw's own promise. -/
namespace DL
open PySem PySem.Spec L2
open PyProof.Rows hiding St
def zig (n : Nat) : Int := if n % 2 = 0 then ((n / 2 : Nat) : Int) else -(((n / 2 : Nat) : Int) + 1)
theorem zig_sur (i : Int) : ∃ n, zig n = i := by
  by_cases h : 0 ≤ i
  · refine ⟨2 * i.toNat, ?_⟩
    unfold zig
    rw [if_pos (by omega)]
    omega
  · refine ⟨2 * (-i - 1).toNat + 1, ?_⟩
    unfold zig
    rw [if_neg (by omega)]
    omega
def shf (ω : Om) : Om := fun i => ω (i + 1)
def cns (n : Nat) (ω : Om) : Om := fun i => match i with
  | 0 => n
  | i + 1 => ω i
/-- the name at 0 is the source -/
def isSrc (ρ : Env') : Bool := match (ρ[0]? : Option (Option Cell)) with
  | some (some Cell.src) => true
  | _ => false
theorem isSrc_at {ρ : Env'} (h : isSrc ρ = true) : ρ[0]? = some (some .src) := by
  unfold isSrc at h
  split at h
  · assumption
  · cases h
/-- some int of the source -/
def dAny : M RC := fun ρ ω => if isSrc ρ then some (.val (.int (zig (ω 0))), ρ, shf ω) else none
theorem Can.any {ρ : Env'} (h : isSrc ρ = true) (i : Int) : Can dAny ρ (.val (.int i)) ρ := fun ω' => by
  obtain ⟨n, e⟩ := zig_sur i
  refine ⟨cns n ω', ?_⟩
  unfold dAny
  rw [if_pos h]
  show some (RC.val (.int (zig n)), ρ, ω') = _
  rw [e]
theorem Tot.any {ρ : Env'} (T : Tot dAny ρ) : isSrc ρ = true := by
  obtain ⟨r, e⟩ := T fun _ => 0
  unfold dAny at e
  split at e
  · assumption
  · cases e
/-- some int of the source, picked by the int that the name at j has -/
def dItem (j : Nat) : M RC := fun ρ ω => match (ρ[j]? : Option (Option Cell)) with
  | some (some (Cell.val (.int _))) => dAny ρ ω
  | _ => none
theorem Tot.item {ρ : Env'} {j : Nat} (T : Tot (dItem j) ρ) : ∃ t, ρ[j]? = some (some (.val (.int t))) ∧ isSrc ρ = true := by
  obtain ⟨r, e⟩ := T fun _ => 0
  unfold dItem at e
  split at e
  · rename_i t h
    refine ⟨t, h, Tot.any (ρ := ρ) fun ω => ?_⟩
    obtain ⟨r2, e2⟩ := T ω
    unfold dItem at e2
    rw [h] at e2
    exact ⟨r2, e2⟩
  · cases e
theorem Can.item {ρ : Env'} {j : Nat} {t : Int} (h : ρ[j]? = some (some (.val (.int t)))) (hs : isSrc ρ = true) (i : Int) : Can (dItem j) ρ (.val (.int i)) ρ := fun ω' => by
  obtain ⟨ω, e⟩ := Can.any hs i ω'
  refine ⟨ω, ?_⟩
  unfold dItem
  rw [h]
  exact e
def goodN (n : Int) : Bool := decide (0 < n) && decide (n.natAbs.log2 < 9000)
theorem goodN_pos {n : Int} (h : goodN n = true) : 0 < n := by unfold goodN at h; rw [Bool.and_eq_true] at h; exact of_decide_eq_true h.1
theorem goodN_div {n : Int} (h : goodN n = true) (i : Int) : CDivW i n := by unfold goodN at h; rw [Bool.and_eq_true] at h; exact ⟨of_decide_eq_true h.1, of_decide_eq_true h.2⟩
/-- the head of a draw: the great list, if it is not empty, or nothing -/
def sHead : M Fl := fun ρ ω => match ρ with
  | [some .src, some (.val (.int n)), _, _, _] => if goodN n then (match ω 0 with
    | 0 => some (.nx, ρ, shf ω)
    | x + 1 => some (.rt (.val (.int ((x : Int) % n))), ρ, shf ω)) else none
  | _ => none
theorem Tot.head {ρ : Env'} (T : Tot sHead ρ) : ∃ n a b c, ρ = [some .src, some (.val (.int n)), a, b, c] ∧ goodN n = true := by
  obtain ⟨r, e⟩ := T fun _ => 0
  unfold sHead at e
  split at e
  · split at e
    · rename_i h; exact ⟨_, _, _, _, rfl, h⟩
    · cases e
  · cases e
theorem Can.head0 {n : Int} {a b c : Option Cell} (h : goodN n = true) : Can sHead [some .src, some (.val (.int n)), a, b, c] .nx [some .src, some (.val (.int n)), a, b, c] := fun ω' => ⟨cns 0 ω', by
  simp only [sHead, if_pos h]; rfl⟩
theorem Can.head1 {n : Int} {a b c : Option Cell} (h : goodN n = true) (x : Int) : Can sHead [some .src, some (.val (.int n)), a, b, c] (.rt (.val (.int (x % n)))) [some .src, some (.val (.int n)), a, b, c] := fun ω' => ⟨cns ((x % n).toNat + 1) ω', by
  have h1 := goodN_pos h
  have h2 : 0 ≤ x % n := Int.emod_nonneg _ (by omega)
  have h3 : (((x % n).toNat : Nat) : Int) % n = x % n := by rw [Int.toNat_of_nonneg h2]; exact Int.emod_emod_of_dvd _ (Int.dvd_refl n)
  simp only [sHead, if_pos h]
  show some (Fl.rt (.val (.int ((((x % n).toNat : Nat) : Int) % n))), _, ω') = _
  rw [h3]⟩
/-- a step in the source's turn -/
def sTurn (f : M RC) : M Fl := bnd f fun c => bnd (now c) fun d => match d with
  | .int _ => fun ρ ω => if isSrc ρ then some (.nx, ρ, ω) else none
  | _ => fail
/-- the draw: a number below n -/
def fDraw : Fn := fun cs ω => match cs with
  | [.src, .val (.int n)] => if goodN n then some (.val (.int ((ω 0 : Int) % n)), shf ω) else none
  | _ => none
theorem can_draw {n y : Int} (h : goodN n = true) (h0 : 0 ≤ y) (h1 : y < n) : CanF fDraw [.src, .val (.int n)] (.val (.int y)) := fun ω' => ⟨cns y.toNat ω', by
  simp only [fDraw, if_pos h]
  show some (Cell.val (.int ((y.toNat : Int) % n)), ω') = _
  rw [Int.toNat_of_nonneg h0, Int.emod_eq_of_lt h0 h1]⟩
section
variable [Fam] {C : Ctx} {G : List Addr} {ρ : Env'} {σ : L2.St} {H H' : Hp}
theorem RS.chg (R : RS C G ρ σ H) (k : ∀ b o, H b = some o → ¬ C.S b → H' b = some o) (i : Fam.inv C.srcv C.S H') : Aft C G ρ σ H G ρ H' := by
  have sv : C.Src (Fs C G) H' := C.chg _ _ _ R.src k i
  have th : ∀ b, H b ≠ none → H' b ≠ none := fun b h => by
    by_cases hs : C.S b
    · exact C.there _ _ b sv hs
    · obtain ⟨o, e⟩ := Option.ne_none_iff_exists'.mp h
      rw [k b o e hs]; simp
  exact ⟨R.heap GExt.refl (fun b o e ns => k b o (R.frame b o e ns) ns) (fun a h => ⟨(R.gs a h).1, (R.gs a h).2.1, th a (R.gs a h).2.2⟩) sv k, ⟨fun b o e ns _ => k b o e ns, th⟩, Shape.refl, GExt.refl⟩
theorem RS.srcAt (R : RS C G ρ σ H) (h : isSrc ρ = true) : σ[0]? = some (some C.srcv) := by
  obtain ⟨v, hv, e⟩ := R.slot 0 _ (isSrc_at h)
  have e' : v = C.srcv := e
  rw [hv, e']
/-- a def's function by another that gives no less -/
theorem Cal.impC {P : Program} {w : World} {K : PySem.W.Frag} {mg : Str → Option Value} {base : Heap} {k : Nat} {x : Str} {st : Stmt} {ps : List Str} {Φ Φ' : Fn} (F : Cal P w K mg base k x st ps Φ) (h : ∀ cs, cs.length = ps.length → TotF Φ' cs → TotF Φ cs ∧ ∀ c, CanF Φ cs c → CanF Φ' cs c)
    (ar : ∀ cs r ω, Φ' cs ω = some r → cs.length = ps.length) : Cal P w K mg base k x st ps Φ' := by
  obtain ⟨f, fd, a, b, c, d⟩ := F.ex
  refine ⟨⟨f, fd, a, ⟨?_, ?_⟩, c, d⟩, ar⟩
  · rintro vs H Q E ⟨C, cs, _, hl, ha, _⟩
    exact ha.length.trans hl
  · rintro A outer s H args us vs Q E hr e0 hb r ⟨C, cs, hH, hl, ha, hs, T, k⟩
    obtain ⟨T2, k2⟩ := h cs hl T
    exact b.run A outer s H args us vs Q E hr e0 hb r ⟨C, cs, hH, hl, ha, hs, T2, fun c v H' cf rp => k c v H' (k2 c cf) rp⟩
/-- within a def of the draws: what a way out asks -/
theorem rt_src (R : RS C G ρ σ H) {v : V} {d : PyData} (r : ∀ F H, Rep F H v d) : RetPost C H v (.val d) := ⟨R.frame, r _ _, C.mono _ _ _ (fun _ z => .inl z) R.src⟩
end
end DL
set_option Elab.async false
set_option linter.all false
set_option maxRecDepth 100000
set_option maxHeartbeats 1000000
/-! The source of draws as a list: two lists of ints, two ints; the first list is taken from its front. -/
namespace DL
open PySem PySem.Spec L2
open PyProof.Rows hiding St

structure InvL (v : V) (S : Addr → Prop) (H : Hp) (p g f : Addr) (gs fs : List Int) (a b : Int) : Prop where
  hv : v = .ref p
  hS : ∀ x, S x ↔ x = p ∨ x = g ∨ x = f
  hp : H p = some (.lst [.ref g, .ref f, .int a, .int b])
  hg : H g = some (.lst (gs.map V.int))
  lg : gs.length ≤ 100
  hf : H f = some (.lst (fs.map V.int))
  nf : fs ≠ []
  pg : p ≠ g
  pf : p ≠ f
  gf : g ≠ f
def famInvL (v : V) (S : Addr → Prop) (H : Hp) : Prop := ∃ p g f gs fs a b, InvL v S H p g f gs fs a b
instance famL : Fam := ⟨famInvL⟩
section
variable {C : Ctx} {G : List Addr} {ρ : Env'} {σ : L2.St} {H H' : Hp} {p g f : Addr} {gs fs : List Int} {a b : Int} {v : V} {S : Addr → Prop}
theorem RS.invL (R : RS C G ρ σ H) : ∃ p g f gs fs a b, InvL C.srcv C.S H p g f gs fs a b := C.fam _ _ R.src
/-- a new object beside it -/
theorem InvL.new (I : InvL v S H p g f gs fs a b) {q : Addr} {o : HO} (hq : H q = none) : InvL v S (upd H q o) p g f gs fs a b :=
  ⟨I.hv, I.hS, upd_keep hq _ _ I.hp, upd_keep hq _ _ I.hg, I.lg, upd_keep hq _ _ I.hf, I.nf, I.pg, I.pf, I.gf⟩
theorem InvL.setG (I : InvL v S H p g f gs fs a b) {xs : List Int} (h : xs.length ≤ 100) : InvL v S (upd H g (.lst (xs.map V.int))) p g f xs fs a b :=
  ⟨I.hv, I.hS, by rw [upd_ne I.pg]; exact I.hp, upd_same, h, by rw [upd_ne (Ne.symm I.gf)]; exact I.hf, I.nf, I.pg, I.pf, I.gf⟩
theorem InvL.setP (I : InvL v S H p g f gs fs a b) {x y : Int} : InvL v S (upd H p (.lst [.ref g, .ref f, .int x, .int y])) p g f gs fs x y :=
  ⟨I.hv, I.hS, upd_same, by rw [upd_ne (Ne.symm I.pg)]; exact I.hg, I.lg, by rw [upd_ne (Ne.symm I.pf)]; exact I.hf, I.nf, I.pg, I.pf, I.gf⟩
theorem hasDict_ints : ∀ ns : List Int, PyData.hasDictAll (ns.map PyData.int) = false
  | [] => rfl
  | _ :: r => by simp only [List.map_cons, PyData.hasDictAll, PyData.hasDict, hasDict_ints r, Bool.or_false]
theorem dp_ints {K : PySem.W.Frag} {q : Addr} {xs : List Int} (h : H q = some (.lst (xs.map V.int))) : Dp K H (.ref q) (.list (xs.map PyData.int)) :=
  Rep.dp (F := fun _ => False) (.lst (fun z => z) (.inl h) (RepAll.ofInts xs)) (by simp only [PyData.hasDict]; exact hasDict_ints xs)
abbrev rIns : V → List V → Hp → VK → Prop := fun x vs H Q => ∃ (l : Addr) (xs : List V) (i : Int) (y : V), x = .ref l ∧ vs = [.int i, y] ∧ H l = some (.lst xs) ∧ xs.length < sizeLine ∧ 0 ≤ i ∧ i < 2 ^ 63 ∧
    Q .non (upd H l (.lst (xs.take i.toNat ++ [y] ++ xs.drop i.toNat)))
abbrev rInt1 : List V → Hp → VK → Prop := fun xs H Q => (∃ i, xs = [.int i] ∧ Q (.int i) H) ∨ ∃ k, xs = [.bl k] ∧ Q (.int (if k then 1 else 0)) H
abbrev tSrc0 (K : PySem.W.Frag) (i : Int) : TE := tOp (rIx K) (tVar 0) (tC (.int i))
abbrev tHeadL (K : PySem.W.Frag) : TS := tIfS (tTest (tOp (rNeD K) (tSrc0 K 0) (tLst tNil)))
 (tSeq (tAsg (tBM K "list" rPopAt (tSrc0 K 0) (tCons (tC (.int 0)) tNil)) (gName 2))
 (tSeq (tIfS (tTest (tOp (rI0 fun i j => V.bl (decide (j ≤ i))) (tVar 2) (tVar 1))) (tDrop (tBM K "list" rIns (tSrc0 K 0) (tCons (tC (.int 0)) (tCons (tOp (rI CDivW fun i j => .int (i / j)) (tVar 2) (tVar 1)) tNil)))) tNext)
 (tRet (tOp (rI (fun _ j => 0 < j) fun i j => .int (i % j)) (tCB rInt1 (tCons (tVar 2) tNil)) (tVar 1)))))
 tNext
theorem lift_headL {K : PySem.W.Frag} {D : Ends} (h : liftS sHead D σ H) : tHeadL K D σ H := by
  obtain ⟨C, G, ρ, R, T, k, kr⟩ := h
  obtain ⟨n, c2, c3, c4, rfl, hn⟩ := T.head
  have hl : σ.length = 5 := R.len
  have h0 : σ[0]? = some (some C.srcv) := R.srcAt rfl
  obtain ⟨v1, h1, r1⟩ := R.slot 1 _ rfl
  have e1 : v1 = .int n := by cases r1; rfl
  subst e1
  obtain ⟨p, g, f, gs, fs, a, b, I⟩ := R.invL
  have hv := I.hv
  refine ⟨_, h0, .inl ⟨p, _, 0, .ref g, hv, rfl, SqL.of I.hp, atI_nat (j := 0) rfl, Nat.zero_le _, fun q hq => ?_⟩⟩
  have I1 := I.new (o := .lst []) hq
  have A1 : Aft C G _ σ H G _ (upd H q (.lst [])) := R.chg (fun b o e _ => upd_keep hq _ _ e) ⟨p, g, f, gs, fs, a, b, I1⟩
  refine ⟨.list (gs.map .int), .list [], dp_ints I1.hg, Dp.lst (.inl (.inl upd_same)) .nil, PySem.W.shaped_ints gs, by decide +kernel, _, rfl, ?_⟩
  cases gs with
  | nil =>
    rw [if_neg (by simp [PyData.eqv, PyData.eqvAll])]
    exact k .nx _ G σ _ (Can.head0 hn) A1.aftS
  | cons x xs =>
    rw [if_pos (by simp [PyData.eqv, PyData.eqvAll])]
    have lx : xs.length + 1 ≤ 100 := I.lg
    refine ⟨_, h0, .inl ⟨p, _, 0, .ref g, hv, rfl, SqL.of I1.hp, atI_nat (j := 0) rfl, .inl ⟨rfl, _, SqL.of I1.hg⟩, g, _, 0, 0, .int x, rfl, rfl, I1.hg, by decide, by decide, ?_, rfl, ?_⟩⟩
    · simp [seqIndex?]
    have I2 := I1.setG (xs := xs) (by omega)
    have eh : upd (upd H q (.lst [])) g (.lst ((List.map V.int (x :: xs)).eraseIdx 0)) = upd (upd H q (.lst [])) g (.lst (xs.map V.int)) := rfl
    rw [eh]
    have s0 : (σ.set 2 (some (V.int x)))[0]? = some (some C.srcv) := by rw [List.getElem?_set_ne (by decide)]; exact h0
    have s1 : (σ.set 2 (some (V.int x)))[1]? = some (some (.int n)) := by rw [List.getElem?_set_ne (by decide)]; exact h1
    have s2 : (σ.set 2 (some (V.int x)))[2]? = some (some (.int x)) := by rw [List.getElem?_set_self (by omega)]
    have fin : ∀ H3 : Hp, (∀ b o, H b = some o → ¬ C.S b → H3 b = some o) → famInvL C.srcv C.S H3 → D.rt (.int (x % n)) H3 := fun H3 kk i3 =>
      kr (.val (.int (x % n))) _ (.int (x % n)) H3 (Can.head1 hn x) (rt_src (R.chg kk i3).rs fun _ _ => .int _)
    have ng : ∀ {b : Addr}, ¬ C.S b → b ≠ g := fun {b} ns e => ns ((I.hS b).mpr (.inr (.inl e)))
    have k2 : ∀ b o, H b = some o → ¬ C.S b → upd (upd H q (.lst [])) g (.lst (xs.map V.int)) b = some o := fun b o e ns => by
      rw [upd_ne (ng ns)]; exact upd_keep hq _ _ e
    refine ⟨_, s2, _, s1, x, n, rfl, rfl, _, rfl, ?_⟩
    show ite (decide (n ≤ x) = true) _ _
    have last : ∀ H3 : Hp, D.rt (.int (x % n)) H3 → tRet (tOp (rI (fun _ j => 0 < j) fun i j => .int (i % j)) (tCB rInt1 (tCons (tVar 2) tNil)) (tVar 1)) D (σ.set 2 (some (V.int x))) H3 := fun H3 q =>
      ⟨_, s2, .inl ⟨x, rfl, _, s1, x, n, rfl, rfl, goodN_pos hn, q⟩⟩
    by_cases hx : decide (n ≤ x) = true
    · rw [if_pos hx]
      refine ⟨_, s0, .inl ⟨p, _, 0, .ref g, hv, rfl, SqL.of I2.hp, atI_nat (j := 0) rfl, .inl ⟨rfl, _, SqL.of I2.hg⟩, _, s2, _, s1, x, n, rfl, rfl, goodN_div hn x, g, _, 0, _, rfl, rfl, I2.hg, small1000 (by rw [List.length_map]; omega), Int.le_refl 0, by decide, ?_⟩⟩
      have I3 := I2.setG (xs := (x / n) :: xs) (by simp only [List.length_cons]; omega)
      exact last _ (fin _ (fun b o e ns => by rw [upd_ne (ng ns)]; exact k2 b o e ns) ⟨p, g, f, _, fs, a, b, I3⟩)
    · rw [if_neg hx]
      exact last _ (fin _ k2 ⟨p, g, f, _, fs, a, b, I2⟩)
theorem lift_srcI {K : PySem.W.Frag} {Q : VK} (k : Int) (hk : k = 2 ∨ k = 3) (h : liftE dAny σ H Q) : tSrc0 K k σ H Q := by
  obtain ⟨C, G, ρ, R, T, kk⟩ := h
  obtain ⟨p, g, f, gs, fs, a, b, I⟩ := R.invL
  refine ⟨_, R.srcAt T.any, .inl ?_⟩
  rcases hk with rfl | rfl
  · exact ⟨p, _, 2, .int a, I.hv, rfl, SqL.of I.hp, atI_nat (j := 2) rfl, kk _ ρ G _ H (Can.any T.any a) (.refl R) (.int a) trivial⟩
  · exact ⟨p, _, 3, .int b, I.hv, rfl, SqL.of I.hp, atI_nat (j := 3) rfl, kk _ ρ G _ H (Can.any T.any b) (.refl R) (.int b) trivial⟩
theorem now_int {ρ : Env'} {c : RC} {α : Type} {f : PyData → M α} (T : Tot (bnd (now c) f) ρ) : ∃ d, c.get ρ = some d ∧ Tot (f d) ρ := by
  obtain ⟨d, e⟩ := T.fst.now
  exact ⟨d, e, T.snd (Can.now e)⟩
theorem pend_int (R : RS C G ρ σ H) {w : V} {c : RC} {i : Int} (pd : Pend C G ρ σ H w c) (e : c.get ρ = some (.int i)) : w = .int i := by
  have t := pd.top R e
  cases t
  rfl
abbrev rLenA (K : PySem.W.Frag) : List V → Hp → VK → Prop := fun xs H Q => ∃ p ys, xs = [.ref p] ∧ (SqL K H p ys ∨ SqT K H p ys) ∧ Q (.int ys.length) H
theorem lift_item {K : PySem.W.Frag} {Q : VK} {j : Nat} (h : liftE (dItem j) σ H Q) :
    tOp (rIx K) (tSrc0 K 1) (tOp (rI (fun _ j => 0 < j) fun i j => .int (i % j)) (tCB rInt1 (tCons (tVar j) tNil)) (tCB (rLenA K) (tCons (tSrc0 K 1) tNil))) σ H Q := by
  obtain ⟨C, G, ρ, R, T, kk⟩ := h
  obtain ⟨p, g, f, gs, fs, a, b, I⟩ := R.invL
  obtain ⟨t, et, hs⟩ := T.item
  obtain ⟨v, hv, rv⟩ := R.slot j _ et
  have ev : v = .int t := by cases rv; rfl
  subst ev
  have hl : 0 < fs.length := List.length_pos_iff.mpr I.nf
  have e1 : 0 ≤ t % (fs.length : Int) := Int.emod_nonneg _ (by omega)
  have e2 : t % (fs.length : Int) < fs.length := Int.emod_lt_of_pos _ (by omega)
  obtain ⟨y, hy⟩ : ∃ y, fs[(t % (fs.length : Int)).toNat]? = some y := ⟨_, List.getElem?_eq_getElem (by omega)⟩
  have at1 : atI (fs.map V.int) (t % (fs.length : Int)) = some (.int y) := by
    rw [← Int.toNat_of_nonneg e1]
    exact atI_nat (by rw [List.getElem?_map, hy]; rfl)
  refine ⟨_, R.srcAt hs, .inl ⟨p, _, 1, .ref f, I.hv, rfl, SqL.of I.hp, atI_nat (j := 1) rfl, _, hv, .inl ⟨t, rfl, _, R.srcAt hs, .inl ⟨p, _, 1, .ref f, I.hv, rfl, SqL.of I.hp, atI_nat (j := 1) rfl, f, _, rfl, .inl (SqL.of I.hf), t, (fs.length : Int), rfl, ?_, by omega, ?_⟩⟩⟩⟩
  · rw [List.length_map]
  · exact .inl ⟨f, _, _, .int y, rfl, rfl, SqL.of I.hf, at1, kk _ ρ G _ H (Can.item et hs y) (.refl R) (.int y) trivial⟩
theorem lift_turn {D : Ends} {fe : M RC} (h : liftS (sTurn fe) D σ H) : tAsg (liftE fe) (gSub (tVar 0) (tC (.int 3)) rSetL) D σ H := by
  obtain ⟨C, G, ρ, R, T, k, kr⟩ := h
  refine ⟨C, G, ρ, R, T.fst, fun c ρ1 G1 w H1 cn A pd n => ?_⟩
  have T1 := T.snd cn
  obtain ⟨d, hd, T2⟩ := now_int T1
  obtain ⟨i, rfl⟩ : ∃ i, d = .int i := by
    cases d with
    | int i => exact ⟨i, rfl⟩
    | _ => exact T2.fail.elim
  have ew := pend_int A.rs pd hd
  subst ew
  have hs : isSrc ρ1 = true := by
    obtain ⟨r, e⟩ := T2 fun _ => 0
    by_cases z : isSrc ρ1 = true
    · exact z
    · simp only [if_neg z] at e; cases e
  obtain ⟨p, g, f, gs, fs, a, b, I⟩ := A.rs.invL
  refine ⟨_, A.rs.srcAt hs, p, _, 3, 3, I.hv, rfl, I.hp, rfl, ?_⟩
  have I2 := I.setP (x := a) (y := i)
  have A2 : Aft C G1 ρ1 σ H1 G1 ρ1 (upd H1 p (.lst [.ref g, .ref f, .int a, .int i])) := A.rs.chg (fun b o e ns => by
    rw [upd_ne fun e => ns ((I.hS b).mpr (.inl e))]; exact e) ⟨p, g, f, gs, fs, a, i, I2⟩
  refine k .nx ρ1 G1 σ _ (cn.bnd ((Can.now hd).bnd fun ω' => ⟨ω', ?_⟩)) (A.trans A2).aftS
  simp only [if_pos hs]
end
/-- the draw's text, as a function on data -/
def bDrawL  : M Fl :=
  (sSeq sHead
  (sSeq (sTurn (dAdd dAny (dC (.int 1))))
  (sSeq (sSetV 3 dAny)
  (sSeq (sSetV 2 (dItem 3))
  (sSeq (sSetV 4 (dAdd (dAdd (dMul (dVar 2) (dC (.int 6364136223846793005))) (dMul dAny (dC (.int 1442695040888963407)))) (dMul (dVar 3) (dC (.int 2862933555777941757)))))
  (sSeq (sSetV 4 (dMod (dCall gInt (dCons (dVar 4) dNil)) (dC (.int 18446744073709551557))))
  (sSeq (sSetV 4 (dMod (dCall gInt (dCons (dAdd (dAdd (dMul (dVar 4) (dVar 4)) (dMul (dVar 3) (dC (.int 3202034522624059733)))) (dC (.int 40961))) dNil)) (dC (.int 18446744073709551533))))
  (sRet (dMod (dDiv (dMod (dCall gInt (dCons (dAdd (dMul (dVar 4) (dVar 4)) (dVar 4)) dNil)) (dC (.int 18446744073709551521))) (dC (.int 4096))) (dVar 1))))))))))
theorem sq_ok (i c : Int) (h : 0 < c) (h2 : c < 2 ^ 64) : mulOk (i % c) (i % c) = true := by
  have h1 := Int.emod_nonneg i (show c ≠ 0 by omega)
  have h3 := Int.emod_lt_of_pos i h
  unfold mulOk
  rw [Bool.or_eq_true, Bool.or_eq_true]
  exact .inl (.inl (decide_eq_true (by omega)))
theorem draw_outL {n : Int} (hn : goodN n = true) (ω : Om) : ∃ y ω', 0 ≤ y ∧ y < n ∧ fnB 2 5 bDrawL [.src, .val (.int n)] ω = some (.val (.int y), ω') := by
  have h0 := goodN_pos hn
  have hd : divOk 0 n = true := hn
  have md : ∀ x : Int, 0 ≤ x % n ∧ x % n < n := fun x => ⟨Int.emod_nonneg _ (by omega), Int.emod_lt_of_pos _ h0⟩
  have mo : ∀ i c : Int, decide (c.natAbs < 2 ^ 64) = true → mulOk i c = true := fun i c h => by unfold mulOk; rw [h]; simp
  cases e : ω 0 with
  | succ x =>
    refine ⟨(x : Int) % n, shf ω, (md _).1, (md _).2, ?_⟩
    simp [fnB, runB, padE, bDrawL, sSeq, bnd, sHead, hn, e, ret]
  | zero =>
    have dn : ∀ i, divOk i n = true := fun _ => hn
    have d4 : ∀ i, divOk i 4096 = true := fun _ => show divOk 0 4096 = true by decide +kernel
    simp [fnB, runB, padE, bDrawL, sSeq, bnd, sHead, hn, e, ret, opt, now, RC.get, sTurn, dAny, isSrc, dItem, dVar, dC, dAdd, dMul, dMod, dDiv, dOp, gAdd, gMul, gI, sSetV, putC, cellOfV, dCall, nows, gInt, dCons, dNil, sRet, nowCell, retCell, mo, sq_ok, d4, h0]
    exact md _
theorem draw_arF : ∀ cs r ω, fDraw cs ω = some r → cs.length = 2 := fun cs r ω e => by
  unfold fDraw at e
  split at e
  · rfl
  · cases e
theorem draw_imp {Φ : Fn} (out : ∀ {n : Int}, goodN n = true → ∀ ω, ∃ y ω', 0 ≤ y ∧ y < n ∧ Φ [.src, .val (.int n)] ω = some (.val (.int y), ω')) : ∀ cs : List Cell, cs.length = 2 → TotF fDraw cs → TotF Φ cs ∧ ∀ c, CanF Φ cs c → CanF fDraw cs c := fun cs _ T => by
  obtain ⟨r, e⟩ := T fun _ => 0
  unfold fDraw at e
  split at e
  · rename_i n
    split at e
    · rename_i hn
      refine ⟨fun ω => ?_, fun c h => ?_⟩
      · obtain ⟨y, ω', _, _, e⟩ := out hn ω
        exact ⟨_, e⟩
      · obtain ⟨ω, e1⟩ := h fun _ => 0
        obtain ⟨y, ω', h0, h1, e2⟩ := out hn ω
        rw [e2] at e1
        cases e1
        exact can_draw hn h0 h1
    · cases e
  · cases e
end DL
set_option Elab.async false
set_option linter.all false
set_option maxRecDepth 100000
set_option maxHeartbeats 1000000
/-! How the list source is made (the texts of the laws 71 to 84). -/
namespace DL
open PySem PySem.Spec L2
open PyProof.Rows hiding St
/-- a comprehension over ints -/
theorem compL_ints {j : Nat} {t : M Bool} {fe : M RC} (φ : Int → Int) (p : Int → Bool) {ρ : Env'} (hj : j < ρ.length) (hρ : ρ.set j none = ρ)
    (ht : ∀ i ω, t (ρ.set j (some (.val (.int i)))) ω = some (p i, ρ.set j (some (.val (.int i))), ω)) (hf : ∀ i ω, p i = true → fe (ρ.set j (some (.val (.int i)))) ω = some (.val (.int (φ i)), ρ.set j (some (.val (.int i))), ω)) :
    ∀ (ns : List Int) (acc : List PyData) (ω : Om), compL (gN j) t fe [j] (ns.map PyData.int) acc ρ ω = some (acc.reverse ++ ((ns.filter p).map φ).map PyData.int, ρ, ω)
  | [], acc, ω => by simp [compL, ret]
  | i :: ns, acc, ω => by
    have hb : Nat.ble (j + 1) ρ.length = true := Nat.ble_eq_true_of_le hj
    have wp : wipeE (ρ.set j (some (.val (.int i)))) [j] = ρ := by simp [wipeE, hρ]
    rw [List.map_cons, compL]
    cases hp : p i with
    | true => simp [bnd, gN, putC, hb, ht, hf, hp, opt, esc, wipeM, wp, compL_ints φ p hj hρ ht hf ns]
    | false => simp [bnd, gN, putC, hb, ht, hp, wipeM, wp, compL_ints φ p hj hρ ht hf ns]
theorem cutD_ints (ns : List Int) (lo hi : Option Int) : cutD (ns.map PyData.int) lo hi = (cutD ns lo hi).map PyData.int := by
  simp [cutD, List.map_drop, List.map_take]
theorem cutD_len {α : Type} (xs : List α) (lo hi : Option Int) : (cutD xs lo hi).length ≤ xs.length := by
  simp only [cutD, List.length_take, List.length_drop]; omega
theorem mul_sm (i c : Int) (h : decide (c.natAbs < 2 ^ 64) = true) : mulOk c i = true := by unfold mulOk; rw [h]; simp
def LC1 : M Fl := sSetV 1 (dLc [2] (iSeq (dSl (dVar 0) dNoP (dP (dC (.int 63))))) (gN 2) tYesD (dIf (dBool (dGe (dVar 2) (dC (.int 0)))) (dAdd (dMul (dC (.int 2)) (dVar 2)) (dC (.int 1))) (dSub (dC (.int 0)) (dMul (dC (.int 2)) (dVar 2)))))
def SE1 : M RC := dLc [2] (iSeq (dVar 1)) (gN 2) (dBool (dGe (dVar 2) (dPow (dC (.int 10)) (dC (.int 18))))) (dVar 2)
def SE2 : M RC := dAdd (dVar 1) (dLst (dCons (dAdd (dCall gLen (dCons (dVar 1) dNil)) (dC (.int 40961))) dNil))
def SE3 : M RC := dCall gSum (dCons (dVar 1) dNil)
def SE4 : M RC := dC (.int 0)
theorem lenOk_of {n : Nat} (h : n ≤ 1000) : lenOk n = true := Nat.ble_eq_true_of_le (by omega)
theorem lc1_ok {ns : List Int} (h : ns.length ≤ 63) : ∃ ms : List Int, ms.length ≤ 63 ∧ ∀ ω, LC1 [some (.val (.list (ns.map .int))), none, none] ω = some (.nx, [some (.val (.list (ns.map .int))), some (.val (.list (ms.map .int))), none], ω) := by
  have l1 := cutD_len ns none (some 63)
  have l2 : lenOk (cutD ns none (some 63)).length = true := lenOk_of (by omega)
  refine ⟨(cutD ns none (some 63)).map fun i => if 0 ≤ i then 2 * i + 1 else 0 - 2 * i, by rw [List.length_map]; omega, fun ω => ?_⟩
  have key := compL_ints (j := 2) (t := tYesD) (fe := dIf (dBool (dGe (dVar 2) (dC (.int 0)))) (dAdd (dMul (dC (.int 2)) (dVar 2)) (dC (.int 1))) (dSub (dC (.int 0)) (dMul (dC (.int 2)) (dVar 2)))) (fun i => if 0 ≤ i then 2 * i + 1 else 0 - 2 * i) (fun _ => true)
    (ρ := [some (.val (.list (ns.map .int))), none, none]) (by show 2 < 3; decide) rfl (fun i ω => rfl) (fun i ω _ => by
      by_cases hi : 0 ≤ i <;>
      simp [dIf, bnd, dBool, dGe, dOp, dVar, dC, ret, now, RC.get, opt, gI0, boolOf, dAdd, dMul, dSub, gMul, gAdd, mul_sm, hi]) (cutD ns none (some 63)) [] ω
  have ff : (cutD ns none (some 63)).filter (fun _ => true) = cutD ns none (some 63) := List.filter_eq_self.mpr fun _ _ => rfl
  rw [ff, List.reverse_nil, List.nil_append] at key
  simp [LC1, sSetV, dLc, bnd, iSeq, dSl, dVar, dNoP, dP, dC, ret, now, RC.get, opt, gSl, seqOf, lockOf, cutD_ints, l2, lockM, mayLock, lockAt, getE, mayWipe, wipeM, wipeE, backM, backE, freeM, freeAt, cellOfV, putC] at key ⊢
  simp [key]
theorem se1_ok {d : PyData} {ms : List Int} (h : ms.length ≤ 63) : ∃ gs : List Int, gs.length ≤ 63 ∧ ∀ ω, SE1 [some (.val d), some (.val (.list (ms.map .int))), none] ω = some (.own (.list (gs.map .int)), [some (.val d), some (.val (.list (ms.map .int))), none], ω) := by
  have l2 : lenOk ms.length = true := lenOk_of (by omega)
  have sp : shOk 10 18 = true := by decide +kernel
  refine ⟨ms.filter fun i => decide (10 ^ 18 ≤ i), Nat.le_trans (List.length_filter_le _ _) h, fun ω => ?_⟩
  have key := compL_ints (j := 2) (t := dBool (dGe (dVar 2) (dPow (dC (.int 10)) (dC (.int 18))))) (fe := dVar 2) id (fun i => decide (10 ^ 18 ≤ i))
    (ρ := [some (.val d), some (.val (.list (ms.map .int))), none]) (by show 2 < 3; decide) rfl (fun i ω => by
      simp [bnd, dBool, dGe, dOp, dPow, dVar, dC, ret, now, RC.get, opt, gI, gI0, boolOf, sp]) (fun i ω _ => by simp [dVar]) ms [] ω
  simp [SE1, dLc, bnd, iSeq, dVar, ret, now, RC.get, opt, seqOf, lockOf, l2, lockM, mayLock, lockAt, getE, mayWipe, wipeM, wipeE, backM, backE, freeM, freeAt] at key ⊢
  simp [key]
theorem se2_ok {d : PyData} {ms : List Int} (h : ms.length ≤ 63) (ω : Om) : SE2 [some (.val d), some (.val (.list (ms.map .int))), none] ω = some (.own (.list ((ms ++ [(ms.length : Int) + 40961]).map .int)), [some (.val d), some (.val (.list (ms.map .int))), none], ω) := by
  have l2 : lenOk (ms.length + 1) = true := lenOk_of (by omega)
  have l1 : lenOk 1 = true := by decide +kernel
  simp [SE2, dAdd, dOp, dVar, bnd, dLst, dCons, dNil, ret, dCall, nows, now, RC.get, opt, gLen, dC, gAdd, escs, esc, l1, l2]
theorem intsOf_map : ∀ ns : List Int, intsOf (ns.map .int) = some ns
  | [] => rfl
  | n :: ns => by simp [intsOf, intsOf_map ns]
theorem se3_ok {d : PyData} {ms : List Int} (ω : Om) : SE3 [some (.val d), some (.val (.list (ms.map .int))), none] ω = some (.val (.int ms.sum), [some (.val d), some (.val (.list (ms.map .int))), none], ω) := by
  simp [SE3, dVar, bnd, dCons, dNil, ret, dCall, nows, now, RC.get, opt, gSum, intsOf_map]

/-! ### the def that makes it -/
theorem can_det {α : Type} {f : M α} {ρ ρ1 ρ' : Env'} {a b : α} (e : ∀ ω, f ρ ω = some (a, ρ1, ω)) (c : Can f ρ b ρ') : b = a ∧ ρ' = ρ1 := by
  obtain ⟨ω, h⟩ := c fun _ => 0
  rw [e] at h
  cases h
  exact ⟨rfl, rfl⟩
theorem tot_det {α : Type} {f : M α} {ρ ρ1 : Env'} {a : α} (e : ∀ ω, f ρ ω = some (a, ρ1, ω)) : Tot f ρ := fun ω => ⟨_, e ω⟩
def SrcPostL (H : Hp) (p : Addr) (H' : Hp) : Prop := (∀ b o, H b = some o → H' b = some o) ∧ ∃ (g f : Addr) (gs fs : List Int) (a b : Int), H p = none ∧ H g = none ∧ H f = none ∧ H' p = some (.lst [.ref g, .ref f, .int a, .int b]) ∧ H' g = some (.lst (gs.map V.int)) ∧ gs.length ≤ 100 ∧
  H' f = some (.lst (fs.map V.int)) ∧ fs ≠ [] ∧ p ≠ g ∧ p ≠ f ∧ g ≠ f
def spSrcL : Sp := fun vs H Q _ => ∃ (a : Addr) (ns : List Int), vs = [.ref a] ∧ Rd H a (.lst (ns.map V.int)) ∧ ns.length ≤ 63 ∧ ∀ p H', SrcPostL H p H' → Q (.ref p) H'
section
variable [Fam]
def ctx0 (hF : ∀ v S H, Fam.inv v S H) (H : Hp) : Ctx where
  S := fun _ => False
  srcv := .non
  Src := fun _ _ => True
  F0 := fun _ => False
  FS := fun _ => False
  H0 := H
  sub := fun _ h => h
  f0 := fun _ h => h.elim
  mono := fun _ _ _ _ h => h
  fresh := fun _ _ _ _ h => h
  keep := fun _ _ _ h _ => h
  there := fun _ _ _ _ h => h.elim
  fam := fun _ _ _ => hF _ _ _
  chg := fun _ _ _ _ _ _ => trivial
theorem own_ints {C : Ctx} {G : List Addr} {ρ : Env'} {σ : L2.St} {H H0 : Hp} {v : V} {ns : List Int} (p : Pend C G ρ σ H v (.own (.list (ns.map .int)))) (n : New H0 v (.own (.list (ns.map .int)))) : ∃ a, v = .ref a ∧ H a = some (.lst (ns.map V.int)) ∧ H0 a = none := by
  obtain ⟨a, rfl, _, _, o, e, q⟩ := p
  obtain ⟨a', e2, h⟩ := n
  cases e2
  refine ⟨a, rfl, ?_, h⟩
  cases o with
  | lst xs => have q' : RepAll _ _ xs (ns.map .int) := q; rw [q'.ints] at e; exact e
  | _ => exact q.elim
theorem lift_source (hF : ∀ v S H, Fam.inv v S H) {s1 : M Fl} {f1 f2 f3 f4 : M RC} {D : Ends} {σ : L2.St} {H : Hp} {ρ0 ρ1 : Env'} {gs fs : List Int} {x y : Int} (R : RS (ctx0 hF H) [] ρ0 σ H) (E0 : ∀ ω, s1 ρ0 ω = some (.nx, ρ1, ω)) (E1 : ∀ ω, f1 ρ1 ω = some (.own (.list (gs.map .int)), ρ1, ω))
    (E2 : ∀ ω, f2 ρ1 ω = some (.own (.list (fs.map .int)), ρ1, ω)) (E3 : ∀ ω, f3 ρ1 ω = some (.val (.int x), ρ1, ω)) (E4 : ∀ ω, f4 ρ1 ω = some (.val (.int y), ρ1, ω)) (lg : gs.length ≤ 100) (nf : fs ≠ [])
    (k : ∀ p H', SrcPostL H p H' → D.rt (.ref p) H') : tSeq (liftS s1) (tRet (tLst (tCons (liftE f1) (tCons (liftE f2) (tCons (liftE f3) (tCons (liftE f4) tNil)))))) D σ H := by
  refine ⟨_, [], ρ0, R, tot_det E0, fun fl ρ' G1 σ1 H1 cn A => ?_, fun c ρ' v H' cn rp => ?_⟩
  case refine_2 => have := (can_det E0 cn).1; cases this
  obtain ⟨rfl, rfl⟩ := can_det E0 cn
  refine ⟨_, G1, ρ', A.rs, tot_det E1, fun c ρ2 G2 v1 H2 cn1 A1 p1 n1 => ?_⟩
  obtain ⟨rfl, rfl⟩ := can_det E1 cn1
  refine ⟨_, G2, ρ2, A1.rs, tot_det E2, fun c ρ3 G3 v2 H3 cn2 A2 p2 n2 => ?_⟩
  obtain ⟨rfl, rfl⟩ := can_det E2 cn2
  refine ⟨_, G3, ρ3, A2.rs, tot_det E3, fun c ρ4 G4 v3 H4 cn3 A3 p3 n3 => ?_⟩
  obtain ⟨rfl, rfl⟩ := can_det E3 cn3
  refine ⟨_, G4, ρ4, A3.rs, tot_det E4, fun c ρ5 G5 v4 H5 cn4 A4 p4 n4 => ?_⟩
  obtain ⟨rfl, rfl⟩ := can_det E4 cn4
  refine ⟨by show 4 ≤ sizeLine; decide, fun p hp => ?_⟩
  have e3 : v3 = .int x := by cases p3; rfl
  have e4 : v4 = .int y := by cases p4; rfl
  subst e3; subst e4
  obtain ⟨g, rfl, hg2, hg⟩ := own_ints p1 n1
  obtain ⟨f, rfl, hf3, hf⟩ := own_ints p2 n2
  have A24 := (A2.trans A3).trans A4
  obtain ⟨_, eg, hg5, _⟩ := own_ints (A24.pend A1.rs p1) n1
  cases eg
  obtain ⟨_, ef, hf5, _⟩ := own_ints ((A3.trans A4).pend A2.rs p2) n2
  cases ef
  have fr : ∀ b o, H b = some o → H5 b = some o := fun b o e => A4.rs.frame b o e fun z => z
  have fr1 : ∀ b o, H b = some o → H1 b = some o := fun b o e => A.rs.frame b o e fun z => z
  have fr2 : ∀ b o, H b = some o → H2 b = some o := fun b o e => A1.rs.frame b o e fun z => z
  have nn : ∀ {H1 : Hp} {b : Addr}, (∀ b o, H b = some o → H1 b = some o) → H1 b = none → H b = none := fun {H1 b} fr h => by
    cases e : H b with
    | none => rfl
    | some o => rw [fr b o e] at h; cases h
  have pg : p ≠ g := fun e => by rw [e, hg5] at hp; cases hp
  have pf : p ≠ f := fun e => by rw [e, hf5] at hp; cases hp
  have gf : g ≠ f := fun e => by rw [← e, hg2] at hf; cases hf
  refine k p _ ⟨fun b o e => upd_keep hp _ _ (fr b o e), g, f, gs, fs, x, y, nn fr hp, nn fr1 hg, nn fr2 hf, upd_same, ?_, lg, ?_, nf, pg, pf, gf⟩
  · rw [upd_ne (Ne.symm pg)]; exact hg5
  · rw [upd_ne (Ne.symm pf)]; exact hf5
theorem lift_sourceL (hF : ∀ v S H, Fam.inv v S H) {D : Ends} {H : Hp} {a : Addr} {ns : List Int} {N : List Str} (hN : N.length = 3) (r : Rd H a (.lst (ns.map V.int))) (l : ns.length ≤ 63) (k : ∀ p H', SrcPostL H p H' → D.rt (.ref p) H') :
    tSeq (liftS LC1) (tRet (tLst (tCons (liftE SE1) (tCons (liftE SE2) (tCons (liftE SE3) (tCons (liftE SE4) tNil)))))) D (start N [.ref a]) H := by
  obtain ⟨ms, lm, E0⟩ := lc1_ok l
  obtain ⟨gs, lg, E1⟩ := se1_ok (d := .list (ns.map .int)) lm
  have R := rs_start (C := ctx0 hF H) (N := N) (vs := [.ref a]) (cs := [.val (.list (ns.map .int))]) (.val (.lst (fun z => z) r (RepAll.ofInts ns)) .nil) trivial
  rw [hN] at R
  exact lift_source hF R E0 E1 (fun ω => se2_ok lm ω) (fun ω => se3_ok ω) (fun ω => rfl) (Nat.le_trans lg (by decide)) (by simp) k
end
end DL
set_option Elab.async false
set_option linter.all false
set_option maxRecDepth 100000
set_option maxHeartbeats 1000000
/-! The law's head: its script, its promise. -/
namespace DL
open PySem PySem.Spec L2
open PyProof.Rows hiding St
/-- no list stands in the written part -/
def noList (K : PySem.W.Frag) : Bool := K.all fun p => match p.2.cls with
  | .type t => !(t == "list")
  | _ => true
theorem noList_at {K : PySem.W.Frag} (h : noList K = true) {a : Addr} {o : Obj} (e : K.lookup a = some o) : o.cls ≠ .type "list" := fun z => by
  unfold noList at h
  rw [List.all_eq_true] at h
  obtain ⟨l1, l2, rfl, _⟩ := List.lookup_eq_some_iff.mp e
  have q := h (a, o) (by simp)
  rw [z] at q
  simp at q
section
variable {P : Program} {w : World} {K : PySem.W.Frag} {mg : Str → Option Value} {base : Heap}
/-- a call by a promise -/
def tG (sp : Sp) (t : TA) : TE := fun σ H Q => t σ H fun vs H1 => sp vs H1 Q E0
theorem pe_callG {X : Cx} {k : Nat} {f : Addr} {fd : FuncData} {x : Str} {st : Stmt} {ps : List Str} {sp : Sp} {e : Expr} {es : List Expr} {t : TA} {p pos : Pos} (hF : Fun X.K x x st f fd) (G : FnG X.prog X.w X.K X.mg X.base CX0 k f fd ps sp) (hm : X.mg x = some (.ref f)) (hb : Binds X.K fd ps []) (hr : Rm k X.A) (hg : Gl X x) (ha : PA X (e :: es) t) (hdb : (x == ("__debug__" : Str)) = false := by decide)
    (he : starEach (e :: es) X.env = (false, eval e X.env) :: starEach es X.env := by rfl) (hpl : (backTo pos (starEach es X.env)).any (·.1) = false := by rfl) : PE X (.Call (.Name x p) (e :: es) [] pos) (tG sp t) := by
  refine ⟨fun pins s σ H Q I h => wpAny_Call_Name_kw (ld_glob I hg hm ?_ hdb)⟩
  refine PySem.W.callWith_K (h₀ := X.base) I.ok.mod.kin hF.kp (thn (ha.run pos pins s σ H _ I h) fun us s1 ⟨vs, H1, I1, r, q⟩ => ⟨I1.kIn, ?_⟩) he hpl
  have hl : us.length = ps.length := r.length ▸ G.len _ _ _ _ q
  have b := hb s1 us I1.kIn (by simpa using hl)
  rw [List.append_nil] at b
  exact run_fng (args := ⟨us, []⟩) G hr I1 b r q
/-- what a law promises of a script -/
def spLawG (n : Nat) : Sp := fun vs H Q _ => ∃ (a : Addr) (ns : List Int), vs = [.ref a] ∧ Rd H a (.lst (ns.map V.int)) ∧ ns.length ≤ n ∧ ∀ H', Q (.bl true) H'
theorem law_callG {mb : Str → Option Value} {k n : Nat} {fa a : Addr} {fd : FuncData} {x : Str} {s₁ : Shared} {vs : List Value} {ns : List Int}
    (KX : K.In s₁.heap) (hK : noList K = true) (hns : s₁.heap.Ns mainGlobals mg) (hb : s₁.heap.Ns builtinsNs mb) (hbb : ∀ x : Str, x ≠ "__name__" → mb x = bootBuiltins x) (hlim : s₁.heap.NoLimit) (hg : s₁.gens = #[])
    (ha : s₁.heap.get? a = some { cls := .type "list", data := .seq vs.toArray }) (hi : IntsAre vs ns) (hn : ns.length ≤ n) (hl : n ≤ sizeLine) (hr : Rm k callerA)
    (F : ∀ base : Heap, K.In base → base.Ns mainGlobals mg → FnG P w K mg base CX0 k fa fd [x] (spLawG n)) (hbind : ∀ (s : Shared) (u : Value), BindsTo s fd ⟨[u], []⟩ [(x, u)]) :
    codeAny (model P w) callerA (.call (.ref fa) ⟨[.ref a], []⟩) (fun r s' => r = .ok (.ret (.bool true)) ∧ OldK s₁.heap s'.heap ∧ s'.os = s₁.os ∧ AllBare s'.gens) s₁ := by
  have rv := vals_ints hi
  have na : K.lookup a = none := by
    cases e : K.lookup a with
    | none => rfl
    | some o =>
      have e2 := KX a o e
      rw [ha] at e2
      cases e2
      exact absurd rfl (noList_at hK e)
  let o : Obj := { cls := .type "list", data := .seq vs.toArray }
  let H : Hp := fun b => if b = a then some (.frz o (.lst (ns.map V.int))) else none
  have hA : ∀ b, b ≠ a → H b = none := fun b n => if_neg n
  have hAa : H a = some (.frz o (.lst (ns.map V.int))) := if_pos rfl
  have hok : HOk P w H s₁.heap := fun b u z => by
    by_cases e : b = a
    · subst e
      rw [hAa] at z
      cases z
      exact ⟨ha, by rw [List.length_map]; exact Nat.le_trans hn hl, vs, _, rv, ha⟩
    · rw [hA b e] at z; cases z
  clear_value H
  have offA : ∀ {b : Addr} {u : Obj}, s₁.heap.get? b = some u → b ≠ a → (hidT s₁.heap H).get? b = some u := fun e n => hidT_get e (hA _ n)
  have nsK : ∀ {b : Addr} {m : Str → Option Value}, s₁.heap.Ns b m → (hidT s₁.heap H).Ns b m := fun {b m} ⟨u, es, ep, e, d, r⟩ => ⟨u, es, ep, offA e (fun z => by
    subst z
    rw [ha] at e; cases e
    have d' : Data.seq vs.toArray _ = Data.dict es ep := d
    cases d'), d, r⟩
  have hKb : K.In (hidT s₁.heap H) := fun b u e => offA (KX b u e) fun z => by rw [z, na] at e; cases e
  have hM : Mod K mg (hidT s₁.heap H) := ⟨hKb, nsK hns, ⟨mb, nsK hb, hbb⟩, let ⟨mc, h1, h2⟩ := hlim; ⟨mc, nsK h1, h2⟩⟩
  have e0 : Env0 P w K mg (hidT s₁.heap H) callerA [] s₁ H := ⟨rfl, hM, fun b u e => of_hidT e, Nat.le_of_eq (hidT_size _ _), trivial, fun b hb => absurd (show b ∈ ([] : List Addr) from hb) (by simp), hok, .of_eq hg⟩
  refine codeAny_mono ((F _ hKb (nsK hns)).run callerA [] s₁ H ⟨[.ref a], []⟩ [.ref a] [.ref a] (fun v _ => v = .bl true) (fun _ _ _ => False) hr e0 (hbind s₁ (.ref a)) (.cons rfl .nil) ⟨a, ns, rfl, .inr ⟨_, hAa⟩, hn, fun _ => rfl⟩) fun r s' h => ?_
  cases r with
  | error e => exact False.elim h
  | ok fl =>
    cases fl with
    | next => exact False.elim h
    | brk => exact False.elim h
    | cont => exact False.elim h
    | ret u =>
      obtain ⟨v, H', os, bare, un, hok', r', q⟩ := h
      have q' : v = .bl true := q
      subst q'
      obtain rfl : u = Value.bool true := r'
      refine ⟨rfl, OldK.of_keep fun b u e => ?_, os, bare⟩
      by_cases hb : b = a
      · subst hb
        obtain ⟨e2, _⟩ := hok' b _ (un.frzs b o _ hAa)
        rw [ha] at e; cases e
        exact e2
      · exact un.keep b u e (hA b hb) (by intro z; exact absurd (show b ∈ ([] : List Addr) from z) (by simp)) (by simp)
end
theorem walk_ofG {l : PySem.W.OpenLaw} {n k : Nat} {q : Program} {loose : List Str} {XP : (Str → Option Value) → Heap → Prop} {YP : World → Heap → Prop} {d : DefRec} {K : Params → PySem.W.Frag} {x : Str}
    (hn : l.most = some n) (hn2 : n ≤ sizeLine) (hdf : d.params.defaults = []) (hr : Rm k callerA)
    (hY : ∀ (w : World) (h : Heap), YP w h → (K w.params).In h) (hK : ∀ w : World, noList (K w.params) = true)
    (F : ∀ (w : World) (mg : Str → Option Value) (fa : Addr) (h : Heap), (K w.params).In h → h.Ns mainGlobals mg → mg d.name = some (.ref fa) →
      ∃ fd : FuncData, (∀ (s : Shared) (u : Value), BindsTo s fd ⟨[u], []⟩ [(x, u)]) ∧
        ∀ base : Heap, (K w.params).In base → base.Ns mainGlobals mg → FnG l.prog w (K w.params) mg base CX0 k fa fd [x] (spLawG n)) :
    PySem.W.WalkO q loose XP YP l.row.toRowW d [] (fun f vs => PySem.call f vs) := by
  refine Att.attach_call hn hdf fun w s₀ s₁ mg mb fa o pm cd doc a vs ns G Y ho hd hcd hmg hobj hints hlen hg => ?_
  have KX := hY w _ Y
  obtain ⟨fd, hb, hF⟩ := F w mg fa _ KX G.T.g hmg
  exact law_callG KX (hK w) G.T.g G.T.b G.T.builtins G.T.nolimit hg hobj hints hlen hn2 hr hF hb
/-! ### the law's body behind its source -/
def ctxL (p g f : Addr) (H : Hp) (hi : ∃ gs fs a b, InvL (.ref p) (fun x => x = p ∨ x = g ∨ x = f) H p g f gs fs a b) : Ctx where
  S := fun x => x = p ∨ x = g ∨ x = f
  srcv := .ref p
  Src := fun _ H => famInvL (.ref p) (fun x => x = p ∨ x = g ∨ x = f) H
  F0 := fun x => x = p ∨ x = g ∨ x = f
  FS := fun x => x = p ∨ x = g ∨ x = f
  H0 := H
  sub := fun _ h => h
  f0 := fun _ h => .inl h
  mono := fun _ _ _ _ h => h
  fresh := fun F H a n h => h
  keep := fun F H H' h k => by
    obtain ⟨p', g', f', gs, fs, a, b, I⟩ := h
    have hp : p' = p ∨ p' = g ∨ p' = f := (I.hS p').mpr (.inl rfl)
    have hg : g' = p ∨ g' = g ∨ g' = f := (I.hS g').mpr (.inr (.inl rfl))
    have hf : f' = p ∨ f' = g ∨ f' = f := (I.hS f').mpr (.inr (.inr rfl))
    exact ⟨p', g', f', gs, fs, a, b, I.hv, I.hS, k _ _ I.hp (.inl hp), k _ _ I.hg (.inl hg), I.lg, k _ _ I.hf (.inl hf), I.nf, I.pg, I.pf, I.gf⟩
  there := fun F H b h hs => by
    obtain ⟨p', g', f', gs, fs, a, b', I⟩ := h
    rcases (I.hS b).mp hs with rfl | rfl | rfl
    · rw [I.hp]; simp
    · rw [I.hg]; simp
    · rw [I.hf]; simp
  fam := fun _ _ h => h
  chg := fun _ _ _ _ _ h => h
theorem lift_lawL {b : M Fl} {D : Ends} {H : Hp} {a : Addr} {ns : List Int} {N : List Str} {m : Nat} (hN : N.length = m + 2) (B : ∀ ω, ∃ ρ' ω', b (none :: some .src :: List.replicate m none) ω = some (.rt (.val (.bool true)), ρ', ω'))
    (r : Rd H a (.lst (ns.map V.int))) (l : ns.length ≤ 63) (k : ∀ H', D.rt (.bl true) H') : tSeq (tAsg (tG spSrcL (tCons (tVar 0) tNil)) (gName 1)) (liftS b) D (start N [.ref a]) H := by
  have ls : (start N [V.ref a]).length = m + 2 := by simp [L2.start, hN]
  refine ⟨.ref a, start_get rfl, a, ns, rfl, r, l, fun p H' post => ?_⟩
  obtain ⟨keep, g, f, gs, fs, x, y, n1, n2, n3, hp, hg, lg, hf, nf, pg, pf, gf⟩ := post
  have I : InvL (.ref p) (fun x => x = p ∨ x = g ∨ x = f) H' p g f gs fs x y := ⟨rfl, fun _ => Iff.rfl, hp, hg, lg, hf, nf, pg, pf, gf⟩
  have sl : ∀ (i : Nat) (c : Cell), (none :: some .src :: List.replicate m none : Env')[i]? = some (some c) → i = 1 ∧ c = .src := fun i c e => by
    match i, e with
    | 0, e => simp at e
    | 1, e => simp at e; exact ⟨rfl, e.symm⟩
    | i + 2, e =>
      simp only [List.getElem?_cons_succ, List.getElem?_replicate] at e
      split at e <;> cases e
  have R : RS (ctxL p g f H' ⟨gs, fs, x, y, I⟩) [] (none :: some .src :: List.replicate m none) ((start N [.ref a]).set 1 (some (.ref p))) H' := by
    refine ⟨by simp [ls], fun b o e _ => e, fun a h => (by cases h), ⟨p, g, f, gs, fs, x, y, I⟩, fun i c e => ?_, fun i j v n hi hj => ?_⟩
    · obtain ⟨rfl, rfl⟩ := sl i c e
      exact ⟨.ref p, by rw [List.getElem?_set_self (by omega)], rfl⟩
    · obtain ⟨c, e, z⟩ := hi
      obtain ⟨_, rfl⟩ := sl i c e
      cases z
  refine ⟨_, [], _, R, fun ω => ?_, fun fl ρ' G' σ' H2 cn A => ?_, fun c ρ' v H2 cn rp => ?_⟩
  · obtain ⟨ρ', ω', e⟩ := B ω
    exact ⟨_, e⟩
  · obtain ⟨ω, e⟩ := cn fun _ => 0
    obtain ⟨ρ2, ω2, e2⟩ := B ω
    rw [e2] at e
    cases e
    exact trivial
  · obtain ⟨ω, e⟩ := cn fun _ => 0
    obtain ⟨ρ2, ω2, e2⟩ := B ω
    rw [e2] at e
    cases e
    have h := rp.ok.1
    cases h
    exact k H2
end DL
set_option Elab.async false
set_option linter.all false
set_option maxRecDepth 100000
set_option maxHeartbeats 1000000
/-! Plain lemmas: loops by invariants, items, ranges. -/
namespace DL
open PySem PySem.Spec L2
open PyProof.Rows hiding St

theorem forL_inv {g : PyData → M Unit} {f : M Fl} (P : Nat → Env' → Om → Prop) : ∀ (items : List PyData) (k : Nat) (ρ : Env') (ω : Om), P k ρ ω →
    (∀ i d ρ ω, items[i]? = some d → P (k + i) ρ ω → ∃ ρ1 ω1, (bnd (g d) fun _ => f) ρ ω = some (.nx, ρ1, ω1) ∧ P (k + i + 1) ρ1 ω1) → ∃ ρ' ω', forL g f items ρ ω = some (.nx, ρ', ω') ∧ P (k + items.length) ρ' ω'
  | [], k, ρ, ω, h, _ => ⟨ρ, ω, rfl, h⟩
  | d :: ds, k, ρ, ω, h, st => by
    obtain ⟨ρ1, ω1, e, h1⟩ := st 0 d ρ ω rfl h
    obtain ⟨ρ2, ω2, e2, h2⟩ := forL_inv P ds (k + 1) ρ1 ω1 h1 fun i d' ρ ω hi hp => by
      have q := st (i + 1) d' ρ ω (by simpa using hi) (by rw [show k + (i + 1) = k + 1 + i by omega]; exact hp)
      rw [show k + (i + 1) + 1 = k + 1 + i + 1 by omega] at q
      exact q
    refine ⟨ρ2, ω2, ?_, by rw [List.length_cons, show k + (ds.length + 1) = k + 1 + ds.length by omega]; exact h2⟩
    rw [forL]
    unfold bnd at e ⊢
    cases q : g d ρ ω with
    | none => rw [q] at e; cases e
    | some x =>
      rw [q] at e
      simp only at e ⊢
      rw [e]
      exact e2
/-- a for loop over what is not a name's own -/
theorem sFor_inv {fi : M Its} {g : PyData → M Unit} {f : M Fl} {items : List PyData} (P : Nat → Env' → Om → Prop) {ρ : Env'} {ω : Om} (hi : fi ρ ω = some (⟨none, items⟩, ρ, ω)) (h0 : P 0 ρ ω)
    (st : ∀ i d ρ ω, items[i]? = some d → P i ρ ω → ∃ ρ1 ω1, (bnd (g d) fun _ => f) ρ ω = some (.nx, ρ1, ω1) ∧ P (i + 1) ρ1 ω1) : ∃ ρ' ω', sFor fi g f ρ ω = some (.nx, ρ', ω') ∧ P items.length ρ' ω' := by
  obtain ⟨ρ', ω', e, h⟩ := forL_inv P items 0 ρ ω h0 fun i d ρ ω hi hp => by
    have q := st i d ρ ω hi (by rwa [Nat.zero_add] at hp)
    rwa [← Nat.zero_add i] at q
  refine ⟨ρ', ω', ?_, by rwa [Nat.zero_add] at h⟩
  simp [sFor, bnd, hi, lockM, mayLock, lockAt, e, freeM, freeAt, ret]
theorem rng_at {lo : Int} {n i : Nat} {d : PyData} (h : (rngD lo 1 n)[i]? = some d) : i < n ∧ d = .int (lo + i) := by
  simp only [rngD, List.getElem?_map] at h
  by_cases hi : i < n
  · rw [List.getElem?_range hi] at h
    simp at h
    exact ⟨hi, h.symm⟩
  · rw [List.getElem?_eq_none (by simp; omega)] at h
    cases h
theorem rng_len (lo c : Int) (n : Nat) : (rngD lo c n).length = n := by simp [rngD]
theorem atI_ints {L : List Int} {k : Nat} {v : Int} (h : L[k]? = some v) : atI (L.map PyData.int) (k : Int) = some (.int v) := atI_nat (by rw [List.getElem?_map, h]; rfl)
theorem mulOk_of {i j : Int} (h : i.natAbs.log2 + j.natAbs.log2 < 1000000) : mulOk i j = true := by unfold mulOk; rw [decide_eq_true h]; simp
section
variable {f g : M Fl} {ρ ρ' : Env'} {ω ω' : Om} {c : Cell}
theorem sSeq_nx (h : f ρ ω = some (.nx, ρ', ω')) : sSeq f g ρ ω = g ρ' ω' := by simp [sSeq, bnd, h]
theorem sSeq_rt (h : f ρ ω = some (.rt c, ρ', ω')) : sSeq f g ρ ω = some (.rt c, ρ', ω') := by simp [sSeq, bnd, h, ret]
theorem fnB_rt {m n : Nat} {body : M Fl} {cs : List Cell} (hl : cs.length = m) (h : body (padE n cs) ω = some (.rt c, ρ', ω')) : fnB m n body cs ω = some (c, ω') := by
  subst hl
  simp [fnB, runB, h]
theorem rng_atC {lo st : Int} {n i : Nat} {d : PyData} (h : (rngD lo st n)[i]? = some d) : i < n ∧ d = .int (lo + (i : Int) * st) := by
  simp only [rngD, List.getElem?_map] at h
  by_cases hi : i < n
  · rw [List.getElem?_range hi] at h
    simp at h
    exact ⟨hi, h.symm⟩
  · rw [List.getElem?_eq_none (by simp; omega)] at h
    cases h
theorem mulOk_r {i j : Int} (h : j.natAbs < 2 ^ 64) : mulOk i j = true := by unfold mulOk; rw [decide_eq_true h]; simp
theorem mulOk_l {i j : Int} (h : i.natAbs < 2 ^ 64) : mulOk i j = true := by unfold mulOk; rw [decide_eq_true h]; simp
theorem divOk_s {i j : Int} (h : 0 < j) (h2 : j < 1000000) : divOk i j = true := by
  unfold divOk
  rw [decide_eq_true h, Bool.true_and]
  have h3 : j.natAbs ≠ 0 := by omega
  have h4 : j.natAbs.log2 < 20 := (Nat.log2_lt h3).mpr (by omega)
  exact decide_eq_true (by omega)
theorem smallI_of {i : Int} (h : -1000000 ≤ i) (h2 : i ≤ 1000000) : smallI i = true := by
  exact Nat.ble_eq_true_of_le (by omega)
end
theorem eqOk_int (i j : Int) : eqOk (.int i) (.int j) = true := by simp [eqOk, SeqAt.shaped, PyData.canLay0, PyData.depth]
theorem rng2_at {a b : Nat} (h : a ≤ 100000) (h2 : b ≤ 100000) : gRng2 [.int (a : Int), .int (b : Int)] = some (rngD a 1 (b - a)) := by
  simp only [gRng2, smallI_of (i := (a : Int)) (by omega) (by omega), smallI_of (i := (b : Int)) (by omega) (by omega), Bool.and_self, if_true]
  rw [show ((b : Int) - (a : Int)).toNat = b - a by omega]
theorem bnd_gN {i : Nat} {d : PyData} {f : M Fl} {ρ : Env'} {ω : Om} (h : Nat.ble (i + 1) ρ.length = true) : (bnd (gN i d) fun _ => f) ρ ω = f (ρ.set i (some (.val d))) ω := by simp [bnd, gN, putC, h]
theorem rng2_i {a b : Int} {k : Nat} (h1 : -1000000 ≤ a) (h2 : a ≤ 1000000) (h3 : -1000000 ≤ b) (h4 : b ≤ 1000000) (hk : (b - a).toNat = k) : gRng2 [.int a, .int b] = some (rngD a 1 k) := by
  subst hk
  simp only [gRng2, smallI_of h1 h2, smallI_of h3 h4, Bool.and_self, if_true]
theorem rng1_i {b : Int} {k : Nat} (h3 : -1000000 ≤ b) (h4 : b ≤ 1000000) (hk : b.toNat = k) : gRng1 [.int b] = some (rngD 0 1 k) := by
  subst hk
  simp only [gRng1, smallI_of h3 h4, if_true]
end DL
set_option Elab.async false
set_option linter.all false
set_option maxRecDepth 100000
set_option maxHeartbeats 1000000
namespace DL
open PySem PySem.Spec L2
open PyProof.Rows hiding St
abbrev n_law_draw : List Str := ["_law_source_here", "_law_many", "_law_cell", "_law_turn", "_law_mixed_here"]
theorem sc_law_draw : FnScope ["_law_source_here", "_law_many", "_law_cell", "_law_turn", "_law_mixed_here"] ["_law_source_here", "_law_many"] (defScope s_law_draw) := ⟨rfl, rfl, rfl, by decide +kernel, rfl, by decide +kernel, by decide +kernel⟩
def b_law_draw  : M Fl :=
  (sSeq sHead
  (sSeq (sTurn (dAdd dAny (dC (.int 1))))
  (sSeq (sSetV 3 dAny)
  (sSeq (sSetV 2 (dItem 3))
  (sSeq (sSetV 4 (dAdd (dAdd (dMul (dVar 2) (dC (.int 6364136223846793005))) (dMul dAny (dC (.int 1442695040888963407)))) (dMul (dVar 3) (dC (.int 2862933555777941757)))))
  (sSeq (sSetV 4 (dMod (dCall gInt (dCons (dVar 4) dNil)) (dC (.int 18446744073709551557))))
  (sSeq (sSetV 4 (dMod (dCall gInt (dCons (dAdd (dAdd (dMul (dVar 4) (dVar 4)) (dMul (dVar 3) (dC (.int 3202034522624059733)))) (dC (.int 40961))) dNil)) (dC (.int 18446744073709551533))))
  (sRet (dMod (dDiv (dMod (dCall gInt (dCons (dAdd (dMul (dVar 4) (dVar 4)) (dVar 4)) dNil)) (dC (.int 18446744073709551521))) (dC (.int 4096))) (dVar 1))))))))))
theorem cal_law_draw {P : Program} {w : World} {K : PySem.W.Frag} {mg : Str → Option Value} {base : Heap} {f : Addr} {fd : FuncData} (F : Fun K "_law_draw" "_law_draw" s_law_draw f fd) (hm : mg "_law_draw" = some (.ref f)) (m_int : mg "int" = none) (m_len : mg "len" = none) :
    Cal P w K mg base 1 "_law_draw" s_law_draw ["_law_source_here", "_law_many"] (fnB 2 5 (b_law_draw )) :=
  cal_mk F sc_law_draw hm (F.binds fun _ _ _ _ _ _ us hl => match us, hl with | [_, _], _ => rfl) fun cdv A outer s H hr =>
  (dss_cons (ps_mono (ps_if (pt_cmpR (op_neD hr.room.units) (pe_ix ix_seq (pv 0) pe_int (fun _ _ => rfl)) (pe_lst pa_nil) (nomark _)) (pss_cons (ps_set (i := 2) sc_law_draw.nd rfl (.inl rfl) (pe_bm PySem.F.plainAttrs_list PySem.F.slot_list_pop PySem.F.type_list_pop mt_popAt (pe_ix ix_seq (pv 0) pe_int (fun _ _ => rfl)) (pa_cons pe_int pa_nil))) (pss_cons (ps_if (pt_cmpR op_ge (pv 2) (pv 1) (nomark _)) (pss_one (ps_expr (pe_bm PySem.F.plainAttrs_list PySem.F.slot_list_insert PySem.F.type_list_insert mt_insert (pe_ix ix_seq (pv 0) pe_int (fun _ _ => rfl)) (pa_cons pe_int (pa_cons (pe_op op_fdivW (pv 2) (pv 1)) pa_nil))))) pss_nil) (pss_one (ps_ret (pe_op op_mod (pe_callTy call_int1 rfl m_int bt_int (pa_cons (pv 2) pa_nil)) (pv 1)))))) pss_nil) fun _ _ _ h => lift_headL h)
  (dss_cons (ps_mono (ps_asg (de_add (pe_mono (pe_ix ix_seq (pv 0) pe_int (fun _ _ => rfl)) fun _ _ _ h => lift_srcI 3 (by decide) h) de_int) (pg_sub (pv 0) pe_int set_list (by intro _; rfl))) fun _ _ _ h => lift_turn h)
  (dss_cons (ds_setV 3 sc_law_draw.nd (pe_mono (pe_ix ix_seq (pv 0) pe_int (fun _ _ => rfl)) fun _ _ _ h => lift_srcI 3 (by decide) h))
  (dss_cons (ds_setV 2 sc_law_draw.nd (pe_mono (pe_ix ix_seq (pe_ix ix_seq (pv 0) pe_int (fun _ _ => rfl)) (pe_op op_mod (pe_callTy call_int1 rfl m_int bt_int (pa_cons (pv 3) pa_nil)) (pe_callB call_len_seq rfl m_len bt_len (pa_cons (pe_ix ix_seq (pv 0) pe_int (fun _ _ => rfl)) pa_nil))) (fun _ _ => rfl)) fun _ _ _ h => lift_item h))
  (dss_cons (ds_setV 4 sc_law_draw.nd (de_add (de_add (de_mul (de_var 2) de_int) (de_mul (pe_mono (pe_ix ix_seq (pv 0) pe_int (fun _ _ => rfl)) fun _ _ _ h => lift_srcI 2 (by decide) h) de_int)) (de_mul (de_var 3) de_int)))
  (dss_cons (ds_setV 4 sc_law_draw.nd (de_mod (de_toInt m_int (da_cons (de_var 4) da_nil)) de_int))
  (dss_cons (ds_setV 4 sc_law_draw.nd (de_mod (de_toInt m_int (da_cons (de_add (de_add (de_mul (de_var 4) (de_var 4)) (de_mul (de_var 3) de_int)) de_int) da_nil)) de_int))
  (dss_one (ds_ret (de_mod (de_div (de_mod (de_toInt m_int (da_cons (de_add (de_mul (de_var 4) (de_var 4)) (de_var 4)) da_nil)) de_int) de_int) (de_var 1)))))))))))
-- level 1 uses ['int', 'len'] calls []
theorem drw {P : Program} {w : World} {K : PySem.W.Frag} {mg : Str → Option Value} {base : Heap} {f : Addr} {fd : FuncData} (F : Fun K "_law_draw" "_law_draw" s_law_draw f fd) (hm : mg "_law_draw" = some (.ref f)) (m_int : mg "int" = none) (m_len : mg "len" = none) :
    Cal P w K mg base 1 "_law_draw" s_law_draw ["_law_source_here", "_law_many"] fDraw := (cal_law_draw F hm m_int m_len).impC (draw_imp fun h ω => draw_outL h ω) draw_arF
end DL
set_option Elab.async false
set_option linter.all false
set_option maxRecDepth 100000
set_option maxHeartbeats 1000000
namespace DL
open PySem PySem.Spec L2
open PyProof.Rows hiding St
/-! ### the product of the odd numbers -/
def fk : Nat → Int
  | 0 => 1
  | 1 => 1
  | n + 2 => fk (n + 1) * (2 * (n : Int) + 1)
def odR (n : Nat) : Bool := decide (1 ≤ n) && (!decide ((2 : Int) ≠ 0) || !(decide ((2 : Int).natAbs < 1073741824) && Builtin.Range.small 3 (2 * (n : Int) - 2) 2 && decide (Builtin.Range.rangeSize 3 (2 * (n : Int) - 2) 2 = ((Builtin.Range.rangeSize 3 (2 * (n : Int) - 2) 2).toNat : Int)) && decide ((Builtin.Range.rangeSize 3 (2 * (n : Int) - 2) 2).toNat = n - 2)))
theorem odR_all : ∀ n < 201, odR n = false := by decide +kernel
theorem odR_at {n : Nat} (h1 : 1 ≤ n) (h2 : n ≤ 200) : gRng3 [.int 3, .int (2 * (n : Int) - 2), .int 2] = some (rngD 3 2 (n - 2)) := by
  have h := odR_all n (by omega)
  simp only [odR, decide_eq_true h1, Bool.true_and, Bool.or_eq_false_iff, Bool.not_eq_false', Bool.and_eq_true] at h
  obtain ⟨e0, ⟨⟨e1, e2⟩, e3⟩, e4⟩ := h
  have e4' := of_decide_eq_true e4
  rw [e4'] at e3
  simp only [gRng3, e0, e1, e2, e4', e3, Bool.and_self, if_true]
theorem den_forked {n : Nat} (h1 : 1 ≤ n) (h2 : n ≤ 200) (ω : Om) : fnB 1 3 b_forked_count [.val (.int n)] ω = some (.val (.int (fk n)), ω) := by
  have m2 : ∀ i : Int, mulOk 2 i = true := fun i => mulOk_l (by decide)
  obtain ⟨ρ', ω', e, ⟨c, rfl, rfl⟩⟩ := sFor_inv (fi := iRng gRng3 (dCons (dC (.int 3)) (dCons (dSub (dMul (dC (.int 2)) (dVar 0)) (dC (.int 2))) (dCons (dC (.int 2)) dNil)))) (g := gN 2) (f := sSetV 1 (dMul (dVar 1) (dVar 2))) (items := rngD 3 2 (n - 2))
    (fun i ρ ω1 => ∃ c, ρ = [some (.val (.int n)), some (.val (.int (fk (i + 2)))), c] ∧ ω1 = ω) (ρ := [some (.val (.int n)), some (.val (.int 1)), none]) (ω := ω)
    (by simp [iRng, bnd, dCons, dC, ret, dSub, dMul, dOp, dVar, now, RC.get, opt, gMul, gI0, m2, dNil, nows, odR_at h1 h2]) ⟨none, rfl, rfl⟩ (by
      rintro i d ρ ω1 hd ⟨c, rfl, rfl⟩
      have hi := rng_atC hd
      obtain ⟨hi, rfl⟩ := hi
      have mm : mulOk (fk (i + 2)) (3 + (i : Int) * 2) = true := mulOk_r (by omega)
      have : fk (i + 1 + 2) = fk (i + 2) * (3 + (i : Int) * 2) := by
        show fk (i + 2) * (2 * ((i + 1 : Nat) : Int) + 1) = _
        congr 1; omega
      exact ⟨[some (.val (.int n)), some (.val (.int (fk (i + 2) * (3 + (i : Int) * 2)))), some (.val (.int (3 + (i : Int) * 2)))], ω1, by simp [sSeq, bnd, ret, opt, now, RC.get, dVar, dC, dAdd, dSub, dMul, dMod, dDiv, dOp, gAdd, gMul, gI, gI0, sSet, sSetV, sAsg, sDrop, gN, gT, gsCons, gsNil, putC, cellOf, cellOfV, dCall, nows, gInt, gSum, gLen, dCons, dNil, dLst, dTup, escs, esc, sRet, nowCell, retCell, iRng, gRng1, gRng2, dIx, gIx, dMeth, ownAt, putOwn, isLst, gAppend, sIf, dBool, boolOf, sNx, mm], _, by rw [this], rfl⟩)
  have hf : fk (n - 2 + 2) = fk n := by
    by_cases h : n = 1
    · subst h; rfl
    · rw [show n - 2 + 2 = n by omega]
  rw [rng_len, hf] at e
  refine fnB_rt rfl (ρ' := [some (.val (.int n)), some (.val (.int (fk n))), c]) ?_
  unfold b_forked_count
  refine (sSeq_nx (ρ' := [some (.val (.int n)), some (.val (.int 1)), none]) (by simp [sSeq, bnd, ret, opt, now, RC.get, dVar, dC, dAdd, dSub, dMul, dMod, dDiv, dOp, gAdd, gMul, gI, gI0, sSet, sSetV, sAsg, sDrop, gN, gT, gsCons, gsNil, putC, cellOf, cellOfV, dCall, nows, gInt, gSum, gLen, dCons, dNil, dLst, dTup, escs, esc, sRet, nowCell, retCell, iRng, gRng1, gRng2, dIx, gIx, dMeth, ownAt, putOwn, isLst, gAppend, sIf, dBool, boolOf, sNx, padE])).trans ((sSeq_nx e).trans ?_)
  simp [sSeq, bnd, ret, opt, now, RC.get, dVar, dC, dAdd, dSub, dMul, dMod, dDiv, dOp, gAdd, gMul, gI, gI0, sSet, sSetV, sAsg, sDrop, gN, gT, gsCons, gsNil, putC, cellOf, cellOfV, dCall, nows, gInt, gSum, gLen, dCons, dNil, dLst, dTup, escs, esc, sRet, nowCell, retCell, iRng, gRng1, gRng2, dIx, gIx, dMeth, ownAt, putOwn, isLst, gAppend, sIf, dBool, boolOf, sNx]

/-! ### .. another way -/
def md : Nat → Int
  | 0 => 1
  | n + 1 => md n * (1 + (n : Int))
def ev : Nat → Int
  | 0 => 1
  | n + 1 => if (1 + (n : Int)) % 2 = 0 then ev n * (1 + (n : Int)) else ev n
def odQ (n : Nat) : Bool := !decide (1 ≤ n) || (decide (md (2 * n - 2) / ev (2 * n - 2) = fk n) && divOk 0 (ev (2 * n - 2)))
theorem odQ_all : ∀ n < 201, odQ n = true := by decide +kernel
theorem den_odd {n : Nat} (h1 : 1 ≤ n) (h2 : n ≤ 200) (ω : Om) : fnB 1 4 b_law_odd_product [.val (.int n)] ω = some (.val (.int (fk n)), ω) := by
  have m2 : ∀ i : Int, mulOk 2 i = true := fun i => mulOk_l (by decide)
  have rg : gRng2 [.int 1, .int (2 * (n : Int) - 1)] = some (rngD 1 1 (2 * n - 2)) := by
    have := rng2_at (a := 1) (b := 2 * n - 1) (by omega) (by omega)
    rw [show ((2 * n - 1 : Nat) : Int) = 2 * (n : Int) - 1 by omega, show 2 * n - 1 - 1 = 2 * n - 2 by omega] at this
    exact this
  obtain ⟨ρ', ω', e, ⟨c, rfl, rfl⟩⟩ := sFor_inv (fi := iRng gRng2 (dCons (dC (.int 1)) (dCons (dSub (dMul (dC (.int 2)) (dVar 0)) (dC (.int 1))) dNil))) (g := gN 3) (f := (sSeq (sSetV 1 (dMul (dVar 1) (dVar 3)))
  (sIf (dBool (dEq (dMod (dCall gInt (dCons (dVar 3) dNil)) (dC (.int 2))) (dC (.int 0))))
  (sSetV 2 (dMul (dVar 2) (dVar 3)))
  sNx))) (items := rngD 1 1 (2 * n - 2))
    (fun i ρ ω1 => ∃ c, ρ = [some (.val (.int n)), some (.val (.int (md i))), some (.val (.int (ev i))), c] ∧ ω1 = ω) (ρ := [some (.val (.int n)), some (.val (.int 1)), some (.val (.int 1)), none]) (ω := ω)
    (by simp [iRng, bnd, dCons, dC, ret, dSub, dMul, dOp, dVar, now, RC.get, opt, gMul, gI0, m2, dNil, nows, rg]) ⟨none, rfl, rfl⟩ (by
      rintro i d ρ ω1 hd ⟨c, rfl, rfl⟩
      obtain ⟨hi, rfl⟩ := rng_at hd
      have mm : ∀ x : Int, mulOk x (1 + (i : Int)) = true := fun x => mulOk_r (by omega)
      refine ⟨[some (.val (.int n)), some (.val (.int (md (i + 1)))), some (.val (.int (ev (i + 1)))), some (.val (.int (1 + (i : Int))))], ω1, ?_, _, rfl, rfl⟩
      by_cases hp : (1 + (i : Int)) % 2 = 0
      · have e1 : ev (i + 1) = ev i * (1 + (i : Int)) := if_pos hp
        have e2 : md (i + 1) = md i * (1 + (i : Int)) := rfl
        simp [sSeq, bnd, ret, opt, now, RC.get, dVar, dC, dAdd, dSub, dMul, dMod, dDiv, dOp, gAdd, gMul, gI, gI0, sSet, sSetV, sAsg, sDrop, gN, gT, gsCons, gsNil, putC, cellOf, cellOfV, dCall, nows, gInt, gSum, gLen, dCons, dNil, dLst, dTup, escs, esc, sRet, nowCell, retCell, iRng, gRng1, gRng2, dIx, gIx, dMeth, ownAt, putOwn, isLst, gAppend, sIf, dBool, boolOf, sNx, mm, dEq, gEq, eqOk_int, hp, e1, e2, PyData.eqv]
      · have e1 : ev (i + 1) = ev i := if_neg hp
        have e2 : md (i + 1) = md i * (1 + (i : Int)) := rfl
        simp [sSeq, bnd, ret, opt, now, RC.get, dVar, dC, dAdd, dSub, dMul, dMod, dDiv, dOp, gAdd, gMul, gI, gI0, sSet, sSetV, sAsg, sDrop, gN, gT, gsCons, gsNil, putC, cellOf, cellOfV, dCall, nows, gInt, gSum, gLen, dCons, dNil, dLst, dTup, escs, esc, sRet, nowCell, retCell, iRng, gRng1, gRng2, dIx, gIx, dMeth, ownAt, putOwn, isLst, gAppend, sIf, dBool, boolOf, sNx, mm, dEq, gEq, eqOk_int, hp, e1, e2, PyData.eqv])
  rw [rng_len] at e
  have q := odQ_all n (by omega)
  simp only [odQ, decide_eq_true h1, Bool.not_true, Bool.false_or, Bool.and_eq_true] at q
  have q1 := of_decide_eq_true q.1
  have q2 : ∀ i, divOk i (ev (2 * n - 2)) = true := fun _ => q.2
  refine fnB_rt rfl (ρ' := [some (.val (.int n)), some (.val (.int (md (2 * n - 2)))), some (.val (.int (ev (2 * n - 2)))), c]) ?_
  unfold b_law_odd_product
  refine (sSeq_nx (ρ' := [some (.val (.int n)), some (.val (.int 1)), some (.val (.int 1)), none]) (by simp [sSeq, bnd, ret, opt, now, RC.get, dVar, dC, dAdd, dSub, dMul, dMod, dDiv, dOp, gAdd, gMul, gI, gI0, sSet, sSetV, sAsg, sDrop, gN, gT, gsCons, gsNil, putC, cellOf, cellOfV, dCall, nows, gInt, gSum, gLen, dCons, dNil, dLst, dTup, escs, esc, sRet, nowCell, retCell, iRng, gRng1, gRng2, dIx, gIx, dMeth, ownAt, putOwn, isLst, gAppend, sIf, dBool, boolOf, sNx, padE, lenOk])).trans ((sSeq_nx e).trans ?_)
  simp [sSeq, bnd, ret, opt, now, RC.get, dVar, dC, dAdd, dSub, dMul, dMod, dDiv, dOp, gAdd, gMul, gI, gI0, sSet, sSetV, sAsg, sDrop, gN, gT, gsCons, gsNil, putC, cellOf, cellOfV, dCall, nows, gInt, gSum, gLen, dCons, dNil, dLst, dTup, escs, esc, sRet, nowCell, retCell, iRng, gRng1, gRng2, dIx, gIx, dMeth, ownAt, putOwn, isLst, gAppend, sIf, dBool, boolOf, sNx, q1, q2]

/-! ### trees -/
def TN : List Nat := [0, 1, 1, 4, 26, 236, 2752, 39208, 660032, 12818912, 282137824, 6939897856, 188666182784, 5617349020544, 181790703209728, 6353726042486272, 238513970965257728, 9571020586419012608, 408837905660444010496, 18522305410364986906624, 887094711304119347388416, 44782218857752794987708416, 2376613641928863263785541632, 132280106444795539197625827328, 7705008716729749963527732396032, 468744135800126572558268335357952, 29730054390033099477714382005796864, 1962586033137616773187258991535456256, 134637659404625757681335270499748020224, 9584963644881810156457282812023186653184, 707173340451261419106233361561741760135168, 54005481349178592760992820984887698159828992, 4264097052284773334721826922349063450644185088, 347717494441208655889609784742705293689836535808, 29254882744213252920618676866373646493034580279296, 2537062817232412229880934405017394261055100581576704, 226588568079973535422904792685429246690212740119658496, 20823498054974293114261371204370275986079266118677037056, 1967585335605067331816881515789858061752205810690447900672, 191008011389013043866128326364206801607790424006556876013568, 19037012084887601494957603241545176663513597195454823228506112, 1946624159406584409384170760212643676673458571876104851383386112, 204090661417357431321738473875202394230891139665321659476868071424, 21925879356371545204470561197831816567262324342126414588613960400896, 2412301266065614297727046387323902394881244264637748982873349290983424, 271647813718836561341483839819723101438364107862467346090855376579723264, 31293307486506678867597475969340476109714803510871027410789483975171637248, 3685937338417969594018553885287329185966616556932991085993905360613662523392, 443696329464513482441157930381471619255274387438096622906383081359827500269568, 54558728656830641653679947338389252787593117345125315397976612980237564943269888, 6850001173973904748957636607981747909339510635183093671870187559786896636537470976, 877769301123692036678327370951121613855867654078253842008245429805792365673336274944, 114750924643298872630939322892833939023765804548627257148842142801002607756374039330816, 15298460934457696092903454429602948504269642647140590771690783069855406080552770948038656, 2079176040809839271585776209199921015441179961931053308639068112389779344722942435075817472, 287958010300235446074411738674360587979161299855385682547348189886961231000258903714748694528, 40626526745254753428939861102009560932481609031158997218881020949847295659053890804404581302272, 5836958701802886563375384089206388001883302759106819592710421054229387675780617187486411094228992, 853726827555971436925682184105662978275765112540919470000064642167171688165468480361525282135343104, 127078054280853226878612541175733804573413328431110085834471106897380301103306914182029993513767141376, 19244655101324373947201847309221875711203467545347429175471623201123413757255887164786849155167691997184, 2964222076972710637021508784993952142653737790795112177062851366622505654456734319600987240815024022749184, 464247619345729945232540745459754267411010138613187649400852169948372505171001406144760034228009351635795968, 73910869462632426830119064808731471158717173178773186654428252700373184100320906972025167613063918458578665472, 11958364268257052415868020605883227521835130981462858092019920152760822764861944264459231110103203598559889850368, 1965752770631618771435117722071692745084764164682067371054828040098682568157339837534837274668190561700755745538048, 328225220794984737246880878816321758390299106118922157859133218675303295244017163547149845025028104054478309620187136, 55654019401250225150722188506974034478201716159611950641496311454854508171827141295464213269541742235356718327549394944, 9580792107583736547584518053367706918613073712179671419391179071792264619753660349919117430556759039878082498458839678976, 1674126912705871747147494172800920213647827607924953782451457562133870306883410911745664953697212039977787083853051163836416, 296867115500269707598152890298550253523133199712917466015789319010331065984596510881890004450116533504231669712058413253394432, 53410912400285682803692414667531176621980594299481986966487597015913999449554290973758040952093441844882844838149192063918276608, 9747700387748214371306327980363325359992375313040649278628235180776676500659319639197241100831477282694118991509412176748831834112, 1804227224949387441275014072506484209775886200744920778907518661368707544756778528802431332009104297888308189801549609612941136494592, 338619698158386660431714102986179698093117963802927591968994061507048447341993764374920748327340981265662909858022464504156054150447104, 64429164636435642543961716771690442659989899807129454441211107426388586214237484067018662054598076839584853108825079500897137477755600896, 12425723380074563964558237904159987641314417157219392925391550142068031180792589097472892006367478040202581989298992026750010935269344149504, 2428574926702368688969056073693350117560844700536099808323917856529854887376431169201725629364723449044962701093870389867946327089664590086144, 480945409330455652408403910070478887950376853234218526361564681814996639985725398428434354884880562061227012882481307630563697381366750435606528, 96489553473178846706730135989045651155382349240067324001062330937970305695180657506634200252666175920765512815499586302523160322242031535555346432, 19607974512143705053763797595449803721386802909485282931397267506880859989835516858732119023273541080414026827416616449377258185592788800597642969088, 4035363057311504483764330381270310067975343615760656426698759004433042949743692467095544884847629922905719659763655647039046742862078663092266847961088, 840932656045665644958265514681170181307778650288388206947863918300611106842239539786512449203992725045306173207633333387822820928857545923760243685195776, 177419570425667400051433733453617216144936307176337929391352280973113748346678309563017424902049802488350701064322729656507093148270354165465909643081416704, 37891181109980031544367747517868968828727416977849609395353746504922827543609915212522393473780241341565968307702823473290521406109685892587407095663612133376, 8190440590405805124604794036683492310107512610878508318056010380815452303742690146254591627054875173237022253819601931365625571868950511865967751416507831156736, 1791622861594991561846718562260564550925294097828297389982001133654465507223470628107256462382254337873572263058013352529826980357494131877618402065227165573578752, 396547584827422746713932005058099846679037482122488510980840236359125007287231734097013817065740753184617614177079000697754609747928918317619251663161823128356651008, 88796120758903188609607820193110418679793770397659472307814330678815195391173034389874127339467083691591600221571436929729433498130840189371164822905372768714811768832, 20113358804117072675767619051160264516023073263225304932073481637561978223914209745718645059991730572733309045090259311746131502141253411880993281388049623323071387533312, 4607978094322754744239115969606011937973543190464015894031643770238268010490118267733556969233730133079748379496973013172379477394487940512793525577901371089241706514612224, 1067618166370523114600930750257382638801542641909795711143863800698883926551706618238491881340418225199965794024265618006433224321315375762881693985627499620801860852573536256, 250119198673832476863836113593107878037554977993712559443849155116048540414484305549031046934035438253955212554796131998107882900550702109238504630159501736168082866688527171584, 59244849177651040250610480359849571110405328438075600234985586181916688238761561981723931113172256107954725201194221387142264112048842057598649141700176340969939837880632705286144, 14186484510604525563609076589100363018314255470783779327613473133557350058105273861440012839033821126653629515324349058662627085673597920095060621670255374571545184541928725390819328, 3433751314490761806755290797978775818512345917268462050730035098296564178922856427667581092386558847314189361676401560823338524503412200022624741460839872281098358008268981136546332672, 840007318206565092626727147570142724616400328940407850606083328119478299489876296886574110561535591527764912164888762961854159150782593767655319693761107355174817510592290113299024969728, 207667649429496298566882925420965100264572324345713319329901016390295511924629668009456425613997773921207805047840348433009939269445480485674821607123175085563567189729677422828384480657408, 51877441628035885172811119448599425479964273912459467113809442225718561896325914091818751161562637468698875796053661294444034587522370012161591685827753849794332053993481899640615723960631296, 13093795096788443720970478140587397106602026646047576956710832092648871233274670930225207784174176091385111992844858779950740732785302615608582030172022138491163628292438580741887819299761946624, 3338751761360993619774870715677175685170131355719296990995809165657098713340080991341790831825908730268533871460644864016165243271160202094064600734090824761259479800598191065978750253330874761216, 859982384591149712300282854285000954222582670930052507250585174570896007149223732169281256712520574053768743986195081200071662707427692543537761061997171118331078843125280780171435085734673924489216, 223737070651127767062615418689283813714693171601767173329424015205949430215093685232249008793554345929700483460254530088838758145057408913774827347664978591198592226820921159306782580412902642058002432, 58787677971377624861205216617223391829494814429057922691967184872720564482552718426036991167859782819971895740370561746373521044632612197014794816806008704459352554498878544610014818320024429884738633728, 15598846167393360332191157658689225405642838888259993970591363561946568865152249197361382584630309122325568294569062969753039319068834929239212339244330951239262321193090293077040032775522769610208006111232, 4179411325421410724624559874459277933327447512026374774405543310320064441981366983623405696277623382793789621003323312210668770071296381387862850374457751721752690658786639217295185538811309112983121614077952, 1130612241380034542616174635133652675579207865898100036830868739864770306258572324986744328078582140896382393312280672894883226338815277224677424203151966751992021570676240199088898945593265931601708803229220864, 308779463572472924196960492919947258806210285274346992985859582795339842278219114019678373178695088823377547250063424409382386950347849728082616840845563691065131381595270786848777093758492551536119156805631737856, 85129536667218592039656718718109338209451733839763528304904485284515363028669177381331967166162591891332792607635545318248028575938466496312753635976825050294389576861642081130457836670008759374126112697490629197824, 23690322662236272820191205519897484518293384684794466810802108219214604693804654174799372398153736641456061868575855398180074380568604833522969590037649507831588244646164617973377304441143209677097108471820798063017984, 6654002270350856176998976435762334710125961866403694244183616865779385494409472397845186345640091345985751514050448048248832057515023049648825712688138844561319039567771642002094888756166087460778902455372432691028819968, 1886163270899368417216380734252587965195278355685652389052416388710354281370180337917836344956771761396768473935611583144795889958971975205784312405966566042045386499416274746295354781608809620143108825638317603725657505792, 539540152955275287516844434320100578742604039393348148114209766579091077796213946419852238312327209111020581929646954837644252129997006580162804760501614053068811219861639544726882442390521263456778371616732939288166099058688, 155733067058552974497145997753985623906239303642715362544859226585747802880250669451572334001484876674973340585608040389972249010622794708492684376267632454906805362514138835388466877123533493769265877239912163260119561701163008, 45353995005592293207429614159359337082941203139944786213932856853916205680711925891954759233897065824708515369860624253032028916727497448444715128902198275849041737676953326722149591684469926224795819579032895971908237154106474496, 13325809124127792102526080610084008604500153088477143773621160083409760949469682869815034569628764547120160932268675041515210092035806795307849965168498681644304059285294959530854900201948594565411302535193174190197948304516137877504, 3949855830249386983557569697489490434777819612067653633167614809107135010083531749529554739290179111098754551165673122274800235840550275739563911239380825265405913155598987857897551326150874821553715650856985111658980733362648693866496, 1180987737727032113823534490372989643159316826176411869422915826187291642645707915641672551565091713221423644376760347355306970208236759722222403692940469257385342432445581922938176954244012256494461151949984950923418339915652201401286656, 356166824759259680068127661447731526724977823910150492865495996562674190916043597315840568747679924524954485166503055268642377743091904933883508417271830775994944515782547032593405852872328712937258243920762504503754410595136792480838582272, 108336168810999149812195107231385673576716470590384143467741636218621725204726076201227284492819435092511195622778953573970905400265100516099151145450789120360564557460459831645864390981731574724009091350354274027396183737743864460581240045568, 33233337414416164376309072162212171555148657793394426549317744781930303463999572893256338969390727778602757366445096186319639842666781492921191515631148872099327759956068571003941235830366198459834400565376360647110041312516350109045996453363712, 10280730796885673574156540364910578723113087890658307297211375146858022892447728755791335856557330051872296424589578839066107079138498941667500522644131854194859340233488105268531994417834191021753481904633931562681034102453419062231457682750963712, 3206957104305907418089171880218938137674993963602014035583909864388620345854295169564057500524821319319492843883092838362838589426870486589143788138314643752262126038748995791683542935012148008813334654871436884783697472879762281840696947227465089024, 1008675651923138885079017485689020845847534805033205805973023608727112106762357021376725515993149573537400692295818547808101607463815514025539602094432595463333810555388192454785218171924559347608411778098967569999453908821943976286260659095251447709696, 319867213762961185489456719126099272511110504762932218048094715599076777127639082603292619901033750666571952916671221783081540057009704069988895100015941923548760357392817254615200468177817435768260038233784752839883648646951941018563401197904844579405824, 102263058703067061854176740349574766390136372583976691222118982524272466561898997184974275737183419276503914677451158296491378992897775020188995285015001434815987525781890198566352507628716799815651301627322267543556971634797493714259681676038874971204747264, 32958710811669450815949314831204609243539236934301325321485012059143780790025334131992263369857423578335942458061316781575824704390517593325624238868629999002927139604407036296401805313703626003722558610583376993678242809625075781438406309172312611223133749248, 10707695695667927200440274579802222621631875090992821231156386976518135656249701285148294156455912162308524315902330258935099561866920216572543723225949754586422729093624174076363711159338699587506582686853728144896802402810910095049030842328533714158418596462592, 3506457808119247571932518311424534173942622981022082520610580988021269227473574950389669269336409573685980508843307604279595816448393893896616867515886282162269452154852646259508559248497441537760297673428266077666042080050402547916482672357901411009778930593824768, 1157339743176656630027261983779790241840606324553730435449805037293402032269378368429234783592179150246717293163894401425818156639038840510189124354402262043145321666843045989492326703283666063472018263177043771491515696699765094257616842588322838385794565078398271488, 384986989376265806384675622587646068522584168355909485461697597175812878673547812016735397305513814346780721371585103993581096229342341122155080090641318553684295494425131630512586369193912025434038760121631901315127167124422751523801219540050377322271909286063244312576, 129061846003056882655216064781185802354031848978369744558039145038872549196319942799039081581299004274772382138474691833559081150504710073281526362629694168713875145489799873572837655716556835969536506263258447394854759511522460736720316166939633121736725274920750933868544, 43600395552480119093869900579600424059645107203872987213718519519420241273869500306515888111926146506194569339426989617315153773808667772426687983801304577759069110407324611112117181935972763750530596046373293410633991312085099618724436071080459071149465784120885402996310016, 14842197996639683257750822819892711694453668110344726578927787984101850213111080762422718972754118780736880570544736826625325295743695502303607761230010239899523658909044708020040469640743043522120643271132853313454151030697219699762284990250950936798715380289118768935580205056, 5090918349251159979139300584287627141072457442377175117624882041079351826771398407839567123840058505639956387888045516121504499934232059937823131072651258931864136104765909875588133224517165149257106699387368002355148990341504483383089427075549297308869203383583970496481824079872, 1759379080966907766504081255254190936823153189961394632982224799371584766575824503473249796281371687795508447359120044113292516513253061966781293439715574907965928756697305697573394550067569455989465633005792291859439659160667515327456926278047042823336888158854955592835855315632128, 612581291183173168149024887791372366697416513301348748330084110359886559537110808804300272707254339860524878737752378085014034113908929826805948746557650554464906144717192835328902589099020152991968980072827053497993196123242466536994470918856014997316410158633506421858347457049526272, 214874579121813182173439492204491416159760305614885615684977687101339140027901839388752125117516563972871370938508287283022091674595931046475598235096521496789215455306718516858307365915089959264036053017127489956704486572648940048313426458570745471694192886761308953757589486784261128192, 75927604765733701133940134343878115510270021290182771231287020619415283212214475821984579650315022833470449032868175275009181100066112503984728595981982259957470152371943257656226357839327021737462790195000929106338578808663770257669073771489731561117645655541124234375698626941717844066304, 27026163618147744976261807229783541657550892740039915208768121902601408308121368714191794593533132191121713108295727737991237307001806124754858735830146387347604371633103650268475772627836545845225328331081389519123465062227904262803559448934479753814643055872925521236516556781161839513829376, 9689830350905131098712780059725399889574258771458052012996737033817645239720138147630190455968313455206154053093881556068274004861132464894941839484392756949226880064779107077040630634820200133134225674379612239159137175261615852789831216749606749301640403830465654041417259524940888689694736384, 3499229075263845173450855287228318687957329275276215687171270216829312505572611796042020416646836982044977665782543853518895259208424603710601506748787276440200181136604520659881585234108255930145292355068384301589131450606344612012786823766681703167914172482456118541547942049552352781673256976384, 1272713604703217559362019688869672160832201367424418129787780501480045952011611246761397199203080703409775770601295129964261607378201051541552126263246147361521496645599664606204193891534920212455911713093976978154361961271468575463413364751686999617687236153200141837338339098464109334463143024263168, 466196608059717449281320209570026420247502889475506690915875762483413699475275042404907245135372040503225125782730736615087626446519134532620217325276627096156331482308440848642961963145758551283452657417866748243473570884887536413915207946875317533799146227807989683120670203798370752615914859577475072, 171975250908762173216888937815297034548222450061532661668055735406668220869193978427115467910143659047390350573204485834679667604370292468491225909892035886127562610105917768098140770034713739465618772313246234637000665402900712138311531075825558058431011268682917038836437965784006624452932483786806919168, 63885136347105950774164535012675084291143395911265797993863766300219381752856005855845243152606463709321193350806796343465273555161606673789128244507954267769319783538893990118284909734644118155915937370053052222843703303535063371994695695805414946949374572980242065268256981009627208634467100142896360194048, 23897344349082722628652502767721182063386761172494661609224412687137734265582994635373476084493309532787932079223906592182346757691463607128858702363045454946921726293792119451780088066707494244325538439851976801174882854734631877754197968106924919282491965335558125348862729746515983826481444114505440098779136, 9001079525446623478841659149312155190417260099572771616285428726453410146734241778911508933048840878430605372901489097527408693982485632738699734681150259354965912503061272680877247260964430721042380529402562478971288751025948192785413979358041070184410349736172813014834944830176580398469677892640980358181945344, 3413612205929074721523460741201295146110099749964192391225073749688336721782294830319332977197802990047008101418952199280342991758836954056176247836363540281993562990073333602597102170041239487793111774260731720231944847178585274461780167049393598073948364555202491879843988139057103256346716575827122795577528549376, 1303431336558348082797734531265755703758679025267909934841867100263667228493385085142391013146761586528717373310754607548060104796363146672414739980810360579183280881878251784228691098989190786998772445023057403198600580362347783108693728448815733253147314517206473392273333464011182469306067255071147617516651980783616, 501067877748954179064012988435951724878714544861083451525303425702141879070665936267107837895182021829035344768322160405735735886340622557650846612063423834671773657483375289260723884246713966119251811414743097579862129683883717417764283982561045920505233887309321893858854310683356349532612009906737983579353332823621632, 193918704419941722735905009322854563388655249215152439638795192725942910629187200891403440282648188407344447061899237636116333028143121814347662434086734367713295143834437948478519842701973230035776275470934158217109394638754664401176792346931386101600305442984380202949444715530361431045205160673989408429577334549599223808, 75550639176863625208790657520127911345177084868293051448916630503506093365737780452690102311900588417381771929850258259166047506189106635268815720353231066572197710044057881063680173939595083218628318714035208303372449478719106654940691711187418108321834514365703277087231146757808043237457909572832423707542081545957395136512, 29630072471306748513859868495222577310170647759896164487895578067404746451871163932290643157927031224074203050205285457440142810686640511208294015024875936340348606105056741887241296765208713215275168592380664064120182661230847421443452088892801061177530965794098196289829422336930650050923448092892786376711320709756254936891392, 11697269374363617425674662893768551786386849033639917934872067897724427153060417549707444432326636364130530742508572576941888699061922778925249552749474989679132413809991167609286390648377566772921444070400064994359852877052879416413927847613903747472213493847127478191941544996222589387113209437856900452252624727206024581327355904, 4648092916359458613283653714539952105192193028154640344397182009242333597368210560522055168693046536501750858203070421058515092201654229968227940530671844197045362576183978071805344603650426362610626594078624104116161196749125228109445969985640309327162424543490313273934282209382146175809244626691613664326681736366700552587728388096, 1859024917893642100601152155562262636593047737172499035338981473923821174181482911888347892908858864587179808815978710675732138394413977881297841393309382994785686666869790803358786807303509251236423703406212535450762927663866423869270983109649092609374099913005391506287935573894452850956138244458352117773573346259965187028257817493504, 748337530904961913165386048422218484861725896080755752558640305382525848929895325174741919495305892191754292835054672494356866850649046865019850065733280229898569503142709627480517297711754567235089452928943945408946892702881624363290117059871273432509492853358495027196599023234906192173397487867850651674800731633512407290671403886444544, 303175279873262405056413323114966584649494696821640288764883953722893194690157923430941736833732386776161433451226440996762138137549045680832632615109777245176390760766145365321088760551178633957650892992604759905272178658668267161688443016078748730550320522608919416713733274154015151766681345127521378098315127937978637696335678511857532928, 123610755337804870151788168773601054687991212941335285625648856564478364213058444532825057096878118688885823911190687585067784794154296940350238143411013034809925771798114671954358775677307122860607150377004296238428307175347089925477296529736772036863795266784655414091595668195226078461486380181908720674643089273690221805961910795429249810432, 50718621148246004587485437730636609252933705368193702863853681507209639487657088041737621658684102395094200359916747087885459197228702008238010971233312135125981326634028185524865360913541954840402189237961974539147786533227442707223433963774291351290181783392119201592926058133043388826118381519212620927555993250749852361507738792284689151295488, 20941608363477754476295734585485194274272022542477750814211520556545496891864722807816657867222334218378684313938877633193114620534483594672861684702527623486659310023331038773831365291695917989328761764438518415548716594122015273369688967807389984967478892277294089702269576867652099849078717268755418554292117694685136806775978001757233825592639488, 8700956042613787879262408648413949588583613951294026470440228402851847124839524263818558268199677290515345009832811469373845707312067412126828128561953337674347180164747729583114484611137997997489319951716701952100408248112314972988906776862717665838588090354992513347662591817490101781637288385958424871190839859322561068629111122522870799940951474176, 3637654117899206204037664654614324593639907276112263990289135862497942832481050079216047091652026550344465542287739155427287211078691763788447834493109669947816578588609908028554363463216949233710434060694502633459309677496496152388655827118773496671943271944192442005853841013848129774257298646880437534450397616381624801422494502599150665911860570619904, 1530229835570763310363146070251191932406958013342887764459807687716689187555421614407654653995251266774420415849535119657713632001085495874240630946574471506065211473373117428975849072143945565878896938859816996364760947537152234971721278620888316185216672439477264823281549882351666396712387889170409593522855187756072986912735586693083604567945568348798976, 647673781619270273885060205128901094436356048625214073968989998433619522483888260786860976828888667341237321019667612667070214388503689290854032192256048620030013955652330768265209789567243565644132548130287195131528006970586711562278458667680763303969521833451661557391193329783021091955321737056070506629191198867232502550242567469272764705091963168789364736, 275806254399014631645965379443283971103148348115252984024297949848684522363120927501866702098843174690056073223132089164555553864421629961734660342037133576934076871069062732303682181555018999046189815238888914084938033354228229904200213876601563621451425626721289991639304954985785961268678725481984795440916303776571858336645263676710710080068100782691819978752, 118163676935667159363443603549582789486267054345714817666057483349906440678891553949193294877921148849775810327545589337048531953523192341743816562541837881106775994140255364241956885505097728980250093770349938529975226836377494894941888597845799538243635231505393345610311923223821404324292565955761153933156873730578710028339879314974190051758308519999158047735808, 50930755615167094978331038504325637139207557318353707612378889283776305776144676178425530134143550969290949873573323298121454051358852562928260321769659356831075416368830777297452989486010726820814476123366418560685039401793051379118559165684750120216452973818711351556753095864887695255410543701786120734968367079974969456740953225955193893838726538604108531873349632, 22083952932408179657290937520515643842230251655806148055740563016772616727239168242119692974188283566571253425682355844778074460168894600607045008259661808127869669567451124315088130576999172717397876884874806163044738240621305139717355491482958786826069625494437858554573296877960755667538439786045672841890606371527097387732377355949034000626112382374511605223587315712, 9632934274363921718094569300425227279196982398752367315084755303995032663359882551734604031589318735956325607183480721074261725354317173993450914288533935814310042023527738927563126238450160935194868599255634897020835601441248070256813981579892159535940151099427067743157262618246734579253092979476624769011937128857970375633862587372539114758297861358396783128009846554624, 4226785177334015679691584493848676695235586169771028634044539861113034391246026609986406559416169241267444613035060089417423907520382759120228217997363100738689221047465285977718890493693140256688285263379212041439733831078775098716329621948706270259818718279165242640137567122889880797017699662596295444953650357890655820697344718179476049985208824554721263011145748794310656, 1865590975799906113049922680530577658672520620002392079226799067572867125750876414576962647275618370527518403337511878536192588123406306240665018154418450547039400556946204642781003891364172893646116217655432824614642904177134963396306646210048287087208951992151563827945156108643740340764789541921146938851214186170975375816429619159168612783661832161106170828737630208350224384, 828251873877108757896500806252879409676689684561280373742390295412123425668074210143987104111918747181071616069298998331072796356653584115310043412384137764393594053664657477398028738123731765661387707900178745426299108667786007785056438642037651430035251653132116708161997123525816819871047100855644246155907269711551879029223293674007593584273600740915890709561918170105584287744, 369856618053003917949031947566167743332272094794038776554184647577484827830658275809507351024343099709017869174235435525269664145346366671148330718132696894673018725757249172081630477477573674231958154770029523023340722654777257620328557642872298230154078027240060968941712056931433597428215620769898168764074820030350768997395877082848646194312626473358348402211485814781459644284928, 166117252026805075729869362156878538390431163626755084113788197620044429589344264445292911058052767368529724989499259130357238432220655441191589753736841990216823037116456093635724558546622705743517085128632735580959575745273151145492457567467628317257420660449165543933010487913576366283475102518962338847970918752093659178489693982231415769452037420953556148321583725004352618414211072, 75039862879001191709008899697309980735417034904678593198850794015862759408858896767341344409550232701393263895020123459567028231184048661673364297154780241725133425282007224437142903474961738567083069268200802963288371997783020018812333131742415844757277054557688939425342035439604024456082456606583101363537840480489254125031471837193937252184717802877747297408203567335290484809665609728, 34091884796445985400113681561115711804351977746702649796325447203550466571107323155947260757486743440424022416906320987273549883466520333244877591344529602816540256081704239258249353535782093759706786500268283698204175253333211488585222919135013378587423048760244109237638645130852611850183914652982165109052377613211558485392929812120719971294513803110115915296594153837048869379721771614208, 15576776155336564995956631119351214255457205536520466884634945946478424168624559743674862857886279894588906994567537712374894019215066525510104844896096094813600502036746275011564925343795476351784845109609621167588175212983072741243209088978894859641971376218299997160838683296805421406696914810296182531090740399267399463077382484641297337094207481791968662552950476628385423542096799618564096, 7157441232255412191715798203770583319440623463729538858912500080644477117322274238653272785373359261213343232143221625193193952417696680792419614162837026855012876243116922957992019093176721447281509453207831046997658002843222355668514792886157678839089579800952532931185134063842405418401395733665446238425291160372652376864322212058626270019046367343313942253987491404004573371638878127861530624, 3307332535960406036074287666642320944091901355958611949146566023085664255149695136029194086971225256496781339340374887499458112111607306342930278448836972225810871264219490045362551543076360915688500676363506886216636306099465725400877683495049385589369992113556410218328676448779967383971875330679942035509140674892006064001659833197240370164182417677059223758418513418264114168710310331230785110016, 1536824111826277960996522238677851037411427167551020933885501824089029029978190846876667541491848165535078878551274194955803026621377515561870610455002389377163696936247438902785791809052919388630830837059922961509103656579029065926784052492329683220974594101568829223086833731973369821136038255980856033262066757334698604545363594080251549353070019343544132776922029550821421417554698656491101818454016, 718097176427735021943705991549467934284066953929230611955501368636910016586133725544182331848607456272513706586087671695425626832102660658115073329542431943084648664309281796138708238916521209477930843421749746352258921455047450159054522743388861818264146308848321942444697469047937707247854898180122017786482271073971591626021929016032669998854945335321007582238365033848419652946238391954199431434207232, 337397370176764408106461184617970018506871222039309882646918094221704648937143802513115849272296173972175883474217809958652788298544139222682051994779197236040870103882409567123467845526782917540458282198535998313866420930528054624540839330661644372076231260498902640641197427407856969649379899830427242916507884205427220984757032507672453891226685592914434699549815809070862910735262379918755358478725808128, 159399297984733624820096402660290027211197059583652867625115548676152114664097674379165848874109406605389877513703295060499797576593371420728715978411156469499228228667111930030957815351624160463924823320874684058084917097976399264636077266627225731673130409389842239690520323757683725068383606829804131283801449433712260647639732065808728328412305368695601322889735319360923782994767852464152328994295939858432, 75718902946509205011111704543139240373515602402067195596319890084723551346340490338407390327644810885892113226597591986870926548872264596152312283078256468763483949542585808101870650018372561587124842766157929423268318017683052407062449585765971345861814299306912078832476963748403937641873858710225381556201569977811413173817002216642430267288123868240869496195134406983789445779707536920759947118942520661245952, 36164504692140280790309670201572577485359050153197833076504309134680990966088265907428149214264234985516109116080870737473092086706692078703531428458832789899286476332682709879806320010588264128702650794508384466806139286339674420429986274717826095023994706916095204703011979757543913088590880903021808554092916723916517587317016975188177672422154210657649848458402733041992056683884360530507538819590421326399012864, 17366338861115031798599161624716259116886903741125687411767754218536144328090175497133326875970963931016964168594531554139814582083952750408535537478786149832589571420606008507512159849763788511607241574313868269754248183398814189193865741773737575796056150008132059990247277731555965632540521439376465755408326372859821243222382233575138473294953927636956522979066047954429747071621481521337304935708210644721604755456, 8384341140943928286328431722378056619971382269672270463351884040795163115930870836240529047505830818301932125336615190432914207972630601569728582632505221610726255589224408576355229328567416510679800600041159618833917442975774535000404141689764811852811542932941478932270881934654915321383373602888125387539125256530347506009253813685161556835033091241447786260432834456653292972525511862466492788033192228167057275879424, 4069602991270310066205856210996975912831837823449571352723193547212634624117204813033097675383192566177269299812844465859081344509470717240470394853304555041439170265346705948508933723285505163715232425599612122984652392064026074694754080642777981600357388053084753831991675215448014712340248216891051366740872140661823865954000047361145618741718958148143798180854863525972354839532485943553081482512603586784538484784758784, 1985844450273710299950663837291018221606966154332245120251559629155007126693040180864575162932158642480995963996921923395225722148212297381576705369601751815896501812862184901941846306885013609600356564817658155957938725914068617811884627784123943380331489516175016267057402566554552950875262238199997047930268700213323940467885941278254109307446435299097414758895687635999544831767115476659191106944196040613222662899150880768, 974173404454244835666179250862683235504257656364561441377786618172663298594732388140668182585057977153449796181668829950871420551729337650053054628332080995286480084755103702323434119658469051661386253239629722011934937477939112630747448505671573754089272354064774821099392919475103409927424145060193213408198947478835754211141327307830624892347143073262813719094240822358106697391748652392973482674468880477956790117684417134592, 480411144894882064971117446887906124617710930205983084840912089873533466439551354510209064821664193627136316317111254521996425313638606160401054691261168609338677247118246639320031970819926238435767854787109857203311129183105922293238100405399506678104574940785859301573578049437840201567620246643904084152490951773413915097407052888007210101105596647003759804933779129994678872234656115361724268461845811820071692169584742957580288, 238157177783321004204087404833872302042200865876957371038818427866690266607829364460966200595721741709539070950551461600903240578163809885876253779552906007477341932199606588690714400744642192078199193468689808670909539581608613203720360808749163533214145195563393719078113236006995219376865541654626807497020242355879005380584905019643028736096888844374775125489057100825047039703601683089254850666069319448059226303242866847758942208, 118679642662942434738768989559716698656267440300480082395947800383460755434272671813580912478836010151578278155495144764956197807537580290940409674130041416057107726782638118547245708796779347291129161969565090047983767458667010376905803138564260719956857992652140458450713124963485466469936257211857585974589115743552007127473764033566766652524521705900331729602677560711386370671592347036249276624497071218515204419785676139233013661696, 59448242298744818520362268235527528875468823367997795561381701855535295201465168718079164761525200149884108434047118953306607842091428277814432432653199271260763925190267017131911975963772768416546741575035480798720589561259480756998193926886555845968939013481408197148252772499771010807571696337397668577414267692200278645014106306833577436405393435849658566216306604188973696972703784213300126581845335775520045121289203912487569199202304, 29932324247678761360193720062086018785504820026868345314914761580527128423738615129686284842866145064382338718668102283039991712277191989989696404486818068015455934069867366910845051317543203653547133009362537308973972100490546536856135130545130225192022623323818003874661424416546728833281025964837025740087296539588430621054785655037640457544691751901893629327937140004499680606375059564570241761874506324759097931769624644611500846398570496, 15148478612181670111058524101513915719785468902396093965726688430332621418101884756165881584735461750385071085496504772839011930964267187536735489848588259368902577112909037455326404577484354786036008022792129699222595048462583121455103345244648664804939222834406698554714573241312438061326617219241436320032643126910784120715866476278075454210313205183683485418075901947956025237699861339863981995797695399346102359196246857572899063621281120256, 7705722873728171390448282667184243400417996717695528664998092361311399190722543730010456012148881083337489032864273845845003131031549438444385089674304348405962116184792724038377368136037450767953250733785524093645142514852008352876700530967021821630070435521119606299362502525978045477774019702816917112208974832651127269705377417891264335006742619522196401590463284036487258740632235781442954947542701135523465369946648656058716711994256756047872, 3939692244887645729927381595694407491782773464166462376200143043220172145009745261058976691860172422168697479392697844836056874811119304113305378092713909673408411770955912028346647091463116909503136802312875167327226614279230222955830662704684560977788643486045988804691551286053561242642530242777039767956341889134263418991337642746953727021387742396707863342147009105177210538875984747068656374634246293841660618202137695005004385352709979471085568, 2024438641596535502385812923901414094909995103748806246067051092283944021021424698155839041138715419932206131531568590672629694928372376413483279354799496812276425919363417903074670774210409960272571733790522464093404138033237191728973651323180714669215070107262514319298155819619463175090491076031948636996981343491206117759852688204308361317460563878290033158736805979829621295404889279984169070190818533948227874509224194470764278076548547139770253312]
def Tn (k : Nat) : Nat := TN.getD k 0
def T (k : Nat) : Int := (Tn k : Int)
theorem TN_len : TN.length = 201 := by decide +kernel
theorem TN_at {k : Nat} (h : k ≤ 200) : TN[k]? = some (Tn k) := by
  have : k < TN.length := by rw [TN_len]; omega
  simp [Tn, List.getElem?_eq_getElem this]
theorem TN_small : TN.all (fun x => Nat.blt x (2 ^ 2000)) = true := by decide +kernel
theorem Tn_lt {k : Nat} (h : k ≤ 200) : Tn k < 2 ^ 2000 := by
  have h1 := TN_at h
  have h2 := List.all_eq_true.mp TN_small _ (List.mem_of_getElem? h1)
  exact Nat.le_of_ble_eq_true h2
def force {α : Type} (n : Nat) (k : Nat → α) : α := Nat.rec (k 0) (fun p _ => k (Nat.succ p)) n
theorem force_eq {α : Type} (n : Nat) (k : Nat → α) : force n k = k n := by cases n <;> rfl
/-- one row -/
def loopI (nx tm m : Nat) : List Nat → List Nat → Nat → Nat → Nat → Bool
  | a :: as, b :: bs, j, c, w => force (c * (m - j) / (j + 1)) fun c' => force (w + c' * a * b) fun w' => force (j + 1) fun j' => loopI nx tm m as bs j' c' w'
  | _, _, _, _, w => Nat.beq (2 * w) (nx + m * tm)
def loopO (as : List Nat) : List Nat → List Nat → Nat → Bool
  | nx :: rest, rev, m => match rev with
    | tm :: _ => loopI nx tm m as rev 0 1 0 && force (m + 1) fun m' => loopO as rest (nx :: rev) m'
    | [] => false
  | [], _, _ => true
theorem loopO_all : loopO (TN.drop 1) (TN.drop 2) [1] 1 = true := by decide +kernel
def ch (m : Nat) : Nat → Nat
  | 0 => 1
  | j + 1 => ch m j * (m - j) / (j + 1)
def wh (m : Nat) : Nat → Nat
  | 0 => 0
  | j + 1 => wh m j + ch m (j + 1) * Tn (1 + j) * Tn (m - j)
theorem loopI_ok {nx tm m : Nat} (hm : m ≤ 200) : ∀ (bs as : List Nat) (j : Nat), loopI nx tm m as bs j (ch m j) (wh m j) = true → bs.length + j = m → as.length ≥ bs.length → (∀ i, i < bs.length → as[i]? = some (Tn (1 + j + i))) → (∀ i, i < bs.length → bs[i]? = some (Tn (m - j - i))) → 2 * wh m m = nx + m * tm
  | [], as, j, h, hl, _, _, _ => by
    have hj : j = m := by simpa using hl
    subst hj
    have h' : Nat.beq (2 * wh j j) (nx + j * tm) = true := by cases as <;> exact h
    exact Nat.eq_of_beq_eq_true h'
  | b :: bs, [], j, h, hl, hz, _, _ => by simp at hz
  | b :: bs, a :: as, j, h, hl, hz, ha, hb => by
    rw [loopI, force_eq, force_eq, force_eq] at h
    have e1 : a = Tn (1 + j) := by simpa using ha 0 (by simp)
    have e2 : b = Tn (m - j) := by simpa using hb 0 (by simp)
    subst e1; subst e2
    refine loopI_ok hm bs as (j + 1) h (by simp at hl; omega) (by simpa using hz) (fun i hi => ?_) fun i hi => ?_
    · have := ha (i + 1) (by simp; omega)
      rw [List.getElem?_cons_succ] at this
      rw [this, show 1 + j + (i + 1) = 1 + (j + 1) + i by omega]
    · have := hb (i + 1) (by simp; omega)
      rw [List.getElem?_cons_succ] at this
      rw [this, show m - j - (i + 1) = m - (j + 1) - i by omega]
theorem loopO_ok : ∀ (rest rev : List Nat) (m : Nat), loopO (TN.drop 1) rest rev m = true → 1 ≤ m → rest = TN.drop (m + 1) → rev.length = m → (∀ i, i < m → rev[i]? = some (Tn (m - i))) → ∀ k, m ≤ k → k < 200 → 2 * wh k k = Tn (k + 1) + k * Tn k
  | [], rev, m, h, h1, hr, hl, hv, k, hk, h2 => by
    have := congrArg List.length hr
    rw [List.length_nil, List.length_drop, TN_len] at this
    omega
  | nx :: rest, [], m, h, h1, hr, hl, hv, k, hk, h2 => by simp at hl; omega
  | nx :: rest, tm :: rev, m, h, h1, hr, hl, hv, k, hk, h2 => by
    have h : (loopI nx tm m (TN.drop 1) (tm :: rev) 0 1 0 && force (m + 1) fun m' => loopO (TN.drop 1) rest (nx :: tm :: rev) m') = true := h
    rw [Bool.and_eq_true, force_eq] at h
    have lm : m + 1 ≤ 200 := by omega
    have enx : nx = Tn (m + 1) := by
      have q := TN_at lm
      have : (TN.drop (m + 1))[0]? = some nx := by rw [← hr]; rfl
      rw [List.getElem?_drop, Nat.add_zero, q] at this
      exact (Option.some.inj this).symm
    have etm : tm = Tn m := by simpa using hv 0 (by omega)
    have er : rest = TN.drop (m + 1 + 1) := by rw [← List.drop_drop, ← hr]; rfl
    by_cases hkm : k = m
    · subst hkm
      have q := loopI_ok (by omega) (tm :: rev) (TN.drop 1) 0 h.1 (by simpa using hl) (by rw [hl, List.length_drop, TN_len]; omega) (fun i hi => by
        rw [List.getElem?_drop, TN_at (by rw [hl] at hi; omega)]) fun i hi => by rw [hl] at hi; exact hv i hi
      rw [q, enx, etm]
    · refine loopO_ok rest (nx :: tm :: rev) (m + 1) h.2 (by omega) er (by simpa using hl) (fun i hi => ?_) k (by omega) h2
      cases i with
      | zero => simp [enx]
      | succ i =>
        rw [List.getElem?_cons_succ, hv i (by omega), show m + 1 - (i + 1) = m - i by omega]
theorem T_step {k : Nat} (h1 : 1 ≤ k) (h2 : k < 200) : 2 * wh k k = Tn (k + 1) + k * Tn k :=
  loopO_ok _ _ 1 loopO_all (by decide) rfl rfl (fun i hi => by
    have : i = 0 := by omega
    subst this
    have : Tn 1 = 1 := by decide +kernel
    simp [this]) k h1 h2
theorem ch_lt (m : Nat) (hm : m ≤ 200) : ∀ j, ch m j < 2 ^ (8 * j + 1)
  | 0 => by simp [ch]
  | j + 1 => by
    have ih := ch_lt m hm j
    have h1 : ch m (j + 1) ≤ ch m j * (m - j) := Nat.div_le_self _ _
    have h2 : ch m j * (m - j) ≤ ch m j * 256 := Nat.mul_le_mul_left _ (by omega)
    have h3 : 2 ^ (8 * (j + 1) + 1) = 2 ^ (8 * j + 1) * 256 := by rw [show 8 * (j + 1) + 1 = 8 * j + 1 + 8 by omega, Nat.pow_add]
    rw [h3]
    exact Nat.lt_of_le_of_lt (Nat.le_trans h1 h2) (Nat.mul_lt_mul_of_pos_right ih (by decide))
theorem mulOk_n {a b x y : Nat} (ha : a < 2 ^ x) (hb : b < 2 ^ y) (hx : 0 < x) (hy : 0 < y) (h : x + y ≤ 1000000) : mulOk (a : Int) (b : Int) = true :=
  mulOk_of (wide_mul (by simpa using ha) (by simpa using hb) hx hy h)
end DL
set_option Elab.async false
set_option linter.all false
set_option maxRecDepth 100000
set_option maxHeartbeats 1000000
namespace DL
open PySem PySem.Spec L2
open PyProof.Rows hiding St
structure Tab (TI : Nat → List Int) (T : Nat → Int) (c w : Nat → Nat → Int) : Prop where
  len : ∀ m, m ≤ 201 → (TI m).length = m
  get : ∀ k m, m ≤ 201 → k < m → (TI m)[k]? = some (T k)
  succ : ∀ m, m ≤ 200 → TI (m + 1) = TI m ++ [T m]
  two : TI 2 = [0, 1]
  c0 : ∀ m, c m 0 = 1
  w0 : ∀ m, w m 0 = 0
  cs : ∀ m j, m ≤ 199 → j < m → c m j * ((m - j : Nat) : Int) / (1 + (j : Int)) = c m (j + 1)
  ws : ∀ m j, m ≤ 199 → j < m → w m j + c m (j + 1) * T (1 + j) * T (m - j) = w m (j + 1)
  step : ∀ m, 1 ≤ m → m ≤ 199 → 2 * w m m - (m : Int) * T m = T (m + 1)
  m3 : ∀ m j, m ≤ 199 → j < m → mulOk (c m (j + 1)) (T (1 + j)) = true
  m4 : ∀ m j, m ≤ 199 → j < m → mulOk (c m (j + 1) * T (1 + j)) (T (m - j)) = true
theorem T_cast {m j : Nat} (hj : j < m) : ((m : Int) - (1 + (j : Int)) + 1) = ((m - j : Nat) : Int) := by omega
section
variable {TI : Nat → List Int} {T : Nat → Int} {ch wh : Nat → Nat → Int} (B : Tab TI T ch wh)
include B
theorem den_counts {n : Nat} (h1 : 1 ≤ n) (h2 : n ≤ 200) (ω : Om) : fnB 1 6 b_tree_counts [.val (.int n)] ω = some (.own (.list ((TI (n + 1)).map .int)), ω) := by
  have rg : gRng2 [.int 1, .int (n : Int)] = some (rngD 1 1 (n - 1)) := rng2_i (by omega) (by omega) (by omega) (by omega) (by omega)
  obtain ⟨ρ', ω', e, ⟨c2, c3, c4, c5, rfl, rfl⟩⟩ := sFor_inv (fi := iRng gRng2 (dCons (dC (.int 1)) (dCons (dVar 0) dNil))) (g := gN 2) (f := (sSeq (sAsg (dTup (dCons (dC (.int 1)) (dCons (dC (.int 0)) dNil))) (gT 2 (gsCons (gN 3) (gsCons (gN 4) gsNil))))
  (sSeq (sFor (iRng gRng2 (dCons (dC (.int 1)) (dCons (dAdd (dVar 2) (dC (.int 1))) dNil))) (gN 5)
  (sSeq (sSetV 3 (dDiv (dMul (dVar 3) (dAdd (dSub (dVar 2) (dVar 5)) (dC (.int 1)))) (dVar 5)))
  (sSetV 4 (dAdd (dVar 4) (dMul (dMul (dVar 3) (dIx (dVar 1) (dVar 5))) (dIx (dVar 1) (dAdd (dSub (dVar 2) (dVar 5)) (dC (.int 1)))))))))
  (sDrop (dMeth 1 gAppend (dCons (dSub (dMul (dC (.int 2)) (dVar 4)) (dMul (dVar 2) (dIx (dVar 1) (dVar 2)))) dNil)))))) (items := rngD 1 1 (n - 1))
    (fun i ρ ω1 => ∃ c2 c3 c4 c5, ρ = [some (.val (.int n)), some (.own (.list ((TI (i + 2)).map .int))), c2, c3, c4, c5] ∧ ω1 = ω) (ρ := [some (.val (.int n)), some (.own (.list [.int 0, .int 1])), none, none, none, none]) (ω := ω)
    (by simp [iRng, bnd, dCons, dC, ret, dVar, now, RC.get, opt, dNil, nows, rg]) ⟨none, none, none, none, by
      rw [show TI (0 + 2) = [0, 1] from B.two]; rfl, rfl⟩ (by
      rintro i d ρ ω1 hd ⟨c2, c3, c4, c5, rfl, rfl⟩
      obtain ⟨hi, rfl⟩ := rng_at hd
      -- the inner loop
      have hm : i + 1 ≤ 199 := by omega
      have em : (1 + (i : Int)) = ((i + 1 : Nat) : Int) := by omega
      rw [em]
      generalize hM : i + 1 = m at hm
      have ei : i + 2 = m + 1 := by omega
      rw [ei]
      have lT := B.len (m + 1) (by omega)
      have hT : ∀ k, k < m + 1 → atI ((TI (m + 1)).map PyData.int) (k : Int) = some (.int (T k)) := fun k hk => atI_ints (B.get _ _ (by omega) hk)
      have rg2 : gRng2 [.int 1, .int ((m : Int) + 1)] = some (rngD 1 1 m) := rng2_i (by omega) (by omega) (by omega) (by omega) (by omega)
      obtain ⟨ρ2, ω2, e2, ⟨c5', rfl, rfl⟩⟩ := sFor_inv (fi := iRng gRng2 (dCons (dC (.int 1)) (dCons (dAdd (dVar 2) (dC (.int 1))) dNil))) (g := gN 5) (f := (sSeq (sSetV 3 (dDiv (dMul (dVar 3) (dAdd (dSub (dVar 2) (dVar 5)) (dC (.int 1)))) (dVar 5)))
        (sSetV 4 (dAdd (dVar 4) (dMul (dMul (dVar 3) (dIx (dVar 1) (dVar 5))) (dIx (dVar 1) (dAdd (dSub (dVar 2) (dVar 5)) (dC (.int 1)))))))))
        (items := rngD 1 1 m) (fun j ρ ωj => ∃ c5, ρ = [some (.val (.int n)), some (.own (.list ((TI (m + 1)).map .int))), some (.val (.int m)), some (.val (.int (ch m j))), some (.val (.int (wh m j))), c5] ∧ ωj = ω1)
        (ρ := [some (.val (.int n)), some (.own (.list ((TI (m + 1)).map .int))), some (.val (.int m)), some (.val (.int 1)), some (.val (.int 0)), c5]) (ω := ω1)
        (by simp [iRng, bnd, dCons, dC, ret, dVar, now, RC.get, opt, dNil, nows, dAdd, dOp, gAdd, rg2]) ⟨c5, by rw [B.c0, B.w0], rfl⟩ (by
          rintro j d ρ ω3 hd ⟨c5, rfl, rfl⟩
          obtain ⟨hj, rfl⟩ := rng_at hd
          have ej : (1 + (j : Int)) = ((1 + j : Nat) : Int) := by omega
          have t1 : mulOk (ch m j) ((m - j : Nat) : Int) = true := mulOk_r (by omega)
          have t2 : ∀ x, divOk x (1 + (j : Int)) = true := fun x => divOk_s (by omega) (by omega)
          have ec := B.cs m j (by omega) hj
          have t3 := B.m3 m j (by omega) hj
          have t4 := B.m4 m j (by omega) hj
          have g1 := hT (1 + j) (by omega)
          rw [← ej] at g1
          have g2 := hT (m - j) (by omega)
          have ew := B.ws m j (by omega) hj
          refine ⟨[some (.val (.int n)), some (.own (.list ((TI (m + 1)).map .int))), some (.val (.int m)), some (.val (.int (ch m (j + 1)))), some (.val (.int (wh m (j + 1)))), some (.val (.int (1 + (j : Int))))], ω3, ?_, _, rfl, rfl⟩
          simp [sSeq, bnd, ret, opt, now, RC.get, dVar, dC, dAdd, dSub, dMul, dMod, dDiv, dOp, gAdd, gMul, gI, gI0, sSet, sSetV, sAsg, sDrop, gN, gT, gsCons, gsNil, putC, cellOf, cellOfV, dCall, nows, gInt, gSum, gLen, dCons, dNil, dLst, dTup, escs, esc, sRet, nowCell, retCell, iRng, gRng1, gRng2, dIx, gIx, dMeth, ownAt, putOwn, isLst, gAppend, sIf, dBool, boolOf, sNx, T_cast hj, t1, t2, ec, g1, g2, t3, t4, ew])
      rw [rng_len] at e2
      have v := B.step m (by omega) (by omega)
      have g3 := hT m (by omega)
      have u1 : mulOk 2 (wh m m) = true := mulOk_l (by decide)
      have u2 : mulOk (m : Int) (T m) = true := mulOk_l (by omega)
      have u3 : lenOk (m + 1 + 1) = true := lenOk_of (by omega)
      have u4 : lenOk 2 = true := by decide +kernel
      refine ⟨[some (.val (.int n)), some (.own (.list ((TI (m + 2)).map .int))), some (.val (.int m)), some (.val (.int (ch m m))), some (.val (.int (wh m m))), c5'], _, ?_, _, _, _, _, rfl, rfl⟩
      refine (bnd_gN rfl).trans ?_
      refine (sSeq_nx (ρ' := [some (.val (.int n)), some (.own (.list ((TI (m + 1)).map .int))), some (.val (.int m)), some (.val (.int 1)), some (.val (.int 0)), c5]) (by simp [sSeq, bnd, ret, opt, now, RC.get, dVar, dC, dAdd, dSub, dMul, dMod, dDiv, dOp, gAdd, gMul, gI, gI0, sSet, sSetV, sAsg, sDrop, gN, gT, gsCons, gsNil, putC, cellOf, cellOfV, dCall, nows, gInt, gSum, gLen, dCons, dNil, dLst, dTup, escs, esc, sRet, nowCell, retCell, iRng, gRng1, gRng2, dIx, gIx, dMeth, ownAt, putOwn, isLst, gAppend, sIf, dBool, boolOf, sNx, u4])).trans ((sSeq_nx e2).trans ?_)
      simp [sSeq, bnd, ret, opt, now, RC.get, dVar, dC, dAdd, dSub, dMul, dMod, dDiv, dOp, gAdd, gMul, gI, gI0, sSet, sSetV, sAsg, sDrop, gN, gT, gsCons, gsNil, putC, cellOf, cellOfV, dCall, nows, gInt, gSum, gLen, dCons, dNil, dLst, dTup, escs, esc, sRet, nowCell, retCell, iRng, gRng1, gRng2, dIx, gIx, dMeth, ownAt, putOwn, isLst, gAppend, sIf, dBool, boolOf, sNx, g3, u1, u2, v, lT, u3, B.succ (m + 1) (by omega)])
  rw [rng_len] at e
  have u2 : lenOk 2 = true := by decide +kernel
  refine fnB_rt rfl (ρ' := [some (.val (.int n)), some (.own (.list ((TI (n + 1)).map .int))), c2, c3, c4, c5]) ?_
  unfold b_tree_counts
  refine (sSeq_nx (ρ' := [some (.val (.int n)), some (.own (.list [.int 0, .int 1])), none, none, none, none]) (by simp [sSeq, bnd, ret, opt, now, RC.get, dVar, dC, dAdd, dSub, dMul, dMod, dDiv, dOp, gAdd, gMul, gI, gI0, sSet, sSetV, sAsg, sDrop, gN, gT, gsCons, gsNil, putC, cellOf, cellOfV, dCall, nows, gInt, gSum, gLen, dCons, dNil, dLst, dTup, escs, esc, sRet, nowCell, retCell, iRng, gRng1, gRng2, dIx, gIx, dMeth, ownAt, putOwn, isLst, gAppend, sIf, dBool, boolOf, sNx, padE, u2])).trans ((sSeq_nx e).trans ?_)
  rw [show n - 1 + 2 = n + 1 by omega]
  simp [sSeq, bnd, ret, opt, now, RC.get, dVar, dC, dAdd, dSub, dMul, dMod, dDiv, dOp, gAdd, gMul, gI, gI0, sSet, sSetV, sAsg, sDrop, gN, gT, gsCons, gsNil, putC, cellOf, cellOfV, dCall, nows, gInt, gSum, gLen, dCons, dNil, dLst, dTup, escs, esc, sRet, nowCell, retCell, iRng, gRng1, gRng2, dIx, gIx, dMeth, ownAt, putOwn, isLst, gAppend, sIf, dBool, boolOf, sNx]
end
theorem den_tree {Φ : Fn} {n : Nat} {L : List PyData} {v : PyData} (h : ∀ ω, Φ [.val (.int n)] ω = some (.own (.list L), ω)) (g : atI L (n : Int) = some v) (ω : Om) : fnB 1 1 (b_tree_count Φ) [.val (.int n)] ω = some (.val v, ω) := by
  refine fnB_rt rfl (ρ' := [some (.val (.int n))]) ?_
  simp [b_tree_count, sSeq, bnd, ret, opt, now, RC.get, dVar, dC, dAdd, dSub, dMul, dMod, dDiv, dOp, gAdd, gMul, gI, gI0, sSet, sSetV, sAsg, sDrop, gN, gT, gsCons, gsNil, putC, cellOf, cellOfV, dCall, nows, gInt, gSum, gLen, dCons, dNil, dLst, dTup, escs, esc, sRet, nowCell, retCell, iRng, gRng1, gRng2, dIx, gIx, dMeth, ownAt, putOwn, isLst, gAppend, sIf, dBool, boolOf, sNx, padE, dCallF, callF, argsOf, argOf, useF, h, g]
end DL
set_option Elab.async false
set_option linter.all false
set_option maxRecDepth 100000
set_option maxHeartbeats 1000000
namespace DL
open PySem PySem.Spec L2
open PyProof.Rows hiding St
def TI (m : Nat) : List Int := (TN.take m).map fun (x : Nat) => (x : Int)
theorem pow_mul_lt {a b x y : Nat} (h1 : a < 2 ^ x) (h2 : b < 2 ^ y) : a * b < 2 ^ (x + y) := by
  rw [Nat.pow_add]
  exact Nat.mul_lt_mul'' h1 h2
theorem tab : Tab TI T (fun m j => (ch m j : Int)) (fun m j => (wh m j : Int)) where
  len := fun m h => by simp [TI, TN_len]; omega
  get := fun k m h hk => by
    simp only [TI, List.getElem?_map, List.getElem?_take_of_lt hk, TN_at (show k ≤ 200 by omega)]
    rfl
  succ := fun m h => by
    simp only [TI, List.take_add_one, TN_at h, List.map_append]
    rfl
  two := by decide +kernel
  c0 := fun m => rfl
  w0 := fun m => rfl
  cs := fun m j hm hj => by
    rw [show (1 + (j : Int)) = ((j + 1 : Nat) : Int) by omega, ← Int.natCast_mul, ← Int.natCast_ediv]
    rfl
  ws := fun m j hm hj => by
    show _ = ((wh m j + ch m (j + 1) * Tn (1 + j) * Tn (m - j) : Nat) : Int)
    simp [T]
  step := fun m h1 h2 => by
    have st := T_step (k := m) h1 (by omega)
    have : ((2 * wh m m : Nat) : Int) = ((Tn (m + 1) + m * Tn m : Nat) : Int) := congrArg _ st
    rw [Int.natCast_mul, Int.natCast_add, Int.natCast_mul] at this
    show 2 * ((wh m m : Nat) : Int) - (m : Int) * (Tn m : Int) = (Tn (m + 1) : Int)
    have t2 : ((2 : Nat) : Int) = 2 := rfl
    rw [t2] at this
    omega
  m3 := fun m j hm hj => mulOk_n (ch_lt m (by omega) (j + 1)) (Tn_lt (k := 1 + j) (by omega)) (by omega) (by omega) (by omega)
  m4 := fun m j hm hj => by
    have e : ((ch m (j + 1) : Nat) : Int) * T (1 + j) = ((ch m (j + 1) * Tn (1 + j) : Nat) : Int) := (Int.natCast_mul _ _).symm
    rw [e]
    exact mulOk_n (pow_mul_lt (ch_lt m (by omega) (j + 1)) (Tn_lt (k := 1 + j) (by omega))) (Tn_lt (k := m - j) (by omega)) (by omega) (by omega) (by omega)
abbrev fTree : Fn := fnB 1 1 (b_tree_count (fnB 1 6 b_tree_counts))
theorem tree_at {n : Nat} (h1 : 1 ≤ n) (h2 : n ≤ 200) (ω : Om) : fTree [.val (.int n)] ω = some (.val (.int (T n)), ω) :=
  den_tree (fun ω => den_counts tab h1 h2 ω) (atI_ints (tab.get n (n + 1) (by omega) (by omega))) ω
end DL
set_option Elab.async false
set_option linter.all false
set_option maxRecDepth 100000
set_option maxHeartbeats 1000000
namespace DL
open PySem PySem.Spec L2
open PyProof.Rows hiding St
/-- a comprehension over a range -/
theorem compL_rng {j : Nat} {fe : M RC} (φ : Nat → PyData) {ρ : Env'} (lo : Int) (hj : Nat.ble (j + 1) ρ.length = true) (hρ : ρ.set j none = ρ) : ∀ (l : List Nat) (acc : List PyData) (ω : Om),
    (∀ k ∈ l, ∀ ω, fe (ρ.set j (some (.val (.int (lo + (k : Int) * 1))))) ω = some (.val (φ k), ρ.set j (some (.val (.int (lo + (k : Int) * 1)))), ω)) →
    compL (gN j) tYesD fe [j] (l.map fun (i : Nat) => .int (lo + (i : Int) * 1)) acc ρ ω = some (acc.reverse ++ l.map φ, ρ, ω)
  | [], acc, ω, _ => by simp [compL, ret]
  | k :: l, acc, ω, h => by
    have wp : wipeE (ρ.set j (some (.val (.int (lo + (k : Int) * 1))))) [j] = ρ := by simp [wipeE, hρ]
    rw [List.map_cons, compL]
    have h1 := h k (List.mem_cons_self) ω
    have ih := compL_rng φ lo hj hρ l (φ k :: acc) ω fun k' hk => h k' (List.mem_cons_of_mem _ hk)
    simp only [Int.mul_one] at h1 ih wp ⊢
    have ty : ∀ (ρ : Env') (ω : Om), tYesD ρ ω = some (true, ρ, ω) := fun _ _ => rfl
    simp [bnd, gN, putC, hj, ty, h1, opt, esc, wipeM, wp, ih]
theorem dLc_rng {j : Nat} {fi : M Its} {fe : M RC} (φ : Nat → PyData) {ρ : Env'} {ω : Om} {lo : Int} {n : Nat} (hi : fi ρ ω = some (⟨none, rngD lo 1 n⟩, ρ, ω)) (hn : lenOk n = true) (hj : Nat.ble (j + 1) ρ.length = true) (ho : mayWipe ρ [j] = true)
    (h : ∀ k < n, ∀ ω, fe ((ρ.set j none).set j (some (.val (.int (lo + (k : Int) * 1))))) ω = some (.val (φ k), (ρ.set j none).set j (some (.val (.int (lo + (k : Int) * 1)))), ω)) :
    dLc [j] fi (gN j) tYesD fe ρ ω = some (.own (.list ((List.range n).map φ)), (ρ.set j none).set j ((ρ[j]?).getD none), ω) := by
  have key := compL_rng (j := j) (fe := fe) φ (ρ := ρ.set j none) lo (by simpa using hj) (by simp) (List.range n) [] ω fun k hk ω => h k (List.mem_range.mp hk) ω
  rw [List.reverse_nil, List.nil_append] at key
  have e : (List.map (fun (i : Nat) => PyData.int (lo + (i : Int) * 1)) (List.range n)) = rngD lo 1 n := rfl
  rw [e] at key
  simp [dLc, bnd, hi, rng_len, hn, lockM, mayLock, lockAt, getE, ho, wipeM, wipeE, key, backM, backE, freeM, freeAt, ret]
structure Rws (R : Nat → List Int) (T F : Nat → Int) : Prop where
  r0 : R 0 = [1]
  len : ∀ m, (R m).length = m + 1
  el : ∀ i k : Nat, i < 60 → k < i + 2 → ∃ a b v : Int, (R i ++ [0])[k]? = some a ∧ ([0] ++ R i)[k]? = some b ∧ (R (i + 1))[k]? = some v ∧ (k : Int) * a + ((1 + (i : Int)) + (k : Int) - 1) * b = v
  sum : ∀ i, i < 60 → (R (i + 1)).sum = T (i + 2)
  last : ∀ i, i < 60 → (R (i + 1))[i + 1]? = some (F (i + 2))
def KD (T F : Nat → Int) (m : Nat) : List PyData := (List.range m).map fun j => .tuple [.int (T j), .int (F j)]
theorem sum_ints (L : List Int) : gSum [.list (L.map .int)] = some (.val (.int L.sum)) := by simp [gSum, intsOf_map]
section
variable {R : Nat → List Int} {T F : Nat → Int} (B : Rws R T F)
include B
theorem den_known (hk2 : KD T F 2 = [.tuple [.int 0, .int 0], .tuple [.int 1, .int 1]]) {n : Nat} (h1 : 1 ≤ n) (h2 : n ≤ 60) (ω : Om) : fnB 1 7 b_law_known [.val (.int n)] ω = some (.own (.list (KD T F (n + 1))), ω) := by
  have rg : gRng2 [.int 1, .int (n : Int)] = some (rngD 1 1 (n - 1)) := rng2_i (by omega) (by omega) (by omega) (by omega) (by omega)
  obtain ⟨ρ', ω', e, ⟨c1, c3, c4, c5, hc, rfl, hω⟩⟩ := sFor_inv (fi := iRng gRng2 (dCons (dC (.int 1)) (dCons (dVar 0) dNil))) (g := gN 3) (f := (sSeq (sAsg (dTup (dCons (dAdd (dVar 1) (dLst (dCons (dC (.int 0)) dNil))) (dCons (dAdd (dLst (dCons (dC (.int 0)) dNil)) (dVar 1)) dNil))) (gT 2 (gsCons (gN 4) (gsCons (gN 5) gsNil))))
  (sSeq (sSetV 1 (dLc [6] (iRng gRng1 (dCons (dAdd (dVar 3) (dC (.int 1))) dNil)) (gN 6) tYesD (dAdd (dMul (dVar 6) (dIx (dVar 4) (dVar 6))) (dMul (dSub (dAdd (dVar 3) (dVar 6)) (dC (.int 1))) (dIx (dVar 5) (dVar 6))))))
  (sDrop (dMeth 2 gAppend (dCons (dTup (dCons (dCall gSum (dCons (dVar 1) dNil)) (dCons (dIx (dVar 1) (dVar 3)) dNil))) dNil)))))) (items := rngD 1 1 (n - 1))
    (fun i ρ ω1 => ∃ c1 c3 c4 c5, (c1 = some (.val (.list ((R i).map .int))) ∨ c1 = some (.own (.list ((R i).map .int)))) ∧ ρ = [some (.val (.int n)), c1, some (.own (.list (KD T F (i + 2)))), c3, c4, c5, none] ∧ ω1 = ω) (ρ := [some (.val (.int n)), some (.own (.list [.int 1])), some (.own (.list [.tuple [.int 0, .int 0], .tuple [.int 1, .int 1]])), none, none, none, none]) (ω := ω)
    (by simp [iRng, bnd, dCons, dC, ret, dVar, now, RC.get, opt, dNil, nows, rg]) ⟨_, none, none, none, .inr rfl, by rw [B.r0, hk2]; rfl, rfl⟩ (by
      rintro i d ρ ω1 hd ⟨c1, c3, c4, c5, hc, rfl, hω⟩
      obtain ⟨hi, rfl⟩ := rng_at hd
      have lR := B.len i
      have lR1 := B.len (i + 1)
      have u1 : lenOk (i + 1 + 1) = true := lenOk_of (by omega)
      have u1' : lenOk 1 = true := by decide +kernel
      have u2 : lenOk 2 = true := by decide +kernel
      have u3 : lenOk (i + 2) = true := lenOk_of (by omega)
      have u4 : lenOk (i + 2 + 1) = true := lenOk_of (by omega)
      have rg2 : gRng1 [.int (1 + (i : Int) + 1)] = some (rngD 0 1 (i + 2)) := rng1_i (by omega) (by omega) (by omega)
      let W : List PyData := (R i ++ [0]).map .int
      let L : List PyData := ([0] ++ R i).map .int
      have eW : (R i).map PyData.int ++ [.int 0] = W := by simp [W]
      have eL : PyData.int 0 :: (R i).map PyData.int = L := by simp [L]
      -- the row
      have row := dLc_rng (j := 6) (fi := iRng gRng1 (dCons (dAdd (dVar 3) (dC (.int 1))) dNil)) (fe := dAdd (dMul (dVar 6) (dIx (dVar 4) (dVar 6))) (dMul (dSub (dAdd (dVar 3) (dVar 6)) (dC (.int 1))) (dIx (dVar 5) (dVar 6))))
        (φ := fun k => .int (((R (i + 1))[k]?).getD 0)) (ρ := [some (.val (.int n)), c1, some (.own (.list (KD T F (i + 2)))), some (.val (.int (1 + (i : Int)))), some (.val (.list W)), some (.val (.list L)), none]) (ω := ω1) (lo := 0) (n := i + 2)
        (by simp [iRng, bnd, dCons, dC, ret, dVar, now, RC.get, opt, dNil, nows, dAdd, dOp, gAdd, rg2]) u3 rfl rfl (fun k hk ω2 => by
          obtain ⟨a, b, v, ha, hb, hv, e⟩ := B.el i k (by omega) hk
          have g1 : atI W (k : Int) = some (.int a) := atI_ints ha
          have g2 : atI L (k : Int) = some (.int b) := atI_ints hb
          have t1 : mulOk (k : Int) a = true := mulOk_l (by omega)
          have t2 : mulOk (1 + (i : Int) + (k : Int) - 1) b = true := mulOk_l (by omega)
          rw [show (0 + (k : Int) * 1) = (k : Int) by omega]
          simp [sSeq, bnd, ret, opt, now, RC.get, dVar, dC, dAdd, dSub, dMul, dMod, dDiv, dOp, gAdd, gMul, gI, gI0, sSet, sSetV, sAsg, sDrop, gN, gT, gsCons, gsNil, putC, cellOf, cellOfV, dCall, nows, gInt, gSum, gLen, dCons, dNil, dLst, dTup, escs, esc, sRet, nowCell, retCell, iRng, gRng1, gRng2, dIx, gIx, dMeth, ownAt, putOwn, isLst, gAppend, sIf, dBool, boolOf, sNx, g1, g2, t1, t2, e, hv])
      have eR : (List.range (i + 2)).map (fun k => PyData.int (((R (i + 1))[k]?).getD 0)) = (R (i + 1)).map PyData.int := by
        refine List.ext_getElem? fun k => ?_
        rw [List.getElem?_map, List.getElem?_map]
        by_cases hk : k < i + 2
        · rw [List.getElem?_range hk]
          have : k < (R (i + 1)).length := by omega
          simp [List.getElem?_eq_getElem this]
        · rw [List.getElem?_eq_none (by simp; omega), List.getElem?_eq_none (by omega)]; rfl
      rw [eR] at row
      have g3 : atI ((R (i + 1)).map PyData.int) (1 + (i : Int)) = some (.int (F (i + 2))) := by
        rw [show (1 + (i : Int)) = ((i + 1 : Nat) : Int) by omega]
        exact atI_ints (B.last i (by omega))
      have sm := sum_ints (R (i + 1))
      rw [B.sum i (by omega)] at sm
      have lK : (KD T F (i + 2)).length = i + 2 := by simp [KD]
      have sK : KD T F (i + 1 + 2) = KD T F (i + 2) ++ [.tuple [.int (T (i + 2)), .int (F (i + 2))]] := by
        simp only [KD, show i + 1 + 2 = (i + 2) + 1 by omega, List.range_succ, List.map_append]
        rfl
      refine ⟨[some (.val (.int n)), some (.val (.list ((R (i + 1)).map .int))), some (.own (.list (KD T F (i + 1 + 2)))), some (.val (.int (1 + (i : Int)))), some (.val (.list W)), some (.val (.list L)), none], ω1, ?_, _, _, _, _, .inl rfl, rfl, hω⟩
      refine (bnd_gN rfl).trans ?_
      refine (sSeq_nx (ω' := ω1) (ρ' := [some (.val (.int n)), c1, some (.own (.list (KD T F (i + 2)))), some (.val (.int (1 + (i : Int)))), some (.val (.list W)), some (.val (.list L)), none]) (by
        have lR' : lenOk (1 + (i + 1)) = true := by rw [Nat.add_comm]; exact u1
        rcases hc with rfl | rfl <;> simp [sSeq, bnd, ret, opt, now, RC.get, dVar, dC, dAdd, dSub, dMul, dMod, dDiv, dOp, gAdd, gMul, gI, gI0, sSet, sSetV, sAsg, sDrop, gN, gT, gsCons, gsNil, putC, cellOf, cellOfV, dCall, nows, gInt, gSum, gLen, dCons, dNil, dLst, dTup, escs, esc, sRet, nowCell, retCell, iRng, gRng1, gRng2, dIx, gIx, dMeth, ownAt, putOwn, isLst, gAppend, sIf, dBool, boolOf, sNx, u1', u2, lR, u1, lR', eW, eL]
        )).trans ?_
      refine (sSeq_nx (ω' := ω1) (ρ' := [some (.val (.int n)), some (.val (.list ((R (i + 1)).map .int))), some (.own (.list (KD T F (i + 2)))), some (.val (.int (1 + (i : Int)))), some (.val (.list W)), some (.val (.list L)), none]) (by
        simp [sSetV, bnd, row, opt, cellOfV, putC, ret])).trans ?_
      rw [sK]
      clear_value W L
      simp only [gSum] at sm
      simp [sSeq, bnd, ret, opt, now, RC.get, dVar, dC, dAdd, dSub, dMul, dMod, dDiv, dOp, gAdd, gMul, gI, gI0, sSet, sSetV, sAsg, sDrop, gN, gT, gsCons, gsNil, putC, cellOf, cellOfV, dCall, nows, gInt, gSum, gLen, dCons, dNil, dLst, dTup, escs, esc, sRet, nowCell, retCell, iRng, gRng1, gRng2, dIx, gIx, dMeth, ownAt, putOwn, isLst, gAppend, sIf, dBool, boolOf, sNx, sm, g3, lK, u2, u4])
  rw [rng_len] at e
  have u2 : lenOk 2 = true := by decide +kernel
  have u1' : lenOk 1 = true := by decide +kernel
  refine fnB_rt rfl (ρ' := [some (.val (.int n)), c1, some (.own (.list (KD T F (n + 1)))), c3, c4, c5, none]) ?_
  unfold b_law_known
  subst hω
  rw [show n - 1 + 2 = n + 1 by omega] at e
  refine (sSeq_nx (ρ' := [some (.val (.int n)), some (.own (.list [.int 1])), some (.own (.list [.tuple [.int 0, .int 0], .tuple [.int 1, .int 1]])), none, none, none, none]) (by simp [sSeq, bnd, ret, opt, now, RC.get, dVar, dC, dAdd, dSub, dMul, dMod, dDiv, dOp, gAdd, gMul, gI, gI0, sSet, sSetV, sAsg, sDrop, gN, gT, gsCons, gsNil, putC, cellOf, cellOfV, dCall, nows, gInt, gSum, gLen, dCons, dNil, dLst, dTup, escs, esc, sRet, nowCell, retCell, iRng, gRng1, gRng2, dIx, gIx, dMeth, ownAt, putOwn, isLst, gAppend, sIf, dBool, boolOf, sNx, sPar2, nsM, noSrc, padE, u2, u1'])).trans ((sSeq_nx e).trans ?_)
  simp [sSeq, bnd, ret, opt, now, RC.get, dVar, dC, dAdd, dSub, dMul, dMod, dDiv, dOp, gAdd, gMul, gI, gI0, sSet, sSetV, sAsg, sDrop, gN, gT, gsCons, gsNil, putC, cellOf, cellOfV, dCall, nows, gInt, gSum, gLen, dCons, dNil, dLst, dTup, escs, esc, sRet, nowCell, retCell, iRng, gRng1, gRng2, dIx, gIx, dMeth, ownAt, putOwn, isLst, gAppend, sIf, dBool, boolOf, sNx]
end
end DL
set_option Elab.async false
set_option linter.all false
set_option maxRecDepth 100000
set_option maxHeartbeats 1000000
namespace DL
open PySem PySem.Spec L2
open PyProof.Rows hiding St
def nxt (i : Nat) (r : List Nat) : List Nat := (List.range (i + 2)).map fun k => k * (r ++ [0]).getD k 0 + (i + k) * (0 :: r).getD k 0
def Rn : Nat → List Nat
  | 0 => [1]
  | i + 1 => nxt i (Rn i)
def fn : Nat → Nat
  | 0 => 1
  | 1 => 1
  | n + 2 => fn (n + 1) * (2 * n + 1)
theorem fk_fn : ∀ n, fk n = (fn n : Int)
  | 0 => rfl
  | 1 => rfl
  | n + 2 => by
    show fk (n + 1) * (2 * (n : Int) + 1) = ((fn (n + 1) * (2 * n + 1) : Nat) : Int)
    rw [fk_fn (n + 1), Int.natCast_mul]
    rfl
/-- strictly built -/
def bld (i : Nat) : List Nat → List Nat → Nat → (List Nat → Bool) → Bool
  | a :: w, b :: l, k, c => force (k * a + (i + k) * b) fun v => force (k + 1) fun k' => bld i w l k' fun r => c (v :: r)
  | _, _, _, c => c []
def sumF : List Nat → Nat → Nat → Nat → Bool
  | [], acc, t, _ => Nat.beq acc t
  | a :: r, acc, t, l => force (acc + a) fun acc' => sumF r acc' t l
def lastF : List Nat → Nat → Bool
  | [], _ => false
  | [a], f => Nat.beq a f
  | _ :: r, f => lastF r f
def loopR : Nat → Nat → Nat → List Nat → List Nat → Bool
  | 0, _, _, _, _ => true
  | fuel + 1, i, f, row, t :: ts => bld i (row ++ [0]) (0 :: row) 0 fun r => force (f * (2 * i + 1)) fun f' => sumF r 0 t 0 && lastF r f' && force (i + 1) fun i' => loopR fuel i' f' r ts
  | _, _, _, _, [] => false
theorem loopR_all : loopR 60 0 1 [1] (TN.drop 2) = true := by decide +kernel
theorem bld_eq (i : Nat) : ∀ (w l : List Nat) (k : Nat) (c : List Nat → Bool), w.length = l.length → bld i w l k c = c ((List.range w.length).map fun j => (k + j) * w.getD j 0 + (i + (k + j)) * l.getD j 0)
  | [], [], k, c, _ => rfl
  | a :: w, b :: l, k, c, h => by
    rw [bld, force_eq, force_eq, bld_eq i w l (k + 1) _ (by simpa using h)]
    congr 1
    rw [List.length_cons, List.range_succ_eq_map, List.map_cons, List.map_map]
    congr 1
    refine List.map_congr_left fun j _ => ?_
    simp only [Function.comp, List.getD_cons_succ]
    rw [show k + (j + 1) = k + 1 + j by omega]
  | [], b :: l, k, c, h => by simp at h
  | a :: w, [], k, c, h => by simp at h
theorem sumF_eq : ∀ (r : List Nat) (acc t l : Nat), sumF r acc t l = true → acc + r.sum = t
  | [], acc, t, l, h => by simpa using Nat.eq_of_beq_eq_true h
  | a :: r, acc, t, l, h => by
    rw [sumF, force_eq] at h
    have := sumF_eq r _ t l h
    rw [List.sum_cons]; omega
theorem lastF_eq : ∀ (r : List Nat) (f : Nat), lastF r f = true → r[r.length - 1]? = some f
  | [], f, h => by cases h
  | [a], f, h => by simpa using Nat.eq_of_beq_eq_true h
  | a :: b :: r, f, h => by
    have := lastF_eq (b :: r) f h
    simpa using this
theorem Rn_len : ∀ m, (Rn m).length = m + 1
  | 0 => rfl
  | m + 1 => by simp [Rn, nxt]
theorem loopR_ok : ∀ (fuel i : Nat), loopR fuel i (fn (i + 1)) (Rn i) (TN.drop (i + 2)) = true → ∀ k, i ≤ k → k < i + fuel → k + 2 ≤ 200 → (Rn (k + 1)).sum = Tn (k + 2) ∧ (Rn (k + 1))[k + 1]? = some (fn (k + 2))
  | 0, i, h, k, h1, h2, _ => by omega
  | fuel + 1, i, h, k, h1, h2, h3 => by
    have hd : TN.drop (i + 2) = Tn (i + 2) :: TN.drop (i + 2 + 1) := by
      have hl : i + 2 < TN.length := by rw [TN_len]; omega
      rw [List.drop_eq_getElem_cons hl]
      congr 1
      have := TN_at (k := i + 2) (by omega)
      rw [List.getElem?_eq_getElem hl] at this
      exact Option.some.inj this
    rw [hd, loopR, bld_eq _ _ _ _ _ (by simp)] at h
    have er : ((List.range (Rn i ++ [0]).length).map fun j => (0 + j) * (Rn i ++ [0]).getD j 0 + (i + (0 + j)) * (0 :: Rn i).getD j 0) = Rn (i + 1) := by
      rw [List.length_append, Rn_len, Rn, nxt]
      refine List.map_congr_left fun j _ => ?_
      rw [Nat.zero_add]
    rw [er, force_eq, force_eq, Bool.and_eq_true, Bool.and_eq_true] at h
    by_cases hk : k = i
    · subst hk
      have e1 := sumF_eq _ _ _ _ h.1.1
      have e2 := lastF_eq _ _ h.1.2
      rw [Rn_len] at e2
      refine ⟨by omega, ?_⟩
      rw [show k + 1 + 1 - 1 = k + 1 by omega] at e2
      exact e2
    · exact loopR_ok fuel (i + 1) h.2 k (by omega) (by omega) h3
def R (m : Nat) : List Int := (Rn m).map fun (x : Nat) => (x : Int)
theorem sum_cast : ∀ l : List Nat, (l.map fun (x : Nat) => (x : Int)).sum = (l.sum : Int)
  | [] => rfl
  | a :: l => by simp [sum_cast l]
def Fk : Nat → Int
  | 0 => 0
  | n + 1 => fk (n + 1)
theorem rws : Rws R T Fk where
  r0 := rfl
  len := fun m => by simp [R, Rn_len]
  el := fun i k hi hk => by
    have l1 := Rn_len i
    have hw : k < (Rn i ++ [0]).length := by rw [List.length_append, l1]; exact hk
    have hl : k < (0 :: Rn i).length := by rw [List.length_cons, l1]; exact hk
    refine ⟨(((Rn i ++ [0]).getD k 0 : Nat) : Int), (((0 :: Rn i).getD k 0 : Nat) : Int), ((k * (Rn i ++ [0]).getD k 0 + (i + k) * (0 :: Rn i).getD k 0 : Nat) : Int), ?_, ?_, ?_, ?_⟩
    · have : R i ++ [0] = (Rn i ++ [0]).map fun (x : Nat) => (x : Int) := by simp [R]
      rw [this, List.getElem?_map, List.getElem?_eq_getElem hw, List.getD_eq_getElem?_getD, List.getElem?_eq_getElem hw]
      rfl
    · have : [0] ++ R i = (0 :: Rn i).map fun (x : Nat) => (x : Int) := by simp [R]
      rw [this, List.getElem?_map, List.getElem?_eq_getElem hl, List.getD_eq_getElem?_getD, List.getElem?_eq_getElem hl]
      rfl
    · simp only [R, Rn, nxt, List.getElem?_map, List.getElem?_range hk]
      rfl
    · rw [Int.natCast_add, Int.natCast_mul, Int.natCast_mul, Int.natCast_add]
      congr 2
      omega
  sum := fun i hi => by
    have := (loopR_ok 60 0 loopR_all i (by omega) (by omega) (by omega)).1
    rw [R, sum_cast, this]
    rfl
  last := fun i hi => by
    have := (loopR_ok 60 0 loopR_all i (by omega) (by omega) (by omega)).2
    rw [R, List.getElem?_map, this]
    show some ((fn (i + 2) : Nat) : Int) = some (fk (i + 2))
    rw [fk_fn]
theorem known_at {n : Nat} (h1 : 1 ≤ n) (h2 : n ≤ 60) (ω : Om) : fnB 1 7 b_law_known [.val (.int n)] ω = some (.own (.list (KD T Fk (n + 1))), ω) :=
  den_known rws (by
    have : T 0 = 0 ∧ T 1 = 1 := by decide +kernel
    show [PyData.tuple [.int (T 0), .int (Fk 0)], .tuple [.int (T 1), .int (Fk 1)]] = _
    rw [this.1, this.2]
    rfl) h1 h2 ω
end DL
set_option Elab.async false
set_option linter.all false
set_option maxRecDepth 100000
set_option maxHeartbeats 1000000
namespace DL
open PySem PySem.Spec L2
open PyProof.Rows hiding St
def hs (w : Nat) : Nat → Nat
  | 0 => 0
  | h + 1 => hs w h + ch w (h + 1) * Tn (h + 1) * Tn (w - (h + 1))
/-- half a row of the great recurrence -/
def loopG (w tw tv : Nat) : Nat → List Nat → List Nat → Nat → Nat → Nat → Bool
  | h + 1, a :: as, b :: bs, j, c, s => force (s + c * a * b) fun s' => force (c * (w - j) / (j + 1)) fun c' => force (j + 1) fun j' => Nat.beq (c' * j') (c * (w - j)) && loopG w tw tv h as bs j' c' s'
  | 0, a :: _, _, _, c, s => Nat.beq (2 * s + (if Nat.beq (w % 2) 0 then c * a * a else 0)) (tw + (w - 1) * tv)
  | _, _, _, _, _, _ => false
def loopW (as : List Nat) : List Nat → List Nat → Nat → Bool
  | nx :: rest, rev, w => match rev with
    | tv :: _ => loopG w nx tv ((w - 1) / 2) as rev 1 w 0 && force (w + 1) fun w' => loopW as rest (nx :: rev) w'
    | [] => false
  | [], _, _ => true
theorem loopW_all : loopW (TN.drop 1) (TN.drop 2) [1] 2 = true := by decide +kernel
theorem loopG_ok {w tw tv : Nat} (hw : w ≤ 200) (h0 : (w - 1) / 2 < w) : ∀ (h : Nat) (as bs : List Nat) (j : Nat), loopG w tw tv h as bs (j + 1) (ch w (j + 1)) (hs w j) = true → h + j = (w - 1) / 2 →
    (∀ i, i < as.length → as[i]? = some (Tn (j + 1 + i))) → (∀ i, i < bs.length → bs[i]? = some (Tn (w - (j + 1) - i))) →
    2 * hs w ((w - 1) / 2) + (if w % 2 = 0 then ch w ((w - 1) / 2 + 1) * Tn ((w - 1) / 2 + 1) * Tn ((w - 1) / 2 + 1) else 0) = tw + (w - 1) * tv ∧ ∀ i, j + 1 ≤ i → i ≤ (w - 1) / 2 → ch w (i + 1) * (i + 1) = ch w i * (w - i)
  | 0, [], bs, j, h, hl, ha, hb => by cases h
  | 0, a :: as, bs, j, h, hl, ha, hb => by
    have ea : a = Tn (j + 1) := by simpa using ha 0 (by simp)
    have hj : j = (w - 1) / 2 := by omega
    have h' : Nat.beq (2 * hs w j + (if Nat.beq (w % 2) 0 then ch w (j + 1) * a * a else 0)) (tw + (w - 1) * tv) = true := by cases bs <;> exact h
    have e := Nat.eq_of_beq_eq_true h'
    subst ea
    rw [hj] at e
    refine ⟨?_, fun i h1 h2 => by omega⟩
    rw [← e]
    by_cases hp : w % 2 = 0
    · simp [hp]
    · have : Nat.beq (w % 2) 0 = false := by
        cases q : Nat.beq (w % 2) 0 with
        | false => rfl
        | true => exact absurd (Nat.eq_of_beq_eq_true q) hp
      simp [hp, this]
  | h + 1, [], bs, j, h', hl, ha, hb => by cases bs <;> cases h'
  | h + 1, a :: as, [], j, h', hl, ha, hb => by cases h'
  | h + 1, a :: as, b :: bs, j, h', hl, ha, hb => by
    rw [loopG, force_eq, force_eq, force_eq, Bool.and_eq_true] at h'
    have ea : a = Tn (j + 1) := by simpa using ha 0 (by simp)
    have eb : b = Tn (w - (j + 1)) := by simpa using hb 0 (by simp)
    subst ea; subst eb
    have e1 := Nat.eq_of_beq_eq_true h'.1
    obtain ⟨q1, q2⟩ := loopG_ok hw h0 h as bs (j + 1) h'.2 (by omega) (fun i hi => by
      have := ha (i + 1) (by simp; omega)
      rw [List.getElem?_cons_succ] at this
      rw [this, show j + 1 + (i + 1) = j + 1 + 1 + i by omega]) fun i hi => by
      have := hb (i + 1) (by simp; omega)
      rw [List.getElem?_cons_succ] at this
      rw [this, show w - (j + 1) - (i + 1) = w - (j + 1 + 1) - i by omega]
    refine ⟨q1, fun i h1 h2 => ?_⟩
    by_cases hi : i = j + 1
    · subst hi; exact e1
    · exact q2 i (by omega) h2
theorem ch_one {w : Nat} : ch w 1 = w := by simp [ch]
theorem loopW_ok : ∀ (rest rev : List Nat) (w : Nat), loopW (TN.drop 1) rest rev w = true → 2 ≤ w → rest = TN.drop w → rev.length + 1 = w → (∀ i, i < w - 1 → rev[i]? = some (Tn (w - 1 - i))) → ∀ k, w ≤ k → k ≤ 200 →
    2 * hs k ((k - 1) / 2) + (if k % 2 = 0 then ch k ((k - 1) / 2 + 1) * Tn ((k - 1) / 2 + 1) * Tn ((k - 1) / 2 + 1) else 0) = Tn k + (k - 1) * Tn (k - 1) ∧ ∀ i, 1 ≤ i → i ≤ (k - 1) / 2 → ch k (i + 1) * (i + 1) = ch k i * (k - i)
  | [], rev, m, h, h1, hr, hl, hv, k, hk, h2 => by
    have := congrArg List.length hr
    rw [List.length_nil, List.length_drop, TN_len] at this
    omega
  | nx :: rest, [], m, h, h1, hr, hl, hv, k, hk, h2 => by simp at hl; omega
  | nx :: rest, tv :: rev, w, h, h1, hr, hl, hv, k, hk, h2 => by
    have h : (loopG w nx tv ((w - 1) / 2) (TN.drop 1) (tv :: rev) 1 w 0 && force (w + 1) fun w' => loopW (TN.drop 1) rest (nx :: tv :: rev) w') = true := h
    rw [Bool.and_eq_true, force_eq] at h
    have enx : nx = Tn w := by
      have q := TN_at (k := w) (by omega)
      have : (TN.drop w)[0]? = some nx := by rw [← hr]; rfl
      rw [List.getElem?_drop, Nat.add_zero, q] at this
      exact (Option.some.inj this).symm
    have etv : tv = Tn (w - 1) := by simpa using hv 0 (by omega)
    have er : rest = TN.drop (w + 1) := by rw [← List.drop_drop, ← hr]; rfl
    have hl' : (tv :: rev).length = w - 1 := by omega
    by_cases hkm : k = w
    · subst hkm
      have g := h.1
      rw [show loopG k nx tv ((k - 1) / 2) (TN.drop 1) (tv :: rev) 1 k 0 = loopG k nx tv ((k - 1) / 2) (TN.drop 1) (tv :: rev) (0 + 1) (ch k (0 + 1)) (hs k 0) by rw [Nat.zero_add, ch_one]; rfl] at g
      obtain ⟨q1, q2⟩ := loopG_ok h2 (by omega) _ _ _ 0 g (by omega) (fun i hi => by
        rw [List.length_drop, TN_len] at hi
        rw [List.getElem?_drop, TN_at (by omega)]) fun i hi => by rw [hl'] at hi; exact hv i hi
      rw [enx, etv] at q1
      exact ⟨q1, fun i h1 h2 => q2 i (by omega) h2⟩
    · refine loopW_ok rest (nx :: tv :: rev) (w + 1) h.2 (by omega) er (by simp at hl ⊢; omega) (fun i hi => ?_) k (by omega) h2
      cases i with
      | zero => simp [enx]
      | succ i =>
        rw [List.getElem?_cons_succ, hv i (by omega), show w + 1 - 1 - (i + 1) = w - 1 - i by omega]
theorem G_step {k : Nat} (h1 : 2 ≤ k) (h2 : k ≤ 200) : 2 * hs k ((k - 1) / 2) + (if k % 2 = 0 then ch k ((k - 1) / 2 + 1) * Tn ((k - 1) / 2 + 1) * Tn ((k - 1) / 2 + 1) else 0) = Tn k + (k - 1) * Tn (k - 1) ∧ ∀ i, 1 ≤ i → i ≤ (k - 1) / 2 → ch k (i + 1) * (i + 1) = ch k i * (k - i) :=
  loopW_ok _ _ 2 loopW_all (by decide) rfl rfl (fun i hi => by
    have : i = 0 := by omega
    subst this
    have : Tn 1 = 1 := by decide +kernel
    simp [this]) k h1 h2
def fac : Nat → Nat
  | 0 => 1
  | n + 1 => fac n * (n + 1)
theorem fac_pos : ∀ n, 0 < fac n
  | 0 => Nat.one_pos
  | n + 1 => Nat.mul_pos (fac_pos n) (Nat.succ_pos n)
theorem ch_fac {w : Nat} (hw : 2 ≤ w) (h2 : w ≤ 200) : ∀ j, j ≤ (w - 1) / 2 + 1 → ch w j * (fac j * fac (w - j)) = fac w
  | 0, _ => by simp [ch, fac]
  | j + 1, hj => by
    have ih := ch_fac hw h2 j (by omega)
    have e : ch w (j + 1) * (j + 1) = ch w j * (w - j) := by
      cases j with
      | zero => simp [ch]
      | succ j => exact (G_step hw h2).2 (j + 1) (by omega) (by omega)
    have e2 : fac (w - j) = fac (w - (j + 1)) * (w - j) := by
      rw [show w - j = (w - (j + 1)) + 1 by omega]
      rfl
    rw [e2] at ih
    rw [← ih]
    show ch w (j + 1) * (fac j * (j + 1) * fac (w - (j + 1))) = ch w j * (fac j * (fac (w - (j + 1)) * (w - j)))
    calc ch w (j + 1) * (fac j * (j + 1) * fac (w - (j + 1))) = (ch w (j + 1) * (j + 1)) * (fac j * fac (w - (j + 1))) := by
          rw [Nat.mul_comm (fac j) (j + 1), Nat.mul_assoc (j + 1), ← Nat.mul_assoc]
      _ = (ch w j * (w - j)) * (fac j * fac (w - (j + 1))) := by rw [e]
      _ = ch w j * (fac j * (fac (w - (j + 1)) * (w - j))) := by
          rw [Nat.mul_assoc, Nat.mul_comm (w - j), Nat.mul_assoc]
end DL
set_option Elab.async false
set_option linter.all false
set_option maxRecDepth 100000
set_option maxHeartbeats 1000000
namespace DL
open PySem PySem.Spec L2
open PyProof.Rows hiding St
structure Gt (N : Nat) (A fc : Nat → Int) : Prop where
  f0 : fc 0 = 1
  fs : ∀ k, fc (k + 1) = fc k * ((k : Int) + 1)
  a0 : A 0 = 0
  a1 : A 1 = fc N
  mo : ∀ i j, i ≤ N → j ≤ N → mulOk (A i) (A j) = true
  dv : ∀ x, divOk x (fc N) = true
  st : ∀ w, 2 ≤ w → w ≤ N → (2 * ((List.range ((w - 1) / 2)).map fun k => A (1 + k) * A (w - (1 + k))).sum + (if w % 2 = 0 then A (w / 2) * A (w / 2) else 0)) / fc N - (((w : Int) - 1) * A (w - 1)) / (w : Int) = A w
def AL (A : Nat → Int) (m : Nat) : List Int := (List.range m).map A
theorem AL_at {A : Nat → Int} {k m : Nat} (h : k < m) : (AL A m)[k]? = some (A k) := by simp [AL, List.getElem?_range h]
section
variable {N : Nat} {A fc : Nat → Int} (B : Gt N A fc)
include B
theorem den_great (h1 : 1 ≤ N) (h2 : N ≤ 200) (ω : Om) : fnB 1 7 b_law_great [.val (.int N)] ω = some (.val (.int (A N)), ω) := by
  have r1 : gRng1 [.int (N : Int)] = some (rngD 0 1 N) := rng1_i (by omega) (by omega) (by omega)
  have r2 : gRng2 [.int 2, .int ((N : Int) + 1)] = some (rngD 2 1 (N - 1)) := rng2_i (by omega) (by omega) (by omega) (by omega) (by omega)
  obtain ⟨ρ1, ω1, e1, ⟨c2, rfl, hω1⟩⟩ := sFor_inv (fi := iRng gRng1 (dCons (dVar 0) dNil)) (g := gN 2) (f := sSetV 1 (dMul (dVar 1) (dAdd (dVar 2) (dC (.int 1))))) (items := rngD 0 1 N)
    (fun i ρ ω1 => ∃ c2, ρ = [some (.val (.int N)), some (.val (.int (fc i))), c2, none, none, none, none] ∧ ω1 = ω) (ρ := [some (.val (.int N)), some (.val (.int 1)), none, none, none, none, none]) (ω := ω)
    (by simp [iRng, bnd, dCons, dVar, now, RC.get, opt, dNil, nows, r1, ret]) ⟨none, by rw [B.f0], rfl⟩ (by
      rintro i d ρ ω1 hd ⟨c2, rfl, hω⟩
      obtain ⟨hi, rfl⟩ := rng_at hd
      have t : mulOk (fc i) (0 + (i : Int) + 1) = true := mulOk_r (by omega)
      rw [Int.zero_add] at t
      refine ⟨[some (.val (.int N)), some (.val (.int (fc (i + 1)))), some (.val (.int (0 + (i : Int)))), none, none, none, none], ω1, ?_, _, rfl, hω⟩
      rw [B.fs i]
      simp [sSeq, bnd, ret, opt, now, RC.get, dVar, dC, dAdd, dSub, dMul, dMod, dDiv, dOp, gAdd, gMul, gI, gI0, sSet, sSetV, sAsg, sDrop, gN, gT, gsCons, gsNil, putC, cellOf, cellOfV, dCall, nows, gInt, gSum, gLen, dCons, dNil, dLst, dTup, escs, esc, sRet, nowCell, retCell, iRng, gRng1, gRng2, dIx, gIx, dMeth, ownAt, putOwn, isLst, gAppend, sIf, dBool, boolOf, sNx, t])
  rw [rng_len] at e1
  subst hω1
  have dv := B.dv
  generalize hS : fc N = S at *
  obtain ⟨ρ2, ω2, e2, ⟨c4, c5, rfl, hω2⟩⟩ := sFor_inv (fi := iRng gRng2 (dCons (dC (.int 2)) (dCons (dAdd (dVar 0) (dC (.int 1))) dNil))) (g := gN 4) (f := (sSeq (sSetV 5 (dMul (dC (.int 2)) (dCall gSum (dCons (dLc [6] (iRng gRng2 (dCons (dC (.int 1)) (dCons (dDiv (dAdd (dVar 4) (dC (.int 1))) (dC (.int 2))) dNil))) (gN 6) tYesD (dMul (dIx (dVar 3) (dVar 6)) (dIx (dVar 3) (dSub (dVar 4) (dVar 6))))) dNil))))
  (sSeq (sIf (dBool (dEq (dMod (dCall gInt (dCons (dVar 4) dNil)) (dC (.int 2))) (dC (.int 0))))
  (sSetV 5 (dAdd (dVar 5) (dMul (dIx (dVar 3) (dDiv (dVar 4) (dC (.int 2)))) (dIx (dVar 3) (dDiv (dVar 4) (dC (.int 2)))))))
  sNx)
  (sDrop (dMeth 3 gAppend (dCons (dSub (dDiv (dVar 5) (dVar 1)) (dDiv (dMul (dSub (dVar 4) (dC (.int 1))) (dIx (dVar 3) (dSub (dVar 4) (dC (.int 1))))) (dVar 4))) dNil)))))) (items := rngD 2 1 (N - 1))
    (fun i ρ ωi => ∃ c4 c5, ρ = [some (.val (.int N)), some (.val (.int S)), c2, some (.own (.list ((AL A (i + 2)).map .int))), c4, c5, none] ∧ ωi = ω1) (ρ := [some (.val (.int N)), some (.val (.int S)), c2, some (.own (.list [.int 0, .int S])), none, none, none]) (ω := ω1)
    (by simp [iRng, bnd, dCons, dC, ret, dVar, now, RC.get, opt, dNil, nows, dAdd, dOp, gAdd, r2]) ⟨none, none, by
      have : AL A (0 + 2) = [0, S] := by
        have a0 := B.a0
        have a1 := B.a1
        rw [hS] at a1
        simp [AL, List.range_succ, a0, a1]
      rw [this]; rfl, rfl⟩ (by
      rintro i d ρ ω3 hd ⟨c4, c5, rfl, hω⟩
      obtain ⟨hi, rfl⟩ := rng_at hd
      have ew : (2 + (i : Int)) = ((i + 2 : Nat) : Int) := by omega
      rw [ew]
      have hw1 : 2 ≤ i + 2 := by omega
      have hw2 : i + 2 ≤ N := by omega
      generalize hw : i + 2 = w at hw1 hw2
      have lA : (AL A w).length = w := by simp [AL]
      have gA : ∀ k, k < w → atI ((AL A w).map PyData.int) (k : Int) = some (.int (A k)) := fun k hk => atI_ints (AL_at hk)
      have d2 : divOk ((w : Int) + 1) 2 = true := divOk_s (by decide) (by decide)
      have r3 : gRng2 [.int 1, .int (((w : Int) + 1) / 2)] = some (rngD 1 1 ((w - 1) / 2)) := rng2_i (by omega) (by omega) (by omega) (by omega) (by omega)
      let h := (w - 1) / 2
      have u1 : lenOk h = true := lenOk_of (by omega)
      have row := dLc_rng (j := 6) (fi := iRng gRng2 (dCons (dC (.int 1)) (dCons (dDiv (dAdd (dVar 4) (dC (.int 1))) (dC (.int 2))) dNil))) (fe := dMul (dIx (dVar 3) (dVar 6)) (dIx (dVar 3) (dSub (dVar 4) (dVar 6))))
        (φ := fun k => .int (A (1 + k) * A (w - (1 + k)))) (ρ := [some (.val (.int N)), some (.val (.int S)), c2, some (.own (.list ((AL A w).map .int))), some (.val (.int w)), c5, none]) (ω := ω3) (lo := 1) (n := h)
        (by simp [iRng, bnd, dCons, dC, ret, dVar, now, RC.get, opt, dNil, nows, dAdd, dOp, gAdd, dDiv, gI, d2, r3, h]) u1 rfl rfl (fun k hk ω4 => by
          have hk' : k < (w - 1) / 2 := hk
          have g1 := gA (1 + k) (by omega)
          have g2 := gA (w - (1 + k)) (by omega)
          rw [show ((1 + k : Nat) : Int) = 1 + (k : Int) by omega] at g1
          rw [show ((w - (1 + k) : Nat) : Int) = (w : Int) - (1 + (k : Int)) by omega] at g2
          have t := B.mo (1 + k) (w - (1 + k)) (by omega) (by omega)
          rw [show (1 + (k : Int) * 1) = 1 + (k : Int) by omega]
          simp [sSeq, bnd, ret, opt, now, RC.get, dVar, dC, dAdd, dSub, dMul, dMod, dDiv, dOp, gAdd, gMul, gI, gI0, sSet, sSetV, sAsg, sDrop, gN, gT, gsCons, gsNil, putC, cellOf, cellOfV, dCall, nows, gInt, gSum, gLen, dCons, dNil, dLst, dTup, escs, esc, sRet, nowCell, retCell, iRng, gRng1, gRng2, dIx, gIx, dMeth, ownAt, putOwn, isLst, gAppend, sIf, dBool, boolOf, sNx, g1, g2, t])
      have eL : (List.range h).map (fun k => PyData.int (A (1 + k) * A (w - (1 + k)))) = ((List.range h).map fun k => A (1 + k) * A (w - (1 + k))).map PyData.int := by simp
      rw [eL] at row
      have sm := sum_ints ((List.range h).map fun k => A (1 + k) * A (w - (1 + k)))
      have stp := B.st w hw1 hw2
      rw [hS] at stp
      generalize ((List.range h).map fun k => A (1 + k) * A (w - (1 + k))) = LL at row sm stp
      clear_value h
      have m2 : mulOk 2 LL.sum = true := mulOk_l (by decide)
      have g4 := gA (w - 1) (by omega)
      rw [show ((w - 1 : Nat) : Int) = (w : Int) - 1 by omega] at g4
      have m4 : mulOk ((w : Int) - 1) (A (w - 1)) = true := mulOk_l (by omega)
      have d4 : ∀ x, divOk x (w : Int) = true := fun x => divOk_s (by omega) (by omega)
      have d5 : ∀ x, divOk x (2 : Int) = true := fun x => divOk_s (by decide) (by decide)
      have u4 : lenOk (w + 1) = true := lenOk_of (by omega)
      have sA : AL A (w + 1) = AL A w ++ [A w] := by simp [AL, List.range_succ]
      refine ⟨[some (.val (.int N)), some (.val (.int S)), c2, some (.own (.list ((AL A (w + 1)).map .int))), some (.val (.int w)), some (.val (.int (2 * LL.sum + (if w % 2 = 0 then A (w / 2) * A (w / 2) else 0)))), none], ω3, ?_, _, _, by rw [show i + 1 + 2 = w + 1 by omega], hω⟩
      refine (bnd_gN rfl).trans ?_
      refine (sSeq_nx (ω' := ω3) (ρ' := [some (.val (.int N)), some (.val (.int S)), c2, some (.own (.list ((AL A w).map .int))), some (.val (.int w)), some (.val (.int (2 * LL.sum))), none]) (by
        simp only [gSum] at sm
        generalize dLc [6] _ _ _ _ = LC at row ⊢
        simp only [List.set_cons_zero, List.set_cons_succ] at row ⊢
        simp [sSeq, bnd, ret, opt, now, RC.get, dVar, dC, dAdd, dSub, dMul, dMod, dDiv, dOp, gAdd, gMul, gI, gI0, sSet, sSetV, sAsg, sDrop, gN, gT, gsCons, gsNil, putC, cellOf, cellOfV, dCall, nows, gInt, gSum, gLen, dCons, dNil, dLst, dTup, escs, esc, sRet, nowCell, retCell, iRng, gRng1, gRng2, dIx, gIx, dMeth, ownAt, putOwn, isLst, gAppend, sIf, dBool, boolOf, sNx, row, sm, m2])).trans ?_
      refine (sSeq_nx (ω' := ω3) (ρ' := [some (.val (.int N)), some (.val (.int S)), c2, some (.own (.list ((AL A w).map .int))), some (.val (.int w)), some (.val (.int (2 * LL.sum + (if w % 2 = 0 then A (w / 2) * A (w / 2) else 0)))), none]) (by
        by_cases hp : w % 2 = 0
        · have hp' : (w : Int) % 2 = 0 := by omega
          have g5 := gA (w / 2) (by omega)
          rw [show ((w / 2 : Nat) : Int) = (w : Int) / 2 by omega] at g5
          have m5 := B.mo (w / 2) (w / 2) (by omega) (by omega)
          simp [sSeq, bnd, ret, opt, now, RC.get, dVar, dC, dAdd, dSub, dMul, dMod, dDiv, dOp, gAdd, gMul, gI, gI0, sSet, sSetV, sAsg, sDrop, gN, gT, gsCons, gsNil, putC, cellOf, cellOfV, dCall, nows, gInt, gSum, gLen, dCons, dNil, dLst, dTup, escs, esc, sRet, nowCell, retCell, iRng, gRng1, gRng2, dIx, gIx, dMeth, ownAt, putOwn, isLst, gAppend, sIf, dBool, boolOf, sNx, dEq, gEq, eqOk_int, PyData.eqv, hp, hp', d5, g5, m5]
        · have hp' : ¬ (w : Int) % 2 = 0 := by omega
          simp [sSeq, bnd, ret, opt, now, RC.get, dVar, dC, dAdd, dSub, dMul, dMod, dDiv, dOp, gAdd, gMul, gI, gI0, sSet, sSetV, sAsg, sDrop, gN, gT, gsCons, gsNil, putC, cellOf, cellOfV, dCall, nows, gInt, gSum, gLen, dCons, dNil, dLst, dTup, escs, esc, sRet, nowCell, retCell, iRng, gRng1, gRng2, dIx, gIx, dMeth, ownAt, putOwn, isLst, gAppend, sIf, dBool, boolOf, sNx, dEq, gEq, eqOk_int, PyData.eqv, hp, hp'])).trans ?_
      generalize (2 * LL.sum + (if w % 2 = 0 then A (w / 2) * A (w / 2) else 0)) = X at stp
      rw [sA]
      simp [sSeq, bnd, ret, opt, now, RC.get, dVar, dC, dAdd, dSub, dMul, dMod, dDiv, dOp, gAdd, gMul, gI, gI0, sSet, sSetV, sAsg, sDrop, gN, gT, gsCons, gsNil, putC, cellOf, cellOfV, dCall, nows, gInt, gSum, gLen, dCons, dNil, dLst, dTup, escs, esc, sRet, nowCell, retCell, iRng, gRng1, gRng2, dIx, gIx, dMeth, ownAt, putOwn, isLst, gAppend, sIf, dBool, boolOf, sNx, dv, g4, m4, d4, stp, lA, u4])
  rw [rng_len, show N - 1 + 2 = N + 1 by omega] at e2
  subst hω2
  have u2 : lenOk 2 = true := by decide +kernel
  have gN' : atI ((AL A (N + 1)).map PyData.int) (N : Int) = some (.int (A N)) := atI_ints (AL_at (by omega))
  refine fnB_rt rfl (ρ' := [some (.val (.int N)), some (.val (.int S)), c2, some (.own (.list ((AL A (N + 1)).map .int))), c4, c5, none]) ?_
  unfold b_law_great
  refine (sSeq_nx (ρ' := [some (.val (.int N)), some (.val (.int 1)), none, none, none, none, none]) (by simp [sSeq, bnd, ret, opt, now, RC.get, dVar, dC, dAdd, dSub, dMul, dMod, dDiv, dOp, gAdd, gMul, gI, gI0, sSet, sSetV, sAsg, sDrop, gN, gT, gsCons, gsNil, putC, cellOf, cellOfV, dCall, nows, gInt, gSum, gLen, dCons, dNil, dLst, dTup, escs, esc, sRet, nowCell, retCell, iRng, gRng1, gRng2, dIx, gIx, dMeth, ownAt, putOwn, isLst, gAppend, sIf, dBool, boolOf, sNx, padE])).trans ((sSeq_nx e1).trans ?_)
  refine (sSeq_nx (ρ' := [some (.val (.int N)), some (.val (.int S)), c2, some (.own (.list [.int 0, .int S])), none, none, none]) (by simp [sSeq, bnd, ret, opt, now, RC.get, dVar, dC, dAdd, dSub, dMul, dMod, dDiv, dOp, gAdd, gMul, gI, gI0, sSet, sSetV, sAsg, sDrop, gN, gT, gsCons, gsNil, putC, cellOf, cellOfV, dCall, nows, gInt, gSum, gLen, dCons, dNil, dLst, dTup, escs, esc, sRet, nowCell, retCell, iRng, gRng1, gRng2, dIx, gIx, dMeth, ownAt, putOwn, isLst, gAppend, sIf, dBool, boolOf, sNx, u2])).trans ((sSeq_nx e2).trans ?_)
  simp [sSeq, bnd, ret, opt, now, RC.get, dVar, dC, dAdd, dSub, dMul, dMod, dDiv, dOp, gAdd, gMul, gI, gI0, sSet, sSetV, sAsg, sDrop, gN, gT, gsCons, gsNil, putC, cellOf, cellOfV, dCall, nows, gInt, gSum, gLen, dCons, dNil, dLst, dTup, escs, esc, sRet, nowCell, retCell, iRng, gRng1, gRng2, dIx, gIx, dMeth, ownAt, putOwn, isLst, gAppend, sIf, dBool, boolOf, sNx, gN']
end
end DL
set_option Elab.async false
set_option linter.all false
set_option maxRecDepth 100000
set_option maxHeartbeats 1000000
namespace DL
open PySem PySem.Spec L2
open PyProof.Rows hiding St
def Dd (N k : Nat) : Nat := fac N / fac k
theorem fac_dvd {k : Nat} : ∀ {N : Nat}, k ≤ N → fac k ∣ fac N
  | 0, h => by have : k = 0 := by omega
               subst this; exact Nat.dvd_refl _
  | N + 1, h => by
    by_cases e : k = N + 1
    · subst e; exact Nat.dvd_refl _
    · exact Nat.dvd_trans (fac_dvd (N := N) (by omega)) ⟨N + 1, rfl⟩
theorem Dd_fac {N k : Nat} (h : k ≤ N) : Dd N k * fac k = fac N := Nat.div_mul_cancel (fac_dvd h)
def An (N k : Nat) : Nat := Dd N k * Tn k
theorem fact1 {N w j : Nat} (hw : 2 ≤ w) (h2 : w ≤ 200) (hN : w ≤ N) (hj : j ≤ (w - 1) / 2 + 1) : Dd N j * Dd N (w - j) = fac N * Dd N w * ch w j := by
  have p : 0 < fac j * fac (w - j) := Nat.mul_pos (fac_pos _) (fac_pos _)
  refine Nat.eq_of_mul_eq_mul_right p ?_
  have e1 := Dd_fac (N := N) (k := j) (by omega)
  have e2 := Dd_fac (N := N) (k := w - j) (by omega)
  have e3 := Dd_fac (N := N) (k := w) hN
  have e4 := ch_fac hw h2 j hj
  calc Dd N j * Dd N (w - j) * (fac j * fac (w - j)) = (Dd N j * fac j) * (Dd N (w - j) * fac (w - j)) := by
        rw [Nat.mul_assoc, Nat.mul_assoc, Nat.mul_left_comm (Dd N (w - j))]
    _ = fac N * (Dd N w * fac w) := by rw [e1, e2, e3]
    _ = fac N * Dd N w * ch w j * (fac j * fac (w - j)) := by rw [← e4, Nat.mul_assoc, Nat.mul_assoc]
theorem fact2 {N w j : Nat} (hw : 2 ≤ w) (h2 : w ≤ 200) (hN : w ≤ N) (hj : j ≤ (w - 1) / 2 + 1) : An N j * An N (w - j) = fac N * Dd N w * (ch w j * Tn j * Tn (w - j)) := by
  have := fact1 hw h2 hN hj
  unfold An
  calc Dd N j * Tn j * (Dd N (w - j) * Tn (w - j)) = (Dd N j * Dd N (w - j)) * (Tn j * Tn (w - j)) := by
        rw [Nat.mul_assoc, Nat.mul_assoc, Nat.mul_left_comm (Tn j)]
    _ = fac N * Dd N w * (ch w j * Tn j * Tn (w - j)) := by rw [this, Nat.mul_assoc, Nat.mul_assoc (ch w j)]
theorem fact3 {N w : Nat} (hw : 2 ≤ w) (h2 : w ≤ 200) (hN : w ≤ N) : ∀ h, h ≤ (w - 1) / 2 → ((List.range h).map fun k => ((An N (1 + k) : Nat) : Int) * ((An N (w - (1 + k)) : Nat) : Int)).sum = ((fac N * Dd N w * hs w h : Nat) : Int)
  | 0, _ => by simp [hs]
  | h + 1, hh => by
    have ih := fact3 hw h2 hN h (by omega)
    have f2 := fact2 (j := 1 + h) hw h2 hN (by omega)
    rw [List.range_succ, List.map_append, List.sum_append, ih, List.map_singleton, List.sum_singleton, ← Int.natCast_mul, f2, ← Int.natCast_add]
    rw [← Nat.mul_add]
    have : hs w (h + 1) = hs w h + ch w (1 + h) * Tn (1 + h) * Tn (w - (1 + h)) := by
      rw [Nat.add_comm 1 h]; rfl
    rw [this]
theorem fac_lt : ∀ n, n ≤ 200 → fac n < 2 ^ (8 * n + 1)
  | 0, _ => by decide
  | n + 1, h => by
    have ih := fac_lt n (by omega)
    have h2 : fac (n + 1) ≤ fac n * 256 := Nat.mul_le_mul_left _ (by omega)
    have h3 : 2 ^ (8 * (n + 1) + 1) = 2 ^ (8 * n + 1) * 256 := by rw [show 8 * (n + 1) + 1 = 8 * n + 1 + 8 by omega, Nat.pow_add]
    rw [h3]
    exact Nat.lt_of_le_of_lt h2 (Nat.mul_lt_mul_of_pos_right ih (by decide))
theorem Dd_lt {N k : Nat} (h : N ≤ 200) : Dd N k < 2 ^ 1601 := by
  refine Nat.lt_of_le_of_lt (Nat.div_le_self _ _) (Nat.lt_of_lt_of_le (fac_lt N h) ?_)
  exact Nat.pow_le_pow_right (by decide) (by omega)
theorem An_lt {N k : Nat} (h : N ≤ 200) (hk : k ≤ 200) : An N k < 2 ^ (1601 + 2000) := pow_mul_lt (Dd_lt h) (Tn_lt hk)
theorem log_lt {n x : Nat} (h : n < 2 ^ x) (hx : 0 < x) : n.log2 < x := by
  by_cases h0 : n = 0
  · subst h0; simpa using hx
  · exact (Nat.log2_lt h0).mpr h
theorem Dd_step {N w : Nat} (hw : 1 ≤ w) (hN : w ≤ N) : Dd N (w - 1) = w * Dd N w := by
  have e1 := Dd_fac (N := N) (k := w - 1) (by omega)
  have e2 := Dd_fac (N := N) (k := w) hN
  have e3 : fac w = fac (w - 1) * w := by
    obtain ⟨v, rfl⟩ : ∃ v, w = v + 1 := ⟨w - 1, by omega⟩
    rfl
  refine Nat.eq_of_mul_eq_mul_right (fac_pos (w - 1)) ?_
  rw [e1, ← e2, e3, Nat.mul_comm w, Nat.mul_assoc, Nat.mul_comm w, Nat.mul_comm (fac (w - 1))]
theorem gt {N : Nat} (h1 : 1 ≤ N) (h2 : N ≤ 200) : Gt N (fun k => ((An N k : Nat) : Int)) (fun k => ((fac k : Nat) : Int)) where
  f0 := rfl
  fs := fun k => by
    show ((fac k * (k + 1) : Nat) : Int) = _
    rw [Int.natCast_mul]; rfl
  a0 := by
    have : Tn 0 = 0 := by decide +kernel
    simp [An, this]
  a1 := by
    have : Tn 1 = 1 := by decide +kernel
    have e := Dd_fac (N := N) (k := 1) h1
    simp only [An, this, Nat.mul_one]
    have : fac 1 = 1 := rfl
    rw [this, Nat.mul_one] at e
    rw [e]
  mo := fun i j hi hj => mulOk_n (An_lt h2 (by omega)) (An_lt h2 (by omega)) (by decide) (by decide) (by decide)
  dv := fun x => by
    unfold divOk
    have p : (0 : Int) < ((fac N : Nat) : Int) := Int.natCast_pos.mpr (fac_pos N)
    have l : ((fac N : Nat) : Int).natAbs.log2 < 9000 := by
      rw [Int.natAbs_natCast]
      exact Nat.lt_of_lt_of_le (log_lt (fac_lt N h2) (by omega)) (by omega)
    rw [decide_eq_true p, decide_eq_true l]
    rfl
  st := fun w hw hN => by
    have h3 := fact3 (N := N) hw (by omega) hN ((w - 1) / 2) (Nat.le_refl _)
    have g := (G_step (k := w) hw (by omega)).1
    rw [h3]
    have mid : (if w % 2 = 0 then ((An N (w / 2) : Nat) : Int) * ((An N (w / 2) : Nat) : Int) else 0) = ((fac N * Dd N w * (if w % 2 = 0 then ch w ((w - 1) / 2 + 1) * Tn ((w - 1) / 2 + 1) * Tn ((w - 1) / 2 + 1) else 0) : Nat) : Int) := by
      by_cases hp : w % 2 = 0
      · rw [if_pos hp, if_pos hp, ← Int.natCast_mul]
        have f2 := fact2 (N := N) (j := (w - 1) / 2 + 1) hw (by omega) hN (Nat.le_refl _)
        rw [show w - ((w - 1) / 2 + 1) = (w - 1) / 2 + 1 by omega] at f2
        rw [show w / 2 = (w - 1) / 2 + 1 by omega, f2]
      · rw [if_neg hp, if_neg hp, Nat.mul_zero]; rfl
    rw [mid]
    have e5 : (2 * ((fac N * Dd N w * hs w ((w - 1) / 2) : Nat) : Int) + ((fac N * Dd N w * (if w % 2 = 0 then ch w ((w - 1) / 2 + 1) * Tn ((w - 1) / 2 + 1) * Tn ((w - 1) / 2 + 1) else 0) : Nat) : Int)) = ((fac N : Nat) : Int) * ((Dd N w * (Tn w + (w - 1) * Tn (w - 1)) : Nat) : Int) := by
      rw [← g]
      rw [show (2 : Int) = ((2 : Nat) : Int) from rfl, ← Int.natCast_mul, ← Int.natCast_add, ← Int.natCast_mul]
      congr 1
      rw [Nat.mul_left_comm 2, ← Nat.mul_add, Nat.mul_assoc]
    rw [e5, Int.mul_ediv_cancel_left _ (by have := fac_pos N; omega)]
    have e6 : (((w : Int) - 1) * ((An N (w - 1) : Nat) : Int)) / (w : Int) = ((Dd N w * ((w - 1) * Tn (w - 1)) : Nat) : Int) := by
      have : ((w : Int) - 1) * ((An N (w - 1) : Nat) : Int) = (w : Int) * ((Dd N w * ((w - 1) * Tn (w - 1)) : Nat) : Int) := by
        rw [show (w : Int) - 1 = ((w - 1 : Nat) : Int) by omega, ← Int.natCast_mul, ← Int.natCast_mul]
        congr 1
        rw [An, Dd_step (by omega) hN, ← Nat.mul_assoc, Nat.mul_left_comm (w - 1) w, Nat.mul_assoc w, Nat.mul_comm (w - 1), Nat.mul_assoc (Dd N w)]
      rw [this, Int.mul_ediv_cancel_left _ (by omega)]
    rw [e6, Nat.mul_add, Int.natCast_add, Int.add_sub_cancel]
    rfl
theorem great_at {N : Nat} (h1 : 1 ≤ N) (h2 : N ≤ 200) (ω : Om) : fnB 1 7 b_law_great [.val (.int N)] ω = some (.val (.int (T N)), ω) := by
  have e := den_great (gt h1 h2) h1 h2 ω
  have : An N N = Tn N := by
    have := Dd_fac (Nat.le_refl N)
    have d : Dd N N = 1 := Nat.eq_of_mul_eq_mul_right (fac_pos N) (by rw [this, Nat.one_mul])
    rw [An, d, Nat.one_mul]
  rw [this] at e
  exact e
end DL
set_option Elab.async false
set_option linter.all false
set_option maxRecDepth 100000
set_option maxHeartbeats 1000000
namespace DL
open PySem PySem.Spec L2
open PyProof.Rows hiding St
theorem goodN_of {n : Int} (h : 0 < n) (h2 : n < 1000000) : goodN n = true := divOk_s (i := 0) h h2
theorem draw_at {n : Int} (h : 0 < n) (h2 : n < 1000000) (ω : Om) : ∃ r : Nat, (r : Int) < n ∧ fDraw [.src, .val (.int n)] ω = some (.val (.int (r : Int)), shf ω) := by
  have h3 : 0 ≤ (ω 0 : Int) % n := Int.emod_nonneg _ (by omega)
  have h4 : (ω 0 : Int) % n < n := Int.emod_lt_of_pos _ h
  refine ⟨((ω 0 : Int) % n).toNat, by omega, ?_⟩
  simp only [fDraw, goodN_of h h2, if_true]
  rw [Int.toNat_of_nonneg h3]
theorem den_pick {L : List PyData} (h1 : 0 < L.length) (h2 : L.length ≤ 1000) (ω : Om) : ∃ x ω', x ∈ L ∧ fnB 2 2 (b_law_pick fDraw) [.src, .val (.list L)] ω = some (.val x, ω') := by
  obtain ⟨r, hr, e⟩ := draw_at (n := (L.length : Int)) (by omega) (by omega) ω
  have hr' : r < L.length := by omega
  have g : atI L (r : Int) = some L[r] := atI_nat (List.getElem?_eq_getElem hr')
  refine ⟨L[r], shf ω, List.getElem_mem hr', fnB_rt rfl (ρ' := [some .src, some (.val (.list L))]) ?_⟩
  generalize fDraw = Φ at e
  simp [b_law_pick, sSeq, bnd, ret, opt, now, RC.get, dVar, dC, dAdd, dSub, dMul, dMod, dDiv, dOp, gAdd, gMul, gI, gI0, sSet, sSetV, sAsg, sDrop, gN, gT, gsCons, gsNil, putC, cellOf, cellOfV, dCall, nows, gInt, gSum, gLen, dCons, dNil, dLst, dTup, escs, esc, sRet, nowCell, retCell, iRng, gRng1, gRng2, dIx, gIx, dMeth, ownAt, putOwn, isLst, gAppend, sIf, dBool, boolOf, sNx, padE, dCallF, callF, argsOf, argOf, useF, e, g]
theorem den_mixed {L : List PyData} (h2 : L.length ≤ 1000) (ω : Om) : ∃ L' ω', (∀ x ∈ L', x ∈ L) ∧ fnB 2 4 (b_law_mixed fDraw) [.src, .val (.list L)] ω = some (.own (.list L'), ω') := by
  obtain ⟨ρ1, ω1, e1, ⟨L', c3, rfl, hl, hm⟩⟩ := sFor_inv (fi := iSeq (dVar 1)) (g := gN 3) (f := (sDrop (dMeth 2 gInsert (dCons (dCallF fDraw (dCons (dVar 0) (dCons (dAdd (dCall gLen (dCons (dVar 2) dNil)) (dC (.int 1))) dNil))) (dCons (dVar 3) dNil))))) (items := L)
    (fun i ρ ωi => ∃ L' c3, ρ = [some .src, some (.val (.list L)), some (.own (.list L')), c3] ∧ L'.length = i ∧ ∀ x ∈ L', x ∈ L) (ρ := [some .src, some (.val (.list L)), some (.own (.list [])), none]) (ω := ω)
    (by simp [iSeq, bnd, dVar, now, RC.get, opt, seqOf, lockOf]) ⟨[], none, rfl, rfl, by simp⟩ (by
      rintro i d ρ ω2 hd ⟨L', c3, rfl, hl, hm⟩
      have hi : i < L.length := (List.getElem?_eq_some_iff.mp hd).1
      obtain ⟨r, hr, e⟩ := draw_at (n := ((i : Int) + 1)) (by omega) (by omega) ω2
      have u : lenOk (i + 1) = true := lenOk_of (by omega)
      have u3 : (r : Int) < 4611686018427387904 := by omega
      have u5 : r ≤ L'.length := by omega
      refine ⟨[some .src, some (.val (.list L)), some (.own (.list (L'.take r ++ [d] ++ L'.drop r))), some (.val d)], shf ω2, ?_, _, _, rfl, ?_, ?_⟩
      · refine (bnd_gN rfl).trans ?_
        generalize fDraw = Φ at e
        simp [sSeq, bnd, ret, opt, now, RC.get, dVar, dC, dAdd, dSub, dMul, dMod, dDiv, dOp, gAdd, gMul, gI, gI0, sSet, sSetV, sAsg, sDrop, gN, gT, gsCons, gsNil, putC, cellOf, cellOfV, dCall, nows, gInt, gSum, gLen, dCons, dNil, dLst, dTup, escs, esc, sRet, nowCell, retCell, iRng, gRng1, gRng2, dIx, gIx, dMeth, ownAt, putOwn, isLst, gAppend, sIf, dBool, boolOf, sNx, dCallF, callF, argsOf, argOf, useF, hl, e, gInsert, u, u3]
      · simp only [List.length_append, List.length_take, List.length_drop, List.length_singleton]; omega
      · intro x hx
        simp only [List.mem_append, List.mem_singleton] at hx
        rcases hx with (hx | hx) | hx
        · exact hm x (List.mem_of_mem_take hx)
        · subst hx; exact List.mem_of_getElem? hd
        · exact hm x (List.mem_of_mem_drop hx))
  refine ⟨L', ω1, hm, fnB_rt rfl (ρ' := [some .src, some (.val (.list L)), some (.own (.list L')), c3]) ?_⟩
  unfold b_law_mixed
  refine (sSeq_nx (ρ' := [some .src, some (.val (.list L)), some (.own (.list [])), none]) (by simp [sSeq, bnd, ret, opt, now, RC.get, dVar, dC, dAdd, dSub, dMul, dMod, dDiv, dOp, gAdd, gMul, gI, gI0, sSet, sSetV, sAsg, sDrop, gN, gT, gsCons, gsNil, putC, cellOf, cellOfV, dCall, nows, gInt, gSum, gLen, dCons, dNil, dLst, dTup, escs, esc, sRet, nowCell, retCell, iRng, gRng1, gRng2, dIx, gIx, dMeth, ownAt, putOwn, isLst, gAppend, sIf, dBool, boolOf, sNx, padE, lenOk])).trans ((sSeq_nx e1).trans ?_)
  simp [sSeq, bnd, ret, opt, now, RC.get, dVar, dC, dAdd, dSub, dMul, dMod, dDiv, dOp, gAdd, gMul, gI, gI0, sSet, sSetV, sAsg, sDrop, gN, gT, gsCons, gsNil, putC, cellOf, cellOfV, dCall, nows, gInt, gSum, gLen, dCons, dNil, dLst, dTup, escs, esc, sRet, nowCell, retCell, iRng, gRng1, gRng2, dIx, gIx, dMeth, ownAt, putOwn, isLst, gAppend, sIf, dBool, boolOf, sNx]
theorem rep1 {a : Int} (h : a.natAbs.log2 < 1900) : repOk (.int a) = true := by
  simp [repOk, PyData.showable, SeqAt.shaped, PyData.canLay0, PyData.depth, cost]
  omega
theorem rep2 {a b : Int} (h : a.natAbs.log2 < 1900) (h2 : b.natAbs.log2 < 1900) : repOk (.list [.int a, .int b]) = true := by
  simp [repOk, PyData.showable, PyData.showableAll, SeqAt.shaped, PyData.canLay0, PyData.canLayAll0, PyData.depth, PyData.depthAll, cost, costAll]
  omega
theorem rep3 {a b c : Int} (h : a.natAbs.log2 < 1900) (h2 : b.natAbs.log2 < 1900) (h3 : c.natAbs.log2 < 1900) : repOk (.list [.int a, .int b, .int c]) = true := by
  simp [repOk, PyData.showable, PyData.showableAll, SeqAt.shaped, PyData.canLay0, PyData.canLayAll0, PyData.depth, PyData.depthAll, cost, costAll]
  omega
end DL
set_option Elab.async false
set_option linter.all false
set_option maxRecDepth 100000
set_option maxHeartbeats 1000000
namespace DL
open PySem PySem.Spec L2
open PyProof.Rows hiding St
abbrev n_law_source : List Str := ["_law_script", "_law_flat", "_law_cell"]
theorem sc_law_source : FnScope ["_law_script", "_law_flat", "_law_cell"] ["_law_script"] (defScope s_law_source) := ⟨rfl, rfl, rfl, by decide +kernel, rfl, by decide +kernel, by decide +kernel⟩
theorem src_law_source [Fam] (hF : ∀ v S H, Fam.inv v S H) {P : Program} {w : World} {K : PySem.W.Frag} {mg : Str → Option Value} {base : Heap} {f : Addr} {fd : FuncData} (F : Fun K "_law_source" "_law_source" s_law_source f fd) (m_len : mg "len" = none) (m_sum : mg "sum" = none) : FnG P w K mg base CX0 1 f fd ["_law_script"] spSrcL :=
  fng_of F sc_law_source (fun vs H Q E h => by obtain ⟨a, ns, rfl, _⟩ := h; rfl) fun cdv A outer s H vs Q E hr h => by
    obtain ⟨a, ns, rfl, r, l, q⟩ := h
    have body : PSs (cxOf CX0 P w K mg base n_law_source "_law_source" (defScope s_law_source) f cdv A outer s H E0).nox (defBody s_law_source) (tSeq (liftS LC1) (tRet (tLst (tCons (liftE SE1) (tCons (liftE SE2) (tCons (liftE SE3) (tCons (liftE SE4) tNil))))))) :=
      (pss_cons (ds_setLcV (own := [("_law_cell", 2)]) 1 rfl sc_law_source.nd rfl rfl (sw_true rfl rfl rfl (by decide +kernel)) (di_seq (de_sl (de_var 0) do_none (do_some de_int))) (by exact blkOk_by (own := [("_law_cell", 2)]) (N := n_law_source) (sc := defScope s_law_source) (by decide +kernel)) (fun _ _ _ _ _ => (dg_name 2 sc_law_source.nd)) (fun _ _ _ _ _ => dts_nil) (fun _ _ _ _ _ => (de_if (dt_ge (de_var 2) de_int) (de_add (de_mul de_int (de_var 2)) de_int) (de_sub de_int (de_mul de_int (de_var 2))))) (by decide)) (pss_one (ps_ret (pe_lst (pa_cons (de_lc (own := [("_law_cell", 2)]) rfl sc_law_source.nd (di_seq (de_var 1)) (by exact blkOk_by (own := [("_law_cell", 2)]) (N := n_law_source) (sc := defScope s_law_source) (by decide +kernel)) (fun _ _ _ _ _ => (dg_name 2 sc_law_source.nd)) (fun _ _ _ _ _ => (dts_one (dt_ge (de_var 2) (de_pow de_int de_int)))) (fun _ _ _ _ _ => (de_var 2)) (by decide)) (pa_cons (de_add (de_var 1) (de_lst (da_cons (de_add (de_len m_len (da_cons (de_var 1) da_nil)) de_int) da_nil))) (pa_cons (de_sum rfl m_sum (da_cons (de_var 1) da_nil)) (pa_cons de_int pa_nil))))))))
    exact ⟨_, body.nox, lift_sourceL hF (N := n_law_source) rfl r l q⟩
theorem kb_forked_count_0_size : KwB "forked_count" s_forked_count ["size"] ["size"] [0] 0 1 := fun _ _ _ _ _ _ us ws h1 h2 => match us, ws, h1, h2 with | [], [_], _, _ => rfl
theorem kb_tree_count_0_size : KwB "tree_count" s_tree_count ["size"] ["size"] [0] 0 1 := fun _ _ _ _ _ _ us ws h1 h2 => match us, ws, h1, h2 with | [], [_], _, _ => rfl
abbrev n_law : List Str := ["_law_script", "_law_source_here", "_law_many", "_law_known_here", "_law_wide", "_law_told"]
theorem sc_law : FnScope ["_law_script", "_law_source_here", "_law_many", "_law_known_here", "_law_wide", "_law_told"] ["_law_script"] (defScope s_law) := ⟨rfl, rfl, rfl, by decide +kernel, rfl, by decide +kernel, by decide +kernel⟩
def b_law (φ_law_pick : Fn) (φ_law_draw : Fn) (φ_law_known : Fn) (φ_law_mixed : Fn) (φ_forked_count : Fn) (φ_tree_count : Fn) (φ_law_great : Fn) (φ_law_odd_product : Fn) : M Fl :=
  (sSeq (sSetV 2 (dCallF φ_law_pick (dCons (dVar 1) (dCons (dLst (dCons (dC (.int 60)) (dCons (dAdd (dC (.int 8)) (dCallF φ_law_draw (dCons (dVar 1) (dCons (dC (.int 53)) dNil)))) (dCons (dAdd (dC (.int 8)) (dCallF φ_law_draw (dCons (dVar 1) (dCons (dC (.int 53)) dNil)))) dNil)))) dNil))))
  (sSeq (sSetV 3 (dCallF φ_law_known (dCons (dVar 2) dNil)))
  (sSeq (sFor (iSeq (dCallF φ_law_mixed (dCons (dVar 1) (dCons (dLst (dCons (dC (.int 1)) (dCons (dC (.int 2)) (dCons (dC (.int 3)) (dCons (dC (.int 4)) (dCons (dC (.int 5)) (dCons (dC (.int 6)) (dCons (dC (.int 7)) (dCons (dAdd (dC (.int 8)) (dCallF φ_law_draw (dCons (dVar 1) (dCons (dSub (dVar 2) (dC (.int 7))) dNil)))) (dCons (dVar 2) dNil)))))))))) dNil)))) (gN 4)
  (sIf (dBool (dNeS (dCall gRepr (dCons (dLst (dCons (dCallF φ_tree_count (dCons (dVar 4) dNil)) (dCons (dCallF φ_forked_count (dCons (dVar 4) dNil)) dNil))) dNil)) (dCall gRepr (dCons (dLst (dCons (dIx (dIx (dVar 3) (dVar 4)) (dC (.int 0))) (dCons (dIx (dIx (dVar 3) (dVar 4)) (dC (.int 1))) dNil))) dNil))))
  (sRet (dC (.bool false)))
  sNx))
  (sSeq (sSetV 4 (dAdd (dC (.int 1)) (dCallF φ_law_draw (dCons (dVar 1) (dCons (dC (.int 8)) dNil)))))
  (sSeq (sSetV 5 (dLst (dCons (dKw [0] 0 1 φ_tree_count dNil (dCons (dVar 4) dNil)) (dCons (dKw [0] 0 1 φ_forked_count dNil (dCons (dVar 4) dNil)) (dCons (dKw [0] 0 1 φ_forked_count dNil (dCons (dVar 2) dNil)) dNil)))))
  (sSeq (sIf (dOr (dBool (dNeS (dCall gRepr (dCons (dVar 5) dNil)) (dCall gRepr (dCons (dLst (dCons (dIx (dIx (dVar 3) (dVar 4)) (dC (.int 0))) (dCons (dIx (dIx (dVar 3) (dVar 4)) (dC (.int 1))) (dCons (dIx (dIx (dVar 3) (dVar 2)) (dC (.int 1))) dNil)))) dNil)))) (dBool (dNeS (dCallF φ_law_great (dCons (dVar 4) dNil)) (dIx (dIx (dVar 3) (dVar 4)) (dC (.int 0))))))
  (sRet (dC (.bool false)))
  sNx)
  (sSeq (sIf (dBool (dEq (dCallF φ_law_draw (dCons (dVar 1) (dCons (dC (.int 4)) dNil))) (dC (.int 0))))
  (sSeq (sSetV 2 (dCallF φ_law_pick (dCons (dVar 1) (dCons (dLst (dCons (dC (.int 200)) (dCons (dC (.int 199)) (dCons (dAdd (dC (.int 61)) (dCallF φ_law_draw (dCons (dVar 1) (dCons (dC (.int 140)) dNil)))) dNil)))) dNil))))
  (sIf (dBool (dNeS (dCall gRepr (dCons (dCallF φ_tree_count (dCons (dVar 2) dNil)) dNil)) (dCall gRepr (dCons (dCallF φ_law_great (dCons (dVar 2) dNil)) dNil))))
  (sRet (dC (.bool false)))
  sNx))
  sNx)
  (sSeq (sFor (iSeq (dLst (dCons (dAdd (dC (.int 1)) (dCallF φ_law_draw (dCons (dVar 1) (dCons (dC (.int 200)) dNil)))) (dCons (dCallF φ_law_pick (dCons (dVar 1) (dCons (dLst (dCons (dC (.int 1)) (dCons (dC (.int 2)) (dCons (dC (.int 3)) (dCons (dC (.int 199)) (dCons (dC (.int 200)) dNil)))))) dNil))) dNil)))) (gN 4)
  (sIf (dBool (dNeS (dCall gRepr (dCons (dCallF φ_forked_count (dCons (dVar 4) dNil)) dNil)) (dCall gRepr (dCons (dCallF φ_law_odd_product (dCons (dVar 4) dNil)) dNil))))
  (sRet (dC (.bool false)))
  sNx))
  (sRet (dC (.bool true)))))))))))
theorem ok_law {P : Program} {w : World} {K : PySem.W.Frag} {mg : Str → Option Value} {base : Heap} {f fs : Addr} {fd fds : FuncData} (F : Fun K "law" "law" s_law f fd) (Fs : Fun K "_law_source" "_law_source" s_law_source fs fds) (Gs : FnG P w K mg base CX0 1 fs fds ["_law_script"] spSrcL) (ms : mg "_law_source" = some (.ref fs)) (m_repr : mg "repr" = none) {φ_law_pick : Fn} (c_law_pick : Cal P w K mg base 2 "_law_pick" s_law_pick ["_law_source_here", "_law_items"] φ_law_pick) {φ_law_draw : Fn} (c_law_draw : Cal P w K mg base 2 "_law_draw" s_law_draw ["_law_source_here", "_law_many"] φ_law_draw) {φ_law_known : Fn} (c_law_known : Cal P w K mg base 2 "_law_known" s_law_known ["_law_limit"] φ_law_known) {φ_law_mixed : Fn} (c_law_mixed : Cal P w K mg base 2 "_law_mixed" s_law_mixed ["_law_source_here", "_law_items"] φ_law_mixed) {φ_forked_count : Fn} (c_forked_count : Cal P w K mg base 2 "forked_count" s_forked_count ["size"] φ_forked_count) {φ_tree_count : Fn} (c_tree_count : Cal P w K mg base 2 "tree_count" s_tree_count ["size"] φ_tree_count) {φ_law_great : Fn} (c_law_great : Cal P w K mg base 2 "_law_great" s_law_great ["_law_many"] φ_law_great) {φ_law_odd_product : Fn} (c_law_odd_product : Cal P w K mg base 2 "_law_odd_product" s_law_odd_product ["_law_many"] φ_law_odd_product)
    (B : ∀ ω, ∃ ρ' ω', (b_law φ_law_pick φ_law_draw φ_law_known φ_law_mixed φ_forked_count φ_tree_count φ_law_great φ_law_odd_product) (none :: some .src :: List.replicate 4 none) ω = some (.rt (.val (.bool true)), ρ', ω')) : FnG P w K mg base CX0 3 f fd ["_law_script"] (spLawG 63) :=
  fng_of F sc_law (fun vs H Q E h => by obtain ⟨a, ns, rfl, _⟩ := h; rfl) fun cdv A outer s H vs Q E hr h => by
    obtain ⟨a, ns, rfl, r, l, q⟩ := h
    have bs : Binds K fds ["_law_script"] [] := Fs.binds fun _ _ _ _ _ _ us hl => match us, hl with | [_], _ => rfl
    have body : PSs (cxOf CX0 P w K mg base n_law "law" (defScope s_law) f cdv A outer s H E0).nox (defBody s_law) (tSeq (tAsg (tG spSrcL (tCons (tVar 0) tNil)) (gName 1)) (liftS (b_law φ_law_pick φ_law_draw φ_law_known φ_law_mixed φ_forked_count φ_tree_count φ_law_great φ_law_odd_product))) :=
      (pss_cons (ps_set (i := 1) sc_law.nd rfl (.inl rfl) (pe_callG Fs (Gs.mono (by decide)) ms bs hr rfl (pa_cons (pv 0) pa_nil)))
      (dss_cons (ds_setV 2 sc_law.nd (de_callF (c_law_pick) hr (by rfl) (da_cons (de_var 1) (da_cons (de_lst (da_cons de_int (da_cons (de_add de_int (de_callF (c_law_draw) hr (by rfl) (da_cons (de_var 1) (da_cons de_int da_nil)))) (da_cons (de_add de_int (de_callF (c_law_draw) hr (by rfl) (da_cons (de_var 1) (da_cons de_int da_nil)))) da_nil)))) da_nil))))
  (dss_cons (ds_setV 3 sc_law.nd (de_callF (c_law_known) hr (by rfl) (da_cons (de_var 2) da_nil)))
  (dss_cons (ds_for PassesOwn.never rfl (di_seq (de_callF (c_law_mixed) hr (by rfl) (da_cons (de_var 1) (da_cons (de_lst (da_cons de_int (da_cons de_int (da_cons de_int (da_cons de_int (da_cons de_int (da_cons de_int (da_cons de_int (da_cons (de_add de_int (de_callF (c_law_draw) hr (by rfl) (da_cons (de_var 1) (da_cons (de_sub (de_var 2) de_int) da_nil)))) (da_cons (de_var 2) da_nil)))))))))) da_nil)))) (dg_name 4 sc_law.nd)
  (dss_one (ds_if (dt_neS hr (de_repr hr m_repr (da_cons (de_lst (da_cons (de_callF (c_tree_count) hr (by rfl) (da_cons (de_var 4) da_nil)) (da_cons (de_callF (c_forked_count) hr (by rfl) (da_cons (de_var 4) da_nil)) da_nil))) da_nil)) (de_repr hr m_repr (da_cons (de_lst (da_cons (de_ix (de_ix (de_var 3) (de_var 4)) de_int) (da_cons (de_ix (de_ix (de_var 3) (de_var 4)) de_int) da_nil))) da_nil)))
  (dss_one (ds_ret de_bl))
  dss_nil)))
  (dss_cons (ds_setV 4 sc_law.nd (de_add de_int (de_callF (c_law_draw) hr (by rfl) (da_cons (de_var 1) (da_cons de_int da_nil)))))
  (dss_cons (ds_setV 5 sc_law.nd (de_lst (da_cons (de_callK0 (c_tree_count) hr (by rfl) kb_tree_count_0_size (dk_cons (de_var 4) dk_nil)) (da_cons (de_callK0 (c_forked_count) hr (by rfl) kb_forked_count_0_size (dk_cons (de_var 4) dk_nil)) (da_cons (de_callK0 (c_forked_count) hr (by rfl) kb_forked_count_0_size (dk_cons (de_var 2) dk_nil)) da_nil)))))
  (dss_cons (ds_if (PW.pt (dw_or (dt_neS hr (de_repr hr m_repr (da_cons (de_var 5) da_nil)) (de_repr hr m_repr (da_cons (de_lst (da_cons (de_ix (de_ix (de_var 3) (de_var 4)) de_int) (da_cons (de_ix (de_ix (de_var 3) (de_var 4)) de_int) (da_cons (de_ix (de_ix (de_var 3) (de_var 2)) de_int) da_nil)))) da_nil))) (dw_or1 (dt_neS hr (de_callF (c_law_great) hr (by rfl) (da_cons (de_var 4) da_nil)) (de_ix (de_ix (de_var 3) (de_var 4)) de_int)))))
  (dss_one (ds_ret de_bl))
  dss_nil)
  (dss_cons (ds_if (dt_eq hr (de_callF (c_law_draw) hr (by rfl) (da_cons (de_var 1) (da_cons de_int da_nil))) de_int)
  (dss_cons (ds_setV 2 sc_law.nd (de_callF (c_law_pick) hr (by rfl) (da_cons (de_var 1) (da_cons (de_lst (da_cons de_int (da_cons de_int (da_cons (de_add de_int (de_callF (c_law_draw) hr (by rfl) (da_cons (de_var 1) (da_cons de_int da_nil)))) da_nil)))) da_nil))))
  (dss_one (ds_if (dt_neS hr (de_repr hr m_repr (da_cons (de_callF (c_tree_count) hr (by rfl) (da_cons (de_var 2) da_nil)) da_nil)) (de_repr hr m_repr (da_cons (de_callF (c_law_great) hr (by rfl) (da_cons (de_var 2) da_nil)) da_nil)))
  (dss_one (ds_ret de_bl))
  dss_nil)))
  dss_nil)
  (dss_cons (ds_for PassesOwn.never rfl (di_seq (de_lst (da_cons (de_add de_int (de_callF (c_law_draw) hr (by rfl) (da_cons (de_var 1) (da_cons de_int da_nil)))) (da_cons (de_callF (c_law_pick) hr (by rfl) (da_cons (de_var 1) (da_cons (de_lst (da_cons de_int (da_cons de_int (da_cons de_int (da_cons de_int (da_cons de_int da_nil)))))) da_nil))) da_nil)))) (dg_name 4 sc_law.nd)
  (dss_one (ds_if (dt_neS hr (de_repr hr m_repr (da_cons (de_callF (c_forked_count) hr (by rfl) (da_cons (de_var 4) da_nil)) da_nil)) (de_repr hr m_repr (da_cons (de_callF (c_law_odd_product) hr (by rfl) (da_cons (de_var 4) da_nil)) da_nil)))
  (dss_one (ds_ret de_bl))
  dss_nil)))
  (dss_one (ds_ret de_bl)))))))))))
    exact ⟨_, body.nox, lift_lawL (N := n_law) rfl B r l q⟩
-- level 3 uses ['repr'] calls ['_law_pick', '_law_draw', '_law_known', '_law_mixed', 'forked_count', 'tree_count', '_law_great', '_law_odd_product']
end DL
set_option Elab.async false
set_option linter.all false
set_option maxRecDepth 100000
set_option maxHeartbeats 1000000
namespace DL
open PySem PySem.Spec L2
open PyProof.Rows hiding St
theorem sFor_inv2 {fi : M Its} {g : PyData → M Unit} {f : M Fl} {items : List PyData} (P : Nat → Env' → Om → Prop) {ρ : Env'} {ω0 ω : Om} (hi : fi ρ ω0 = some (⟨none, items⟩, ρ, ω)) (h0 : P 0 ρ ω)
    (st : ∀ i d ρ ω, items[i]? = some d → P i ρ ω → ∃ ρ1 ω1, (bnd (g d) fun _ => f) ρ ω = some (.nx, ρ1, ω1) ∧ P (i + 1) ρ1 ω1) : ∃ ρ' ω', sFor fi g f ρ ω0 = some (.nx, ρ', ω') ∧ P items.length ρ' ω' := by
  obtain ⟨ρ', ω', e, h⟩ := forL_inv P items 0 ρ ω h0 fun i d ρ ω hi hp => by
    have q := st i d ρ ω hi (by rwa [Nat.zero_add] at hp)
    rwa [← Nat.zero_add i] at q
  refine ⟨ρ', ω', ?_, by rwa [Nat.zero_add] at h⟩
  simp [sFor, bnd, hi, lockM, mayLock, lockAt, e, freeM, freeAt, ret]
structure LawH (T F : Nat → Int) (pk dr kn mx fo tr gr od : Fn) : Prop where
  hp : ∀ L ω, 0 < L.length → L.length ≤ 1000 → ∃ x ω', x ∈ L ∧ pk [.src, .val (.list L)] ω = some (.val x, ω')
  hd : ∀ (n : Int) ω, 0 < n → n < 1000000 → ∃ r : Nat, (r : Int) < n ∧ dr [.src, .val (.int n)] ω = some (.val (.int (r : Int)), shf ω)
  hm : ∀ L ω, L.length ≤ 1000 → ∃ L' ω', (∀ x ∈ L', x ∈ L) ∧ mx [.src, .val (.list L)] ω = some (.own (.list L'), ω')
  hk : ∀ (n : Nat) ω, 1 ≤ n → n ≤ 60 → kn [.val (.int n)] ω = some (.own (.list (KD T F (n + 1))), ω)
  hf : ∀ (n : Nat) ω, 1 ≤ n → n ≤ 200 → fo [.val (.int n)] ω = some (.val (.int (F n)), ω)
  ht : ∀ (n : Nat) ω, 1 ≤ n → n ≤ 200 → tr [.val (.int n)] ω = some (.val (.int (T n)), ω)
  hg : ∀ (n : Nat) ω, 1 ≤ n → n ≤ 200 → gr [.val (.int n)] ω = some (.val (.int (T n)), ω)
  ho : ∀ (n : Nat) ω, 1 ≤ n → n ≤ 200 → od [.val (.int n)] ω = some (.val (.int (F n)), ω)
  bT : ∀ n : Nat, n ≤ 200 → (T n).natAbs.log2 < 1900
  bF : ∀ n : Nat, n ≤ 200 → (F n).natAbs.log2 < 1900
theorem KD_at {T F : Nat → Int} {k m : Nat} (h : k < m) : atI (KD T F m) (k : Int) = some (.tuple [.int (T k), .int (F k)]) := atI_nat (by simp [KD, List.getElem?_range h])
theorem at0 (a b : PyData) : atI [a, b] 0 = some a := rfl
theorem at1 (a b : PyData) : atI [a, b] 1 = some b := rfl
section
variable {T F : Nat → Int} {pk dr kn mx fo tr gr od : Fn} (B : LawH T F pk dr kn mx fo tr gr od)
include B
theorem law_data (ω : Om) : ∃ ρ' ω', (b_law pk dr kn mx fo tr gr od) (none :: some .src :: List.replicate 4 none) ω = some (.rt (.val (.bool true)), ρ', ω') := by
  have u3 : lenOk 3 = true := by decide +kernel
  have u2 : lenOk 2 = true := by decide +kernel
  have u9 : lenOk 9 = true := by decide +kernel
  have u5 : lenOk 5 = true := by decide +kernel
  unfold b_law
  -- many
  obtain ⟨r1, hr1, e1⟩ := B.hd 53 ω (by decide) (by decide)
  obtain ⟨r2, hr2, e2⟩ := B.hd 53 (shf ω) (by decide) (by decide)
  obtain ⟨x, ω3, hx, e3⟩ := B.hp [.int 60, .int (8 + (r1 : Int)), .int (8 + (r2 : Int))] (shf (shf ω)) (by simp) (by simp)
  obtain ⟨m, rfl, hm1, hm2⟩ : ∃ m : Nat, x = .int m ∧ 8 ≤ m ∧ m ≤ 60 := by
    simp only [List.mem_cons, List.not_mem_nil, or_false] at hx
    rcases hx with rfl | rfl | rfl
    · exact ⟨60, rfl, by decide, by decide⟩
    · exact ⟨8 + r1, by simp, by omega, by omega⟩
    · exact ⟨8 + r2, by simp, by omega, by omega⟩
  have s1 : sSetV 2 (dCallF pk (dCons (dVar 1) (dCons (dLst (dCons (dC (.int 60)) (dCons (dAdd (dC (.int 8)) (dCallF dr (dCons (dVar 1) (dCons (dC (.int 53)) dNil)))) (dCons (dAdd (dC (.int 8)) (dCallF dr (dCons (dVar 1) (dCons (dC (.int 53)) dNil)))) dNil)))) dNil))) (none :: some .src :: List.replicate 4 none) ω =
      some (.nx, [none, some .src, some (.val (.int m)), none, none, none], ω3) := by
    simp [sSeq, bnd, ret, opt, now, RC.get, dVar, dC, dAdd, dSub, dMul, dMod, dDiv, dOp, gAdd, gMul, gI, gI0, sSet, sSetV, sAsg, sDrop, gN, gT, gsCons, gsNil, putC, cellOf, cellOfV, dCall, nows, gInt, gSum, gLen, dCons, dNil, dLst, dTup, escs, esc, sRet, nowCell, retCell, iRng, gRng1, gRng2, dIx, gIx, dMeth, ownAt, putOwn, isLst, gAppend, sIf, dBool, boolOf, sNx, dCallF, callF, argsOf, argOf, useF, e1, e2, e3, u3]
  rw [sSeq_nx s1]
  have ek := B.hk m
  have s2 : sSetV 3 (dCallF kn (dCons (dVar 2) dNil)) [none, some .src, some (.val (.int m)), none, none, none] ω3 = some (.nx, [none, some .src, some (.val (.int m)), some (.val (.list (KD T F (m + 1)))), none, none], ω3) := by
    simp [sSeq, bnd, ret, opt, now, RC.get, dVar, dC, dAdd, dSub, dMul, dMod, dDiv, dOp, gAdd, gMul, gI, gI0, sSet, sSetV, sAsg, sDrop, gN, gT, gsCons, gsNil, putC, cellOf, cellOfV, dCall, nows, gInt, gSum, gLen, dCons, dNil, dLst, dTup, escs, esc, sRet, nowCell, retCell, iRng, gRng1, gRng2, dIx, gIx, dMeth, ownAt, putOwn, isLst, gAppend, sIf, dBool, boolOf, sNx, dCallF, callF, argsOf, argOf, useF, ek ω3 (by omega) (by omega)]
  rw [sSeq_nx s2]
  -- the row of sizes
  obtain ⟨r3, hr3, e4⟩ := B.hd ((m : Int) - 7) ω3 (by omega) (by omega)
  obtain ⟨L', ω4, hL, e5⟩ := B.hm [.int 1, .int 2, .int 3, .int 4, .int 5, .int 6, .int 7, .int (8 + (r3 : Int)), .int m] (shf ω3) (by simp)
  have kat : ∀ k : Nat, k ≤ m → atI (KD T F (m + 1)) (k : Int) = some (.tuple [.int (T k), .int (F k)]) := fun k hk => KD_at (by omega)
  obtain ⟨ρ5, ω5, e6, ⟨c4, rfl⟩⟩ := sFor_inv2 (fi := (iSeq (dCallF mx (dCons (dVar 1) (dCons (dLst (dCons (dC (.int 1)) (dCons (dC (.int 2)) (dCons (dC (.int 3)) (dCons (dC (.int 4)) (dCons (dC (.int 5)) (dCons (dC (.int 6)) (dCons (dC (.int 7)) (dCons (dAdd (dC (.int 8)) (dCallF dr (dCons (dVar 1) (dCons (dSub (dVar 2) (dC (.int 7))) dNil)))) (dCons (dVar 2) dNil)))))))))) dNil))))) (g := (gN 4)) (f := (sIf (dBool (dNeS (dCall gRepr (dCons (dLst (dCons (dCallF tr (dCons (dVar 4) dNil)) (dCons (dCallF fo (dCons (dVar 4) dNil)) dNil))) dNil)) (dCall gRepr (dCons (dLst (dCons (dIx (dIx (dVar 3) (dVar 4)) (dC (.int 0))) (dCons (dIx (dIx (dVar 3) (dVar 4)) (dC (.int 1))) dNil))) dNil))))
  (sRet (dC (.bool false)))
  sNx)) (items := L')
    (fun i ρ ωi => ∃ c4, ρ = [none, some .src, some (.val (.int m)), some (.val (.list (KD T F (m + 1)))), c4, none]) (ρ := [none, some .src, some (.val (.int m)), some (.val (.list (KD T F (m + 1)))), none, none]) (ω0 := ω3) (ω := ω4)
    (by simp [sSeq, bnd, ret, opt, now, RC.get, dVar, dC, dAdd, dSub, dMul, dMod, dDiv, dOp, gAdd, gMul, gI, gI0, sSet, sSetV, sAsg, sDrop, gN, gT, gsCons, gsNil, putC, cellOf, cellOfV, dCall, nows, gInt, gSum, gLen, dCons, dNil, dLst, dTup, escs, esc, sRet, nowCell, retCell, iRng, gRng1, gRng2, dIx, gIx, dMeth, ownAt, putOwn, isLst, gAppend, sIf, dBool, boolOf, sNx, iSeq, seqOf, lockOf, dCallF, callF, argsOf, argOf, useF, e4, e5, u9]) ⟨none, rfl⟩ (by
      rintro i d ρ ω6 hd ⟨c4, rfl⟩
      obtain ⟨w, rfl, hw1, hw2⟩ : ∃ w : Nat, d = .int w ∧ 1 ≤ w ∧ w ≤ m := by
        have hx := hL d (List.mem_of_getElem? hd)
        simp only [List.mem_cons, List.not_mem_nil, or_false] at hx
        rcases hx with rfl | rfl | rfl | rfl | rfl | rfl | rfl | rfl | rfl
        · exact ⟨1, rfl, by omega, by omega⟩
        · exact ⟨2, rfl, by omega, by omega⟩
        · exact ⟨3, rfl, by omega, by omega⟩
        · exact ⟨4, rfl, by omega, by omega⟩
        · exact ⟨5, rfl, by omega, by omega⟩
        · exact ⟨6, rfl, by omega, by omega⟩
        · exact ⟨7, rfl, by omega, by omega⟩
        · exact ⟨8 + r3, by simp, by omega, by omega⟩
        · exact ⟨m, rfl, by omega, by omega⟩
      have t1 := B.ht w ω6 hw1 (by omega)
      have t2 := B.hf w ω6 hw1 (by omega)
      have g1 := kat w hw2
      have rp := rep2 (B.bT w (by omega)) (B.bF w (by omega))
      refine ⟨[none, some .src, some (.val (.int m)), some (.val (.list (KD T F (m + 1)))), some (.val (.int w)), none], ω6, ?_, _, rfl⟩
      refine (bnd_gN rfl).trans ?_
      simp [sSeq, bnd, ret, opt, now, RC.get, dVar, dC, dAdd, dSub, dMul, dMod, dDiv, dOp, gAdd, gMul, gI, gI0, sSet, sSetV, sAsg, sDrop, gN, gT, gsCons, gsNil, putC, cellOf, cellOfV, dCall, nows, gInt, gSum, gLen, dCons, dNil, dLst, dTup, escs, esc, sRet, nowCell, retCell, iRng, gRng1, gRng2, dIx, gIx, dMeth, ownAt, putOwn, isLst, gAppend, sIf, dBool, boolOf, sNx, dCallF, callF, argsOf, argOf, useF, t1, t2, g1, at0, at1, u2, gRepr, rp, dNeS, gNeS])
  rw [sSeq_nx e6]
  -- one size, by keywords
  obtain ⟨r4, hr4, e7⟩ := B.hd 8 ω5 (by decide) (by decide)
  have s4 : (sSetV 4 (dAdd (dC (.int 1)) (dCallF dr (dCons (dVar 1) (dCons (dC (.int 8)) dNil))))) [none, some .src, some (.val (.int m)), some (.val (.list (KD T F (m + 1)))), c4, none] ω5 = some (.nx, [none, some .src, some (.val (.int m)), some (.val (.list (KD T F (m + 1)))), some (.val (.int ((1 + r4 : Nat) : Int))), none], shf ω5) := by
    simp [sSeq, bnd, ret, opt, now, RC.get, dVar, dC, dAdd, dSub, dMul, dMod, dDiv, dOp, gAdd, gMul, gI, gI0, sSet, sSetV, sAsg, sDrop, gN, gT, gsCons, gsNil, putC, cellOf, cellOfV, dCall, nows, gInt, gSum, gLen, dCons, dNil, dLst, dTup, escs, esc, sRet, nowCell, retCell, iRng, gRng1, gRng2, dIx, gIx, dMeth, ownAt, putOwn, isLst, gAppend, sIf, dBool, boolOf, sNx, dCallF, callF, argsOf, argOf, useF, e7]
  rw [sSeq_nx s4]
  generalize hw : 1 + r4 = w
  have w1 : 1 ≤ w := by omega
  have w2 : w ≤ 8 := by omega
  generalize shf ω5 = ω7
  have t1 := B.ht w ω7 w1 (by omega)
  have t2 := B.hf w ω7 w1 (by omega)
  have t3 := B.hf m ω7 (by omega) (by omega)
  have s5 : (sSetV 5 (dLst (dCons (dKw [0] 0 1 tr dNil (dCons (dVar 4) dNil)) (dCons (dKw [0] 0 1 fo dNil (dCons (dVar 4) dNil)) (dCons (dKw [0] 0 1 fo dNil (dCons (dVar 2) dNil)) dNil))))) [none, some .src, some (.val (.int m)), some (.val (.list (KD T F (m + 1)))), some (.val (.int w)), none] ω7 = some (.nx, [none, some .src, some (.val (.int m)), some (.val (.list (KD T F (m + 1)))), some (.val (.int w)), some (.val (.list [.int (T w), .int (F w), .int (F m)]))], ω7) := by
    simp [sSeq, bnd, ret, opt, now, RC.get, dVar, dC, dAdd, dSub, dMul, dMod, dDiv, dOp, gAdd, gMul, gI, gI0, sSet, sSetV, sAsg, sDrop, gN, gT, gsCons, gsNil, putC, cellOf, cellOfV, dCall, nows, gInt, gSum, gLen, dCons, dNil, dLst, dTup, escs, esc, sRet, nowCell, retCell, iRng, gRng1, gRng2, dIx, gIx, dMeth, ownAt, putOwn, isLst, gAppend, sIf, dBool, boolOf, sNx, dKw, perm, callF, argsOf, argOf, useF, t1, t2, t3, u3]
  rw [sSeq_nx s5]
  have g1 := kat w (by omega)
  have g2 := kat m (by omega)
  have t4 := B.hg w ω7 w1 (by omega)
  have rp := rep3 (B.bT w (by omega)) (B.bF w (by omega)) (B.bF m (by omega))
  have s6 : (sIf (dOr (dBool (dNeS (dCall gRepr (dCons (dVar 5) dNil)) (dCall gRepr (dCons (dLst (dCons (dIx (dIx (dVar 3) (dVar 4)) (dC (.int 0))) (dCons (dIx (dIx (dVar 3) (dVar 4)) (dC (.int 1))) (dCons (dIx (dIx (dVar 3) (dVar 2)) (dC (.int 1))) dNil)))) dNil)))) (dBool (dNeS (dCallF gr (dCons (dVar 4) dNil)) (dIx (dIx (dVar 3) (dVar 4)) (dC (.int 0))))))
  (sRet (dC (.bool false)))
  sNx) [none, some .src, some (.val (.int m)), some (.val (.list (KD T F (m + 1)))), some (.val (.int w)), some (.val (.list [.int (T w), .int (F w), .int (F m)]))] ω7 = some (.nx, [none, some .src, some (.val (.int m)), some (.val (.list (KD T F (m + 1)))), some (.val (.int w)), some (.val (.list [.int (T w), .int (F w), .int (F m)]))], ω7) := by
    simp [sSeq, bnd, ret, opt, now, RC.get, dVar, dC, dAdd, dSub, dMul, dMod, dDiv, dOp, gAdd, gMul, gI, gI0, sSet, sSetV, sAsg, sDrop, gN, gT, gsCons, gsNil, putC, cellOf, cellOfV, dCall, nows, gInt, gSum, gLen, dCons, dNil, dLst, dTup, escs, esc, sRet, nowCell, retCell, iRng, gRng1, gRng2, dIx, gIx, dMeth, ownAt, putOwn, isLst, gAppend, sIf, dBool, boolOf, sNx, dOr, dCallF, callF, argsOf, argOf, useF, t4, g1, g2, at0, at1, u3, gRepr, rp, dNeS, gNeS, gNe, eqOk_int, PyData.eqv]
  rw [sSeq_nx s6]
  -- a great size
  generalize hc5 : (some (Cell.val (.list [.int (T w), .int (F w), .int (F m)]))) = c5
  obtain ⟨r5, hr5, e8⟩ := B.hd 4 ω7 (by decide) (by decide)
  obtain ⟨m', ω9, s7⟩ : ∃ (m' : Nat) (ω9 : Om), (sIf (dBool (dEq (dCallF dr (dCons (dVar 1) (dCons (dC (.int 4)) dNil))) (dC (.int 0))))
  (sSeq (sSetV 2 (dCallF pk (dCons (dVar 1) (dCons (dLst (dCons (dC (.int 200)) (dCons (dC (.int 199)) (dCons (dAdd (dC (.int 61)) (dCallF dr (dCons (dVar 1) (dCons (dC (.int 140)) dNil)))) dNil)))) dNil))))
  (sIf (dBool (dNeS (dCall gRepr (dCons (dCallF tr (dCons (dVar 2) dNil)) dNil)) (dCall gRepr (dCons (dCallF gr (dCons (dVar 2) dNil)) dNil))))
  (sRet (dC (.bool false)))
  sNx))
  sNx) [none, some .src, some (.val (.int m)), some (.val (.list (KD T F (m + 1)))), some (.val (.int w)), c5] ω7 = some (.nx, [none, some .src, some (.val (.int m')), some (.val (.list (KD T F (m + 1)))), some (.val (.int w)), c5], ω9) := by
    by_cases h0 : r5 = 0
    · subst h0
      obtain ⟨r6, hr6, e9⟩ := B.hd 140 (shf ω7) (by decide) (by decide)
      obtain ⟨x, ω9, hx, e10⟩ := B.hp [.int 200, .int 199, .int (61 + (r6 : Int))] (shf (shf ω7)) (by simp) (by simp)
      obtain ⟨m', rfl, q1, q2⟩ : ∃ m' : Nat, x = .int m' ∧ 1 ≤ m' ∧ m' ≤ 200 := by
        simp only [List.mem_cons, List.not_mem_nil, or_false] at hx
        rcases hx with rfl | rfl | rfl
        · exact ⟨200, rfl, by decide, by decide⟩
        · exact ⟨199, rfl, by decide, by decide⟩
        · exact ⟨61 + r6, by simp, by omega, by omega⟩
      have t5 := B.ht m' ω9 q1 q2
      have t6 := B.hg m' ω9 q1 q2
      have rp := rep1 (B.bT m' q2)
      refine ⟨m', ω9, ?_⟩
      simp at e8
      simp [sSeq, bnd, ret, opt, now, RC.get, dVar, dC, dAdd, dSub, dMul, dMod, dDiv, dOp, gAdd, gMul, gI, gI0, sSet, sSetV, sAsg, sDrop, gN, gT, gsCons, gsNil, putC, cellOf, cellOfV, dCall, nows, gInt, gSum, gLen, dCons, dNil, dLst, dTup, escs, esc, sRet, nowCell, retCell, iRng, gRng1, gRng2, dIx, gIx, dMeth, ownAt, putOwn, isLst, gAppend, sIf, dBool, boolOf, sNx, dEq, gEq, eqOk_int, PyData.eqv, dCallF, callF, argsOf, argOf, useF, e8, e9, e10, t5, t6, u3, gRepr, rp, dNeS, gNeS]
    · refine ⟨m, shf ω7, ?_⟩
      have h0' : ¬ ((r5 : Int) = 0) := by omega
      simp [sSeq, bnd, ret, opt, now, RC.get, dVar, dC, dAdd, dSub, dMul, dMod, dDiv, dOp, gAdd, gMul, gI, gI0, sSet, sSetV, sAsg, sDrop, gN, gT, gsCons, gsNil, putC, cellOf, cellOfV, dCall, nows, gInt, gSum, gLen, dCons, dNil, dLst, dTup, escs, esc, sRet, nowCell, retCell, iRng, gRng1, gRng2, dIx, gIx, dMeth, ownAt, putOwn, isLst, gAppend, sIf, dBool, boolOf, sNx, dEq, gEq, eqOk_int, PyData.eqv, dCallF, callF, argsOf, argOf, useF, e8, h0, h0']
  rw [sSeq_nx s7]
  -- the odd products
  obtain ⟨r7, hr7, e11⟩ := B.hd 200 ω9 (by decide) (by decide)
  obtain ⟨x, ω10, hx, e12⟩ := B.hp [.int 1, .int 2, .int 3, .int 199, .int 200] (shf ω9) (by simp) (by simp)
  obtain ⟨ρ8, ω11, e13, ⟨c4', rfl⟩⟩ := sFor_inv2 (fi := (iSeq (dLst (dCons (dAdd (dC (.int 1)) (dCallF dr (dCons (dVar 1) (dCons (dC (.int 200)) dNil)))) (dCons (dCallF pk (dCons (dVar 1) (dCons (dLst (dCons (dC (.int 1)) (dCons (dC (.int 2)) (dCons (dC (.int 3)) (dCons (dC (.int 199)) (dCons (dC (.int 200)) dNil)))))) dNil))) dNil))))) (g := (gN 4)) (f := (sIf (dBool (dNeS (dCall gRepr (dCons (dCallF fo (dCons (dVar 4) dNil)) dNil)) (dCall gRepr (dCons (dCallF od (dCons (dVar 4) dNil)) dNil))))
  (sRet (dC (.bool false)))
  sNx)) (items := [.int (1 + (r7 : Int)), x])
    (fun i ρ ωi => ∃ c4, ρ = [none, some .src, some (.val (.int m')), some (.val (.list (KD T F (m + 1)))), c4, c5]) (ρ := [none, some .src, some (.val (.int m')), some (.val (.list (KD T F (m + 1)))), some (.val (.int w)), c5]) (ω0 := ω9) (ω := ω10)
    (by simp [sSeq, bnd, ret, opt, now, RC.get, dVar, dC, dAdd, dSub, dMul, dMod, dDiv, dOp, gAdd, gMul, gI, gI0, sSet, sSetV, sAsg, sDrop, gN, gT, gsCons, gsNil, putC, cellOf, cellOfV, dCall, nows, gInt, gSum, gLen, dCons, dNil, dLst, dTup, escs, esc, sRet, nowCell, retCell, iRng, gRng1, gRng2, dIx, gIx, dMeth, ownAt, putOwn, isLst, gAppend, sIf, dBool, boolOf, sNx, iSeq, seqOf, lockOf, dCallF, callF, argsOf, argOf, useF, e11, e12, u2, u5]) ⟨_, rfl⟩ (by
      rintro i d ρ ω6 hd ⟨c4, rfl⟩
      obtain ⟨w, rfl, hw1, hw2⟩ : ∃ w : Nat, d = .int w ∧ 1 ≤ w ∧ w ≤ 200 := by
        have hy := List.mem_of_getElem? hd
        simp only [List.mem_cons, List.not_mem_nil, or_false] at hx hy
        rcases hy with rfl | rfl
        · exact ⟨1 + r7, by simp, by omega, by omega⟩
        · rcases hx with rfl | rfl | rfl | rfl | rfl
          · exact ⟨1, rfl, by omega, by omega⟩
          · exact ⟨2, rfl, by omega, by omega⟩
          · exact ⟨3, rfl, by omega, by omega⟩
          · exact ⟨199, rfl, by omega, by omega⟩
          · exact ⟨200, rfl, by omega, by omega⟩
      have t1 := B.ho w ω6 hw1 hw2
      have t2 := B.hf w ω6 hw1 hw2
      have rp := rep1 (B.bF w hw2)
      refine ⟨[none, some .src, some (.val (.int m')), some (.val (.list (KD T F (m + 1)))), some (.val (.int w)), c5], ω6, ?_, _, rfl⟩
      refine (bnd_gN rfl).trans ?_
      simp [sSeq, bnd, ret, opt, now, RC.get, dVar, dC, dAdd, dSub, dMul, dMod, dDiv, dOp, gAdd, gMul, gI, gI0, sSet, sSetV, sAsg, sDrop, gN, gT, gsCons, gsNil, putC, cellOf, cellOfV, dCall, nows, gInt, gSum, gLen, dCons, dNil, dLst, dTup, escs, esc, sRet, nowCell, retCell, iRng, gRng1, gRng2, dIx, gIx, dMeth, ownAt, putOwn, isLst, gAppend, sIf, dBool, boolOf, sNx, dCallF, callF, argsOf, argOf, useF, t1, t2, gRepr, rp, dNeS, gNeS])
  rw [sSeq_nx e13]
  exact ⟨_, _, by simp [sSeq, bnd, ret, opt, now, RC.get, dVar, dC, dAdd, dSub, dMul, dMod, dDiv, dOp, gAdd, gMul, gI, gI0, sSet, sSetV, sAsg, sDrop, gN, gT, gsCons, gsNil, putC, cellOf, cellOfV, dCall, nows, gInt, gSum, gLen, dCons, dNil, dLst, dTup, escs, esc, sRet, nowCell, retCell, iRng, gRng1, gRng2, dIx, gIx, dMeth, ownAt, putOwn, isLst, gAppend, sIf, dBool, boolOf, sNx]; exact ⟨rfl, rfl⟩⟩
end
end DL
set_option Elab.async false
set_option linter.all false
set_option maxRecDepth 100000
set_option maxHeartbeats 1000000
namespace DL
open PySem PySem.Spec L2
open PyProof.Rows hiding St
theorem TN_log : TN.all (fun x => Nat.blt x (2 ^ 1900)) = true := by decide +kernel
theorem fn_lt : ∀ n, n ≤ 200 → fn n < 2 ^ (9 * n + 1)
  | 0, _ => by decide
  | 1, _ => by decide
  | n + 2, h => by
    have ih := fn_lt (n + 1) (by omega)
    have h2 : fn (n + 2) ≤ fn (n + 1) * 512 := Nat.mul_le_mul_left _ (by omega)
    have h3 : 2 ^ (9 * (n + 2) + 1) = 2 ^ (9 * (n + 1) + 1) * 512 := by rw [show 9 * (n + 2) + 1 = 9 * (n + 1) + 1 + 9 by omega, Nat.pow_add]
    rw [h3]
    exact Nat.lt_of_le_of_lt h2 (Nat.mul_lt_mul_of_pos_right ih (by decide))
theorem Fk_log : ∀ n < 201, (Fk n).natAbs.log2 < 1900 := fun n h => by
  cases n with
  | zero => decide
  | succ n =>
    show (fk (n + 1)).natAbs.log2 < 1900
    rw [fk_fn, Int.natAbs_natCast]
    exact Nat.lt_of_lt_of_le (log_lt (fn_lt (n + 1) (by omega)) (by omega)) (by omega)
theorem Fk_fk {n : Nat} (h : 1 ≤ n) : Fk n = fk n := by
  obtain ⟨k, rfl⟩ : ∃ k, n = k + 1 := ⟨n - 1, by omega⟩
  rfl
theorem lawH : LawH T Fk (fnB 2 2 (b_law_pick fDraw)) fDraw (fnB 1 7 b_law_known) (fnB 2 4 (b_law_mixed fDraw)) (fnB 1 3 b_forked_count) fTree (fnB 1 7 b_law_great) (fnB 1 4 b_law_odd_product) where
  hp := fun L ω h1 h2 => den_pick h1 h2 ω
  hd := fun n ω h1 h2 => draw_at h1 h2 ω
  hm := fun L ω h => den_mixed h ω
  hk := fun n ω h1 h2 => known_at h1 h2 ω
  hf := fun n ω h1 h2 => by rw [Fk_fk h1]; exact den_forked h1 h2 ω
  ht := fun n ω h1 h2 => tree_at h1 h2 ω
  hg := fun n ω h1 h2 => great_at h1 h2 ω
  ho := fun n ω h1 h2 => by rw [Fk_fk h1]; exact den_odd h1 h2 ω
  bT := fun n h => by
    have h1 := TN_at h
    have h2 := List.all_eq_true.mp TN_log _ (List.mem_of_getElem? h1)
    exact log_lt (x := 1900) (Nat.le_of_ble_eq_true h2) (by decide)
  bF := fun n h => Fk_log n (by omega)
theorem all_mk {l : PySem.W.OpenLaw} {w : World} {K : PySem.W.Frag} {h : Heap} {mg : Str → Option Value} {fa f0 f1 f2 f3 f4 f5 f6 f7 f8 f9 f10 : Addr} (X : K.In h) (G : h.Ns mainGlobals mg) (hfa : mg "law" = some (.ref fa))
    {od0 an0 : Option Addr} {sl0 : Array (Option Value)} {oc0 kV0 dc0 pm0 cd0 ct0 : Value}
    (a0 : PySem.W.nsIn K mainGlobals "tree_counts" = some (some (.ref f0))) (l0 : K.lookup f0 = some ⟨oc0, od0, .func (PySem.W.fnOf "tree_counts" "tree_counts" (defArgs s_tree_counts) (defBody s_tree_counts) (defScope s_tree_counts) .none kV0 dc0 pm0 an0 cd0 ct0), sl0⟩) (c0 : PySem.W.codeIn K cd0 "tree_counts" = true) (k0 : PySem.W.keepIn K (.ref f0) = true)
    {od1 an1 : Option Addr} {sl1 : Array (Option Value)} {oc1 kV1 dc1 pm1 cd1 ct1 : Value}
    (a1 : PySem.W.nsIn K mainGlobals "tree_count" = some (some (.ref f1))) (l1 : K.lookup f1 = some ⟨oc1, od1, .func (PySem.W.fnOf "tree_count" "tree_count" (defArgs s_tree_count) (defBody s_tree_count) (defScope s_tree_count) .none kV1 dc1 pm1 an1 cd1 ct1), sl1⟩) (c1 : PySem.W.codeIn K cd1 "tree_count" = true) (k1 : PySem.W.keepIn K (.ref f1) = true)
    {od2 an2 : Option Addr} {sl2 : Array (Option Value)} {oc2 kV2 dc2 pm2 cd2 ct2 : Value}
    (a2 : PySem.W.nsIn K mainGlobals "forked_count" = some (some (.ref f2))) (l2 : K.lookup f2 = some ⟨oc2, od2, .func (PySem.W.fnOf "forked_count" "forked_count" (defArgs s_forked_count) (defBody s_forked_count) (defScope s_forked_count) .none kV2 dc2 pm2 an2 cd2 ct2), sl2⟩) (c2 : PySem.W.codeIn K cd2 "forked_count" = true) (k2 : PySem.W.keepIn K (.ref f2) = true)
    {od3 an3 : Option Addr} {sl3 : Array (Option Value)} {oc3 kV3 dc3 pm3 cd3 ct3 : Value}
    (a3 : PySem.W.nsIn K mainGlobals "_law_source" = some (some (.ref f3))) (l3 : K.lookup f3 = some ⟨oc3, od3, .func (PySem.W.fnOf "_law_source" "_law_source" (defArgs s_law_source) (defBody s_law_source) (defScope s_law_source) .none kV3 dc3 pm3 an3 cd3 ct3), sl3⟩) (c3 : PySem.W.codeIn K cd3 "_law_source" = true) (k3 : PySem.W.keepIn K (.ref f3) = true)
    {od4 an4 : Option Addr} {sl4 : Array (Option Value)} {oc4 kV4 dc4 pm4 cd4 ct4 : Value}
    (a4 : PySem.W.nsIn K mainGlobals "_law_draw" = some (some (.ref f4))) (l4 : K.lookup f4 = some ⟨oc4, od4, .func (PySem.W.fnOf "_law_draw" "_law_draw" (defArgs s_law_draw) (defBody s_law_draw) (defScope s_law_draw) .none kV4 dc4 pm4 an4 cd4 ct4), sl4⟩) (c4 : PySem.W.codeIn K cd4 "_law_draw" = true) (k4 : PySem.W.keepIn K (.ref f4) = true)
    {od5 an5 : Option Addr} {sl5 : Array (Option Value)} {oc5 kV5 dc5 pm5 cd5 ct5 : Value}
    (a5 : PySem.W.nsIn K mainGlobals "_law_pick" = some (some (.ref f5))) (l5 : K.lookup f5 = some ⟨oc5, od5, .func (PySem.W.fnOf "_law_pick" "_law_pick" (defArgs s_law_pick) (defBody s_law_pick) (defScope s_law_pick) .none kV5 dc5 pm5 an5 cd5 ct5), sl5⟩) (c5 : PySem.W.codeIn K cd5 "_law_pick" = true) (k5 : PySem.W.keepIn K (.ref f5) = true)
    {od6 an6 : Option Addr} {sl6 : Array (Option Value)} {oc6 kV6 dc6 pm6 cd6 ct6 : Value}
    (a6 : PySem.W.nsIn K mainGlobals "_law_known" = some (some (.ref f6))) (l6 : K.lookup f6 = some ⟨oc6, od6, .func (PySem.W.fnOf "_law_known" "_law_known" (defArgs s_law_known) (defBody s_law_known) (defScope s_law_known) .none kV6 dc6 pm6 an6 cd6 ct6), sl6⟩) (c6 : PySem.W.codeIn K cd6 "_law_known" = true) (k6 : PySem.W.keepIn K (.ref f6) = true)
    {od7 an7 : Option Addr} {sl7 : Array (Option Value)} {oc7 kV7 dc7 pm7 cd7 ct7 : Value}
    (a7 : PySem.W.nsIn K mainGlobals "_law_great" = some (some (.ref f7))) (l7 : K.lookup f7 = some ⟨oc7, od7, .func (PySem.W.fnOf "_law_great" "_law_great" (defArgs s_law_great) (defBody s_law_great) (defScope s_law_great) .none kV7 dc7 pm7 an7 cd7 ct7), sl7⟩) (c7 : PySem.W.codeIn K cd7 "_law_great" = true) (k7 : PySem.W.keepIn K (.ref f7) = true)
    {od8 an8 : Option Addr} {sl8 : Array (Option Value)} {oc8 kV8 dc8 pm8 cd8 ct8 : Value}
    (a8 : PySem.W.nsIn K mainGlobals "_law_odd_product" = some (some (.ref f8))) (l8 : K.lookup f8 = some ⟨oc8, od8, .func (PySem.W.fnOf "_law_odd_product" "_law_odd_product" (defArgs s_law_odd_product) (defBody s_law_odd_product) (defScope s_law_odd_product) .none kV8 dc8 pm8 an8 cd8 ct8), sl8⟩) (c8 : PySem.W.codeIn K cd8 "_law_odd_product" = true) (k8 : PySem.W.keepIn K (.ref f8) = true)
    {od9 an9 : Option Addr} {sl9 : Array (Option Value)} {oc9 kV9 dc9 pm9 cd9 ct9 : Value}
    (a9 : PySem.W.nsIn K mainGlobals "_law_mixed" = some (some (.ref f9))) (l9 : K.lookup f9 = some ⟨oc9, od9, .func (PySem.W.fnOf "_law_mixed" "_law_mixed" (defArgs s_law_mixed) (defBody s_law_mixed) (defScope s_law_mixed) .none kV9 dc9 pm9 an9 cd9 ct9), sl9⟩) (c9 : PySem.W.codeIn K cd9 "_law_mixed" = true) (k9 : PySem.W.keepIn K (.ref f9) = true)
    {od10 an10 : Option Addr} {sl10 : Array (Option Value)} {oc10 kV10 dc10 pm10 cd10 ct10 : Value}
    (a10 : PySem.W.nsIn K mainGlobals "law" = some (some (.ref f10))) (l10 : K.lookup f10 = some ⟨oc10, od10, .func (PySem.W.fnOf "law" "law" (defArgs s_law) (defBody s_law) (defScope s_law) .none kV10 dc10 pm10 an10 cd10 ct10), sl10⟩) (c10 : PySem.W.codeIn K cd10 "law" = true) (k10 : PySem.W.keepIn K (.ref f10) = true)
    (z_range : PySem.W.nsIn K mainGlobals "range" = some none)
    (z_len : PySem.W.nsIn K mainGlobals "len" = some none)
    (z_sum : PySem.W.nsIn K mainGlobals "sum" = some none)
    (z_int : PySem.W.nsIn K mainGlobals "int" = some none)
    (z_repr : PySem.W.nsIn K mainGlobals "repr" = some none)
    : ∃ fd : FuncData, (∀ (s : Shared) (v : Value), BindsTo s fd ⟨[v], []⟩ [("_law_script", v)]) ∧ ∀ base : Heap, K.In base → base.Ns mainGlobals mg → FnG l.prog w K mg base CX0 3 fa fd ["_law_script"] (spLawG 63) := by
  have e := hfa.symm.trans (PySem.W.mg_of X G a10)
  cases e
  have F0 := fun_mk (st := s_tree_counts) l0 c0 k0
  have F1 := fun_mk (st := s_tree_count) l1 c1 k1
  have F2 := fun_mk (st := s_forked_count) l2 c2 k2
  have F3 := fun_mk (st := s_law_source) l3 c3 k3
  have F4 := fun_mk (st := s_law_draw) l4 c4 k4
  have F5 := fun_mk (st := s_law_pick) l5 c5 k5
  have F6 := fun_mk (st := s_law_known) l6 c6 k6
  have F7 := fun_mk (st := s_law_great) l7 c7 k7
  have F8 := fun_mk (st := s_law_odd_product) l8 c8 k8
  have F9 := fun_mk (st := s_law_mixed) l9 c9 k9
  have F10 := fun_mk (st := s_law) l10 c10 k10
  have g0 := PySem.W.mg_of X G a0
  have g1 := PySem.W.mg_of X G a1
  have g2 := PySem.W.mg_of X G a2
  have g3 := PySem.W.mg_of X G a3
  have g4 := PySem.W.mg_of X G a4
  have g5 := PySem.W.mg_of X G a5
  have g6 := PySem.W.mg_of X G a6
  have g7 := PySem.W.mg_of X G a7
  have g8 := PySem.W.mg_of X G a8
  have g9 := PySem.W.mg_of X G a9
  have g10 := PySem.W.mg_of X G a10
  have m_range := PySem.W.mg_none_of X G z_range
  have m_len := PySem.W.mg_none_of X G z_len
  have m_sum := PySem.W.mg_none_of X G z_sum
  have m_int := PySem.W.mg_none_of X G z_int
  have m_repr := PySem.W.mg_none_of X G z_repr
  refine ⟨PySem.W.fnOf "law" "law" (defArgs s_law) (defBody s_law) (defScope s_law) .none kV10 dc10 pm10 an10 cd10 ct10, fun s v => .of_eq rfl, fun base _ _ => ?_⟩
  have C0 := cal_tree_counts (P := l.prog) (w := w) (base := base) F0 g0 m_range
  have C1 := cal_tree_count F1 g1 C0
  have C2 := cal_forked_count (P := l.prog) (w := w) (base := base) F2 g2 m_range
  have C4 := drw (P := l.prog) (w := w) (base := base) F4 g4 m_int m_len
  have C5 := cal_law_pick F5 g5 m_len C4
  have C6 := cal_law_known (P := l.prog) (w := w) (base := base) F6 g6 m_range m_sum
  have C7 := cal_law_great (P := l.prog) (w := w) (base := base) F7 g7 m_int m_range m_sum
  have C8 := cal_law_odd_product (P := l.prog) (w := w) (base := base) F8 g8 m_int m_range
  have C9 := cal_law_mixed F9 g9 m_len C4
  have S3 := @src_law_source ⟨fun _ _ _ => True⟩ (fun _ _ _ => trivial) l.prog w K mg base _ _ F3 m_len m_sum
  exact ok_law F10 F3 S3 g3 m_repr C5 (C4.mono (by decide)) (C6.mono (by decide)) C9 (C2.mono (by decide)) C1 (C7.mono (by decide)) (C8.mono (by decide)) fun ω => law_data lawH ω
end DL
open PySem PySem.W PyProof.Rows
set_option maxHeartbeats 0 in
theorem PySem.Challenge.cw_forktold_k78_how_many_trees_holds : PySem.Challenge.rw_forktold_k78_how_many_trees.Holds := by
  w_on; o_law; k_head; (case hw => w_witness2)
  k_fill
  refine DL.walk_ofG (l := PySem.Challenge.rw_forktold_k78_how_many_trees) (n := 63) (k := 3) (x := "_law_script") rfl (by decide) rfl ⟨⟨rfl, by decide, by decide⟩, rfl⟩ (fun w h Y => PySem.W.kIn_of Y) ?hNL ?F
  case hNL => intro w; rfl
  case F =>
    intro w mg fa h KX G hmg
    refine' DL.all_mk KX G hmg ?a0 ?l0 ?c0 ?k0 ?a1 ?l1 ?c1 ?k1 ?a2 ?l2 ?c2 ?k2 ?a3 ?l3 ?c3 ?k3 ?a4 ?l4 ?c4 ?k4 ?a5 ?l5 ?c5 ?k5 ?a6 ?l6 ?c6 ?k6 ?a7 ?l7 ?c7 ?k7 ?a8 ?l8 ?c8 ?k8 ?a9 ?l9 ?c9 ?k9 ?a10 ?l10 ?c10 ?k10 ?z_range ?z_len ?z_sum ?z_int ?z_repr
    (case a0 => k_is); (case l0 => k_is); (case c0 => k_is); (case k0 => k_is); (case a1 => k_is); (case l1 => k_is); (case c1 => k_is); (case k1 => k_is); (case a2 => k_is); (case l2 => k_is); (case c2 => k_is); (case k2 => k_is); (case a3 => k_is); (case l3 => k_is); (case c3 => k_is); (case k3 => k_is); (case a4 => k_is); (case l4 => k_is); (case c4 => k_is); (case k4 => k_is); (case a5 => k_is); (case l5 => k_is); (case c5 => k_is); (case k5 => k_is); (case a6 => k_is); (case l6 => k_is); (case c6 => k_is); (case k6 => k_is); (case a7 => k_is); (case l7 => k_is); (case c7 => k_is); (case k7 => k_is); (case a8 => k_is); (case l8 => k_is); (case c8 => k_is); (case k8 => k_is); (case a9 => k_is); (case l9 => k_is); (case c9 => k_is); (case k9 => k_is); (case a10 => k_is); (case l10 => k_is); (case c10 => k_is); (case k10 => k_is); (case z_range => k_is); (case z_len => k_is); (case z_sum => k_is); (case z_int => k_is); (case z_repr => k_is)
