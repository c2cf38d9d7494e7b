import PyProof.Rows.All
import Wide.All
import OpenK.AllK
import Wide.FinOn
import HandS.ForMost
import HandS.Exc
import HandS.TryOnly
import HandS.ExcOwn
import HandS.HotCalls
import HandS.ExcCtx
import HandS.TupAny
import HandS.TupMul
import HandS.Wide
import HandS.WideBits
import HandS.Deep
import HandS.SortInts
import HandS.Text
import HandS.SetFor
import HandS.More
import HandS.Iter
import HandS.Style
import HandS.Ends
import HandS.Flow
import HandS.Words
import HandS.IsInst
import HandS.RaiseMore
import PyProof.ReprRoads
import HandS.ExcIs
import PyProof.Rows.CountFlat
import HandS.HeadHook3
import PyProof.ReprBulk
import PyProof.P3Eq
import PySem.Challenge.RW_partshold_k21_lines_and_forms
set_option Elab.async false
set_option linter.all false
set_option maxRecDepth 100000
set_option maxHeartbeats 4000000
namespace Mv
open PySem PySem.Spec PyProof.Rows L2

abbrev Dt := PySem.PyData
/-- what a variable of its own holds that may still be changed -/
inductive O where
  | lst (l : List Dt)
  | dct (l : List (Dt × Dt))
def O.d : O → Dt
  | .lst l => .list l
  | .dct l => .dict l
inductive SV where
  | val (d : Dt)
  | own (o : O)
abbrev Rho := List (Option SV)
inductive EV where
  | val (d : Dt)
  | slot (i : Nat)
  | new (o : O)
inductive R (α : Type) where
  | ok (a : α)
  | ex (c : Str)
  | bad
def R.bind {α β : Type} : R α → (α → R β) → R β
  | .ok a, f => f a
  | .ex c, _ => .ex c
  | .bad, _ => .bad
/-- the module's own tuples (constants) that the law's text bears -/
def CS : List Dt := []
/-- a tuple of the module -/
def Kt (K : PySem.W.Frag) (a : Addr) (xs : List V) : Prop := ∃ (o : Obj) (its : Array Value) (n : Nat), K.lookup a = some o ∧ o.cls = .type "tuple" ∧ o.data = .seq its n ∧ its.size ≤ sizeLine ∧ Vals xs its.toList
def TupAt (K : PySem.W.Frag) (F : Hp) (ds : List Dt) (a : Addr) (xs : List V) : Prop := F a = some (.tup xs) ∨ (PyData.tuple ds ∈ CS ∧ Kt K a xs)
theorem TupAt.sq {K : PySem.W.Frag} {F : Hp} {ds : List Dt} {a : Addr} {xs : List V} (h : TupAt K F ds a xs) : SqT K F a xs := h.elim (fun z => .inl (.inl z)) fun z => .inr z.2
def keyD : Key → Dt
  | .inl i => .int i
  | .inr x => .str x

section
variable (K : PySem.W.Frag) (F : Hp)
mutual
def Rep : Dt → V → Prop
  | .none, v => v = .non
  | .bool b, v => v = .bl b
  | .int i, v => v = .int i
  | .str x, v => v = .str x
  | .list ds, v => ∃ a xs, v = .ref a ∧ Rd F a (.lst xs) ∧ xs.length ≤ sizeLine ∧ RepAll ds xs
  | .tuple ds, v => ∃ a xs, v = .ref a ∧ TupAt K F ds a xs ∧ xs.length ≤ sizeLine ∧ RepAll ds xs
  | .dict kvs, v => ∃ a, v = .ref a ∧ kvs.length ≤ sizeLine ∧ ((∃ ks, F a = some (.dK ks) ∧ RepKV kvs ks) ∨ ∃ ks, F a = some (.dT ks) ∧ RepTV kvs ks)
def RepAll : List Dt → List V → Prop
  | [], xs => xs = []
  | d :: ds, xs => ∃ v vs, xs = v :: vs ∧ Rep d v ∧ RepAll ds vs
def RepKV : List (Dt × Dt) → List (Key × V) → Prop
  | [], ks => ks = []
  | (k, d) :: r, ks => ∃ k' v t, ks = (k', v) :: t ∧ k = keyD k' ∧ Rep d v ∧ RepKV r t
def RepTV : List (Dt × Dt) → List (List Key × V) → Prop
  | [], ks => ks = []
  | (k, d) :: r, ks => ∃ k' v t, ks = (k', v) :: t ∧ k = .tuple (k'.map keyD) ∧ Rep d v ∧ RepTV r t
end
end
def LeF (F F' : Hp) : Prop := ∀ a o, F a = some o → F' a = some o
theorem LeF.refl (F : Hp) : LeF F F := fun _ _ h => h
theorem LeF.trans {F F1 F2 : Hp} (a : LeF F F1) (b : LeF F1 F2) : LeF F F2 := fun x o h => b x o (a x o h)
def LeH (F H : Hp) : Prop := ∀ a o, F a = some o → H a = some o ∨ (Mut (some o) ∧ ∃ od, H a = some (.frz od o))
theorem LeH.of {F H : Hp} (h : LeF F H) : LeH F H := fun a o e => .inl (h a o e)
theorem LeH.grow {F H H' : Hp} (h : LeH F H) (g : LeF H H') : LeH F H' := fun a o e => by
  rcases h a o e with z | ⟨m, od, z⟩
  · exact .inl (g _ _ z)
  · exact .inr ⟨m, od, g _ _ z⟩
theorem LeH.down {F F' H : Hp} (h : LeH F' H) (g : LeF F F') : LeH F H := fun a o e => h a o (g a o e)
theorem rd_mono {F F' : Hp} (h : LeF F F') {a : Addr} {u : HO} (r : Rd F a u) : Rd F' a u := by
  rcases r with r | ⟨o, r⟩
  · exact .inl (h _ _ r)
  · exact .inr ⟨o, h _ _ r⟩
theorem rd_leH {F H : Hp} (h : LeH F H) {a : Addr} {u : HO} (r : Rd F a u) : Rd H a u := by
  rcases r with r | ⟨o, r⟩
  · rcases h _ _ r with z | ⟨_, od, z⟩
    · exact .inl z
    · exact .inr ⟨od, z⟩
  · rcases h _ _ r with z | ⟨m, od, z⟩
    · exact .inr ⟨o, z⟩
    · exact False.elim m
theorem sqT_mono {K : PySem.W.Frag} {F F' : Hp} (h : LeF F F') {ds : List Dt} {a : Addr} {xs : List V} (r : TupAt K F ds a xs) : TupAt K F' ds a xs := by
  rcases r with r | r
  · exact .inl (h _ _ r)
  · exact .inr r
theorem sqT_leH {K : PySem.W.Frag} {F H : Hp} (h : LeH F H) {ds : List Dt} {a : Addr} {xs : List V} (r : TupAt K F ds a xs) : TupAt K H ds a xs := by
  rcases r with r | r
  · rcases h _ _ r with z | ⟨m, _⟩
    · exact .inl z
    · exact False.elim m
  · exact .inr r
section
variable {K : PySem.W.Frag} {F F' : Hp}
mutual
theorem Rep.mono (h : LeF F F') : ∀ (d : Dt) (v : V), Rep K F d v → Rep K F' d v
  | .none, v, r => by simpa only [Rep] using r
  | .bool b, v, r => by simpa only [Rep] using r
  | .int i, v, r => by simpa only [Rep] using r
  | .str x, v, r => by simpa only [Rep] using r
  | .list ds, v, r => by
    simp only [Rep] at r ⊢
    obtain ⟨a, xs, e, s, l, q⟩ := r
    exact ⟨a, xs, e, rd_mono h s, l, RepAll.mono h ds xs q⟩
  | .tuple ds, v, r => by
    simp only [Rep] at r ⊢
    obtain ⟨a, xs, e, s, l, q⟩ := r
    exact ⟨a, xs, e, sqT_mono h s, l, RepAll.mono h ds xs q⟩
  | .dict kvs, v, r => by
    simp only [Rep] at r ⊢
    obtain ⟨a, e, l, ⟨ks, s, q⟩ | ⟨ks, s, q⟩⟩ := r
    · exact ⟨a, e, l, .inl ⟨ks, h _ _ s, RepKV.mono h kvs ks q⟩⟩
    · exact ⟨a, e, l, .inr ⟨ks, h _ _ s, RepTV.mono h kvs ks q⟩⟩
theorem RepAll.mono (h : LeF F F') : ∀ (ds : List Dt) (vs : List V), RepAll K F ds vs → RepAll K F' ds vs
  | [], vs, r => by simpa only [RepAll] using r
  | d :: ds, vs, r => by
    simp only [RepAll] at r ⊢
    obtain ⟨v, t, e, r1, r2⟩ := r
    exact ⟨v, t, e, Rep.mono h d v r1, RepAll.mono h ds t r2⟩
theorem RepKV.mono (h : LeF F F') : ∀ (ds : List (Dt × Dt)) (ks : List (Key × V)), RepKV K F ds ks → RepKV K F' ds ks
  | [], vs, r => by simpa only [RepKV] using r
  | (k, d) :: ds, vs, r => by
    simp only [RepKV] at r ⊢
    obtain ⟨k', v, t, e, ek, r1, r2⟩ := r
    exact ⟨k', v, t, e, ek, Rep.mono h d v r1, RepKV.mono h ds t r2⟩
theorem RepTV.mono (h : LeF F F') : ∀ (ds : List (Dt × Dt)) (ks : List (List Key × V)), RepTV K F ds ks → RepTV K F' ds ks
  | [], vs, r => by simpa only [RepTV] using r
  | (k, d) :: ds, vs, r => by
    simp only [RepTV] at r ⊢
    obtain ⟨k', v, t, e, ek, r1, r2⟩ := r
    exact ⟨k', v, t, e, ek, Rep.mono h d v r1, RepTV.mono h ds t r2⟩
end
theorem RepAll.length : ∀ {ds : List Dt} {vs : List V}, RepAll K F ds vs → ds.length = vs.length
  | [], vs, r => by simp only [RepAll] at r; subst r; rfl
  | d :: ds, vs, r => by
    simp only [RepAll] at r
    obtain ⟨v, t, rfl, _, r2⟩ := r
    simp [RepAll.length r2]
theorem RepAll.nil : RepAll K F [] [] := by simp only [RepAll]
theorem RepAll.cons {d : Dt} {ds : List Dt} {v : V} {vs : List V} (h : Rep K F d v) (t : RepAll K F ds vs) : RepAll K F (d :: ds) (v :: vs) := by
  simp only [RepAll]; exact ⟨v, vs, rfl, h, t⟩
theorem RepAll.append : ∀ {ds es : List Dt} {vs ws : List V}, RepAll K F ds vs → RepAll K F es ws → RepAll K F (ds ++ es) (vs ++ ws)
  | [], _, vs, _, r, q => by simp only [RepAll] at r; subst r; exact q
  | d :: ds, _, vs, _, r, q => by
    simp only [RepAll] at r
    obtain ⟨v, t, rfl, r1, r2⟩ := r
    exact RepAll.cons r1 (RepAll.append r2 q)
theorem RepAll.get : ∀ {ds : List Dt} {vs : List V} {i : Nat} {d : Dt}, RepAll K F ds vs → ds[i]? = some d → ∃ v, vs[i]? = some v ∧ Rep K F d v
  | [], _, i, d, _, e => by simp at e
  | d0 :: ds, vs, 0, d, r, e => by
    simp only [RepAll] at r
    obtain ⟨v, t, rfl, r1, r2⟩ := r
    simp at e; subst e
    exact ⟨v, rfl, r1⟩
  | d0 :: ds, vs, i + 1, d, r, e => by
    simp only [RepAll] at r
    obtain ⟨v, t, rfl, r1, r2⟩ := r
    simp at e
    obtain ⟨w, h1, h2⟩ := RepAll.get r2 e
    exact ⟨w, by simpa using h1, h2⟩
theorem RepAll.set : ∀ {ds : List Dt} {vs : List V} (i : Nat) {d : Dt} {v : V}, RepAll K F ds vs → Rep K F d v → RepAll K F (ds.set i d) (vs.set i v)
  | [], vs, i, d, v, r, q => by simp only [RepAll] at r; subst r; simp [RepAll]
  | d0 :: ds, vs, 0, d, v, r, q => by
    simp only [RepAll] at r
    obtain ⟨w, t, rfl, r1, r2⟩ := r
    exact RepAll.cons q r2
  | d0 :: ds, vs, i + 1, d, v, r, q => by
    simp only [RepAll] at r
    obtain ⟨w, t, rfl, r1, r2⟩ := r
    exact RepAll.cons r1 (RepAll.set i r2 q)
theorem RepAll.take : ∀ {ds : List Dt} {vs : List V} (n : Nat), RepAll K F ds vs → RepAll K F (ds.take n) (vs.take n)
  | [], vs, n, r => by simp only [RepAll] at r; subst r; simp [RepAll]
  | d0 :: ds, vs, 0, r => by simp [RepAll]
  | d0 :: ds, vs, n + 1, r => by
    simp only [RepAll] at r
    obtain ⟨w, t, rfl, r1, r2⟩ := r
    exact RepAll.cons r1 (RepAll.take n r2)
theorem RepAll.drop : ∀ {ds : List Dt} {vs : List V} (n : Nat), RepAll K F ds vs → RepAll K F (ds.drop n) (vs.drop n)
  | [], vs, n, r => by simp only [RepAll] at r; subst r; simp [RepAll]
  | d0 :: ds, vs, 0, r => r
  | d0 :: ds, vs, n + 1, r => by
    simp only [RepAll] at r
    obtain ⟨w, t, rfl, r1, r2⟩ := r
    exact RepAll.drop n r2
theorem RepAll.reverse : ∀ {ds : List Dt} {vs : List V}, RepAll K F ds vs → RepAll K F ds.reverse vs.reverse
  | [], vs, r => by simp only [RepAll] at r; subst r; simp [RepAll]
  | d0 :: ds, vs, r => by
    simp only [RepAll] at r
    obtain ⟨w, t, rfl, r1, r2⟩ := r
    rw [List.reverse_cons, List.reverse_cons]
    exact RepAll.append (RepAll.reverse r2) (RepAll.cons r1 RepAll.nil)
end
/-- an object of one's own, at p -/
def OwnAt (K : PySem.W.Frag) (F H : Hp) (p : Addr) : O → Prop
  | .lst ds => ∃ xs, H p = some (.lst xs) ∧ xs.length ≤ sizeLine ∧ RepAll K F ds xs
  | .dct kvs => kvs.length ≤ sizeLine ∧ ((∃ ks, H p = some (.dK ks) ∧ RepKV K F kvs ks) ∨ ∃ ks, H p = some (.dT ks) ∧ RepTV K F kvs ks)
theorem OwnAt.mono {K : PySem.W.Frag} {F F' H H' : Hp} {p : Addr} {o : O} (h : OwnAt K F H p o) (f : LeF F F') (g : H' p = H p) : OwnAt K F' H' p o := by
  cases o with
  | lst ds =>
    obtain ⟨xs, e, l, r⟩ := h
    exact ⟨xs, g.trans e, l, r.mono f⟩
  | dct kvs =>
    obtain ⟨l, ⟨ks, e, r⟩ | ⟨ks, e, r⟩⟩ := h
    · exact ⟨l, .inl ⟨ks, g.trans e, r.mono f⟩⟩
    · exact ⟨l, .inr ⟨ks, g.trans e, r.mono f⟩⟩
theorem OwnAt.there {K : PySem.W.Frag} {F H : Hp} {p : Addr} {o : O} (h : OwnAt K F H p o) : ∃ u, H p = some u ∧ Mut (some u) := by
  cases o with
  | lst ds => obtain ⟨xs, e, _⟩ := h; exact ⟨_, e, trivial⟩
  | dct kvs =>
    obtain ⟨_, ⟨ks, e, _⟩ | ⟨ks, e, _⟩⟩ := h
    · exact ⟨_, e, trivial⟩
    · exact ⟨_, e, trivial⟩
/-- frozen at p: its data -/
theorem OwnAt.rep {K : PySem.W.Frag} {F H F' : Hp} {p : Addr} {o : O} (h : OwnAt K F H p o) (f : LeF F F') (g : F' p = H p) : Rep K F' o.d (.ref p) := by
  cases o with
  | lst ds =>
    obtain ⟨xs, e, l, r⟩ := h
    simp only [O.d, Rep]
    exact ⟨p, xs, rfl, .inl (g.trans e), l, r.mono f⟩
  | dct kvs =>
    simp only [O.d, Rep]
    obtain ⟨l, ⟨ks, e, r⟩ | ⟨ks, e, r⟩⟩ := h
    · exact ⟨p, rfl, l, .inl ⟨ks, g.trans e, r.mono f⟩⟩
    · exact ⟨p, rfl, l, .inr ⟨ks, g.trans e, r.mono f⟩⟩

structure Rel (K : PySem.W.Frag) (F : Hp) (ρ : Rho) (σ : L2.St) (H : Hp) : Prop where
  le : LeH F H
  len : ρ.length = σ.length
  val : ∀ (i : Nat) d, ρ[i]? = some (some (.val d)) → ∃ v, σ[i]? = some (some v) ∧ Rep K F d v
  own : ∀ (i : Nat) o, ρ[i]? = some (some (.own o)) → ∃ p, σ[i]? = some (some (.ref p)) ∧ F p = none ∧ OwnAt K F H p o
  dis : ∀ (i j : Nat) p o o', ρ[i]? = some (some (.own o)) → ρ[j]? = some (some (.own o')) → σ[i]? = some (some (.ref p)) → σ[j]? = some (some (.ref p)) → i = j
def OwnS (ρ : Rho) (σ : L2.St) (a : Addr) : Prop := ∃ (i : Nat) (o : O), ρ[i]? = some (some (.own o)) ∧ σ[i]? = some (some (.ref a))
structure Step (F : Hp) (ρ : Rho) (σ : L2.St) (H : Hp) (F' : Hp) (ρ' : Rho) (σ' : L2.St) (H' : Hp) : Prop where
  le : LeF F F'
  grow : ∀ a, F a = none → F' a ≠ none → H a = none ∨ OwnS ρ σ a
  keep : ∀ a o, H a = some o → ¬ OwnS ρ σ a → H' a = some o
  dom : ∀ a, H a ≠ none → H' a ≠ none
  owns : ∀ a, OwnS ρ' σ' a → OwnS ρ σ a ∨ H a = none
theorem Step.refl (F : Hp) (ρ : Rho) (σ : L2.St) (H : Hp) : Step F ρ σ H F ρ σ H :=
  ⟨LeF.refl F, fun a h h' => absurd h h', fun _ _ h _ => h, fun _ h => h, fun _ h => .inl h⟩
theorem Step.trans {F F1 F2 : Hp} {ρ ρ1 ρ2 : Rho} {σ σ1 σ2 : L2.St} {H H1 H2 : Hp} (a : Step F ρ σ H F1 ρ1 σ1 H1) (b : Step F1 ρ1 σ1 H1 F2 ρ2 σ2 H2) : Step F ρ σ H F2 ρ2 σ2 H2 where
  le := a.le.trans b.le
  grow := fun x h h2 => by
    cases e : F1 x with
    | some o => exact a.grow x h (by rw [e]; simp)
    | none =>
      have back : ∀ y, H1 y = none → H y = none := fun y hy => by
        cases q : H y with
        | none => rfl
        | some o => exact absurd hy (a.dom y (by rw [q]; simp))
      rcases b.grow x e h2 with z | z
      · exact .inl (back x z)
      · rcases a.owns x z with w | w
        · exact .inr w
        · exact .inl w
  keep := fun x o h n => b.keep x o (a.keep x o h n) fun z => by
    rcases a.owns x z with w | w
    · exact n w
    · rw [w] at h; cases h
  dom := fun x h => b.dom x (a.dom x h)
  owns := fun x h => by
    rcases b.owns x h with z | z
    · exact a.owns x z
    · refine .inr ?_
      cases q : H x with
      | none => rfl
      | some o => exact absurd z (a.dom x (by rw [q]; simp))

/-- how a value stands: its top in H, its parts in F -/
def RepT (K : PySem.W.Frag) (F H : Hp) : Dt → V → Prop
  | .none, v => v = .non
  | .bool b, v => v = .bl b
  | .int i, v => v = .int i
  | .str x, v => v = .str x
  | .list ds, v => ∃ a xs, v = .ref a ∧ Rd H a (.lst xs) ∧ xs.length ≤ sizeLine ∧ RepAll K F ds xs
  | .tuple ds, v => ∃ a xs, v = .ref a ∧ TupAt K F ds a xs ∧ xs.length ≤ sizeLine ∧ RepAll K F ds xs
  | .dict kvs, v => ∃ a, v = .ref a ∧ kvs.length ≤ sizeLine ∧ ((∃ ks, Rd H a (.dK ks) ∧ RepKV K F kvs ks) ∨ ∃ ks, Rd H a (.dT ks) ∧ RepTV K F kvs ks)
theorem Rep.top {K : PySem.W.Frag} {F H : Hp} {d : Dt} {v : V} (h : Rep K F d v) (le : LeH F H) : RepT K F H d v := by
  cases d with
  | none => simpa only [Rep, RepT] using h
  | bool b => simpa only [Rep, RepT] using h
  | int i => simpa only [Rep, RepT] using h
  | str x => simpa only [Rep, RepT] using h
  | list ds =>
    simp only [Rep, RepT] at h ⊢
    obtain ⟨a, xs, e, s, l, q⟩ := h
    exact ⟨a, xs, e, rd_leH le s, l, q⟩
  | tuple ds =>
    simp only [Rep, RepT] at h ⊢
    obtain ⟨a, xs, e, s, l, q⟩ := h
    exact ⟨a, xs, e, s, l, q⟩
  | dict kvs =>
    simp only [Rep, RepT] at h ⊢
    obtain ⟨a, e, l, ⟨ks, s, q⟩ | ⟨ks, s, q⟩⟩ := h
    · exact ⟨a, e, l, .inl ⟨ks, rd_leH le (.inl s), q⟩⟩
    · exact ⟨a, e, l, .inr ⟨ks, rd_leH le (.inl s), q⟩⟩
theorem OwnAt.top {K : PySem.W.Frag} {F H : Hp} {p : Addr} {o : O} (h : OwnAt K F H p o) : RepT K F H o.d (.ref p) := by
  cases o with
  | lst ds =>
    obtain ⟨xs, e, l, r⟩ := h
    simp only [O.d, RepT]
    exact ⟨p, xs, rfl, .inl e, l, r⟩
  | dct kvs =>
    simp only [O.d, RepT]
    obtain ⟨l, ⟨ks, e, r⟩ | ⟨ks, e, r⟩⟩ := h
    · exact ⟨p, rfl, l, .inl ⟨ks, .inl e, r⟩⟩
    · exact ⟨p, rfl, l, .inr ⟨ks, .inl e, r⟩⟩
/-- a value of an expression; H0: the heap it started at -/
def RepE (K : PySem.W.Frag) (F : Hp) (ρ : Rho) (σ : L2.St) (H0 H : Hp) : EV → V → Prop
  | .val d, v => Rep K F d v
  | .slot i, v => (∃ o, ρ[i]? = some (some (.own o))) ∧ σ[i]? = some (some v)
  | .new o, v => ∃ p, v = .ref p ∧ F p = none ∧ H0 p = none ∧ ¬ OwnS ρ σ p ∧ OwnAt K F H p o
end Mv
set_option Elab.async false
set_option linter.all false
set_option maxRecDepth 100000
set_option maxHeartbeats 4000000
namespace Mv
open PySem PySem.Spec PyProof.Rows L2

/-- the state where an exception flies -/
structure Air (F : Hp) (ρ : Rho) (σ : L2.St) (H F' H' : Hp) : Prop where
  le : LeF F F'
  leH : LeH F' H'
  grow : ∀ a, F a = none → F' a ≠ none → H a = none ∨ OwnS ρ σ a
  keep : ∀ a o, H a = some o → ¬ OwnS ρ σ a → H' a = some o
  dom : ∀ a, H a ≠ none → H' a ≠ none
theorem Step.none_back {F F1 : Hp} {ρ ρ1 : Rho} {σ σ1 : L2.St} {H H1 : Hp} (a : Step F ρ σ H F1 ρ1 σ1 H1) {x : Addr} (h : H1 x = none) : H x = none := by
  cases q : H x with
  | none => rfl
  | some o => exact absurd h (a.dom x (by rw [q]; simp))
theorem Step.air {F F1 F2 : Hp} {ρ ρ1 : Rho} {σ σ1 : L2.St} {H H1 H2 : Hp} (a : Step F ρ σ H F1 ρ1 σ1 H1) (b : Air F1 ρ1 σ1 H1 F2 H2) : Air F ρ σ H F2 H2 where
  le := a.le.trans b.le
  leH := b.leH
  grow := fun x h h2 => by
    cases e : F1 x with
    | some o => exact a.grow x h (by rw [e]; simp)
    | none =>
      rcases b.grow x e h2 with z | z
      · exact .inl (a.none_back z)
      · rcases a.owns x z with w | w
        · exact .inr w
        · exact .inl w
  keep := fun x o h n => b.keep x o (a.keep x o h n) fun z => by
    rcases a.owns x z with w | w
    · exact n w
    · rw [w] at h; cases h
  dom := fun x h => b.dom x (a.dom x h)
theorem OwnS.there {K : PySem.W.Frag} {F : Hp} {ρ : Rho} {σ : L2.St} {H : Hp} (r : Rel K F ρ σ H) {a : Addr} (h : OwnS ρ σ a) : F a = none ∧ ∃ u, H a = some u := by
  obtain ⟨i, o, e1, e2⟩ := h
  obtain ⟨p, e3, e4, e5⟩ := r.own i o e1
  rw [e2] at e3
  cases e3
  obtain ⟨u, hu, _⟩ := e5.there
  exact ⟨e4, u, hu⟩

abbrev M (α : Type) := Rho → R (α × Rho)
def settle : EV → EV
  | .new o => .val o.d
  | v => v
/-- a value that waits: its data, or its slot -/
def RepS (K : PySem.W.Frag) (F : Hp) (σ : L2.St) : EV → V → Prop
  | .val d, v => Rep K F d v
  | .slot i, v => σ[i]? = some (some v)
  | .new _, _ => False
theorem RepS.mono {K : PySem.W.Frag} {F F' : Hp} {σ : L2.St} (h : LeF F F') : ∀ {v : EV} {x : V}, RepS K F σ v x → RepS K F' σ v x
  | .val d, x, r => Rep.mono h d x r
  | .slot _, _, r => r
  | .new _, _, r => r
def lookEV (v : EV) (ρ : Rho) : R Dt :=
  match v with
  | .val d => .ok d
  | .new o => .ok o.d
  | .slot i => match ρ[i]? with
    | some (some (.own o)) => .ok o.d
    | some (some (.val d)) => .ok d
    | _ => .bad
theorem look_settle (v : EV) (ρ : Rho) : lookEV (settle v) ρ = lookEV v ρ := by cases v <;> rfl
theorem look_rep {K : PySem.W.Frag} {F : Hp} {ρ : Rho} {σ : L2.St} {H : Hp} (r : Rel K F ρ σ H) {v : EV} {x : V} {d : Dt} (s : RepS K F σ v x) (h : lookEV v ρ = .ok d) : RepT K F H d x := by
  cases v with
  | val d' => simp only [lookEV, R.ok.injEq] at h; subst h; exact Rep.top s r.le
  | new o => exact False.elim s
  | slot i =>
    have s' : σ[i]? = some (some x) := s
    simp only [lookEV] at h
    split at h
    · rename_i o e
      simp only [R.ok.injEq] at h; subst h
      obtain ⟨p, e1, _, e3⟩ := r.own i o e
      rw [s'] at e1; cases e1
      exact e3.top
    · rename_i d' e
      simp only [R.ok.injEq] at h; subst h
      obtain ⟨w, e1, e2⟩ := r.val i _ e
      rw [s'] at e1; cases e1
      exact e2.top r.le
    · cases h
/-- freezing what stands at p -/
def fz (F H : Hp) (p : Addr) : Hp := fun b => if b = p then H p else F b
theorem fz_le {F H : Hp} {p : Addr} (h : F p = none) : LeF F (fz F H p) := fun a o e => by
  unfold fz
  rw [if_neg (ne_of_none e h)]
  exact e
theorem fz_at {F H : Hp} {p : Addr} : fz F H p p = H p := by unfold fz; rw [if_pos rfl]
theorem fz_ne {F H : Hp} {p a : Addr} (h : a ≠ p) : fz F H p a = F a := by unfold fz; rw [if_neg h]
theorem fz_leH {F H : Hp} {p : Addr} (h : LeH F H) : LeH (fz F H p) H := fun a o e => by
  by_cases q : a = p
  · subst q; rw [fz_at] at e; exact .inl e
  · rw [fz_ne q] at e; exact h a o e
section
variable {K : PySem.W.Frag} {F F' : Hp} {ρ ρ' : Rho} {σ : L2.St} {H H' H0 : Hp} {F0 : Hp} {ρ0 : Rho} {σ0 : L2.St}
/-- a new object is frozen -/
theorem Rel.fzNew {p : Addr} {o : O} (r : Rel K F ρ σ H) (hF : F p = none) (hn : ¬ OwnS ρ σ p) (ho : OwnAt K F H p o) : Rel K (fz F H p) ρ σ H where
  le := fz_leH r.le
  len := r.len
  val := fun i d e => let ⟨v, h1, h2⟩ := r.val i d e; ⟨v, h1, h2.mono (fz_le hF)⟩
  own := fun i q e => by
    obtain ⟨a, h1, h2, h3⟩ := r.own i q e
    have na : a ≠ p := fun z => hn ⟨i, q, e, z ▸ h1⟩
    exact ⟨a, h1, by rw [fz_ne na]; exact h2, h3.mono (fz_le hF) rfl⟩
  dis := r.dis
theorem Step.fzNew {p : Addr} (s : Step F0 ρ0 σ0 H0 F ρ σ H) (hF : F p = none) (h0 : H0 p = none ∨ OwnS ρ0 σ0 p) : Step F0 ρ0 σ0 H0 (fz F H p) ρ σ H where
  le := s.le.trans (fz_le hF)
  grow := fun a e e' => by
    by_cases q : a = p
    · subst q; exact h0
    · rw [fz_ne q] at e'; exact s.grow a e e'
  keep := s.keep
  dom := s.dom
  owns := s.owns
theorem settle_ok (r : Rel K F ρ σ H) (s : Step F0 ρ0 σ0 H0 F ρ σ H) {v : EV} {x : V} (h : RepE K F ρ σ H0 H v x) : ∃ F', Rel K F' ρ σ H ∧ Step F0 ρ0 σ0 H0 F' ρ σ H ∧ RepS K F' σ (settle v) x := by
  cases v with
  | val d => exact ⟨F, r, s, h⟩
  | slot i => exact ⟨F, r, s, h.2⟩
  | new o =>
    obtain ⟨p, rfl, hF, h0, hn, ho⟩ := h
    exact ⟨fz F H p, r.fzNew hF hn ho, s.fzNew hF (.inl h0), ho.rep (fz_le hF) fz_at⟩
/-- an own variable is frozen -/
theorem set_get_ne {α : Type} {l : List α} {i j : Nat} {x : α} (h : i ≠ j) : (l.set i x)[j]? = l[j]? := by simp [List.getElem?_set_ne h]
theorem Rel.fzSlot {i : Nat} {o : O} {x : V} (r : Rel K F ρ σ H) (e : ρ[i]? = some (some (.own o))) (ex : σ[i]? = some (some x)) :
    ∃ F', Rel K F' (ρ.set i (some (.val o.d))) σ H ∧ Step F ρ σ H F' (ρ.set i (some (.val o.d))) σ H ∧ Rep K F' o.d x := by
  obtain ⟨p, h1, h2, h3⟩ := r.own i o e
  have ex' := ex
  rw [h1] at ex'; cases ex'
  have hi : i < ρ.length := (List.getElem?_eq_some_iff.mp e).1
  have hrep : Rep K (fz F H p) o.d (.ref p) := h3.rep (fz_le h2) fz_at
  have other : ∀ j q, (ρ.set i (some (.val o.d)))[j]? = some (some (.own q)) → i ≠ j ∧ ρ[j]? = some (some (.own q)) := fun j q ej => by
    by_cases c : i = j
    · subst c
      rw [List.getElem?_set_self hi] at ej
      cases ej
    · rw [set_get_ne c] at ej
      exact ⟨c, ej⟩
  refine ⟨fz F H p, ⟨fz_leH r.le, by simpa using r.len, fun j d ej => ?_, fun j q ej => ?_, fun j k a q q' ej ek e1 e2 => ?_⟩, ⟨fz_le h2, fun a ea ea' => ?_, fun _ _ h _ => h, fun _ h => h, fun a ⟨j, q, ej, ea⟩ => ?_⟩, hrep⟩
  · by_cases c : i = j
    · subst c
      rw [List.getElem?_set_self hi] at ej
      cases ej
      exact ⟨_, h1, hrep⟩
    · rw [set_get_ne c] at ej
      obtain ⟨v, g1, g2⟩ := r.val j d ej
      exact ⟨v, g1, g2.mono (fz_le h2)⟩
  · obtain ⟨c, ej'⟩ := other j q ej
    obtain ⟨a, g1, g2, g3⟩ := r.own j q ej'
    have na : a ≠ p := fun z => c (r.dis i j p _ _ e ej' h1 (z ▸ g1))
    exact ⟨a, g1, by rw [fz_ne na]; exact g2, g3.mono (fz_le h2) rfl⟩
  · exact r.dis j k a q q' (other j q ej).2 (other k q' ek).2 e1 e2
  · by_cases c : a = p
    · subst c; exact .inr ⟨i, o, e, h1⟩
    · rw [fz_ne c] at ea'; exact absurd ea ea'
  · exact .inl ⟨j, q, (other j q ej).2, ea⟩
end

/-! ### readings -/
def PostE (K : PySem.W.Frag) (mg : Str → Option Value) (W : WX) (F : Hp) (ρ : Rho) (σ : L2.St) (H : Hp) (r : R (EV × Rho)) (Q : VK) : Prop :=
  match r with
  | .ok (v, ρ') => ∀ F' H' x, Rel K F' ρ' σ H' → Step F ρ σ H F' ρ' σ H' → RepE K F' ρ' σ H H' v x → Q x H'
  | .ex c => ∀ F' H' C, Air F ρ σ H F' H' → mg c = some (.ref C) → W (.ref C) none σ H'
  | .bad => False
def rdE (K : PySem.W.Frag) (mg : Str → Option Value) (W : WX) (m : M EV) : TE := fun σ H Q => ∃ ρ F, Rel K F ρ σ H ∧ PostE K mg W F ρ σ H (m ρ) Q
def rdV (K : PySem.W.Frag) (mg : Str → Option Value) (W : WX) (m : M EV) : TE := fun σ H Q => ∃ ρ F, Rel K F ρ σ H ∧
  match m ρ with
  | .ok (v, ρ') => ∀ F' H' x, Rel K F' ρ' σ H' → Step F ρ σ H F' ρ' σ H' → RepS K F' σ (settle v) x → Q x H'
  | .ex c => ∀ F' H' C, Air F ρ σ H F' H' → mg c = some (.ref C) → W (.ref C) none σ H'
  | .bad => False
theorem rdE_of_rdV {K : PySem.W.Frag} {mg : Str → Option Value} {W : WX} {m : M EV} {σ : L2.St} {H : Hp} {Q : VK} (h : rdV K mg W m σ H Q) : rdE K mg W m σ H Q := by
  obtain ⟨ρ, F, r, h⟩ := h
  refine ⟨ρ, F, r, ?_⟩
  unfold PostE
  split
  · rename_i v ρ' e
    rw [e] at h
    intro F' H' x r' s' e'
    obtain ⟨F2, r2, s2, q⟩ := settle_ok r' s' e'
    exact h F2 H' x r2 s2 q
  · rename_i c e
    rw [e] at h
    exact h
  · rename_i e
    rw [e] at h
    exact h
theorem peImp {X : Cx} {e : Expr} {t t' : TE} (h : PE X e t) (i : ∀ σ H Q, t' σ H Q → t σ H Q) : PE X e t' := ⟨fun pins s σ H Q I q => h.run pins s σ H Q I (i σ H Q q)⟩
/-- THE JUDGEMENT for expressions -/
structure SE (X : Cx) (W : WX) (e : Expr) (m : M EV) : Prop where
  pe : PE X e (rdE X.K X.mg W m)
theorem SE.v {X : Cx} {W : WX} {e : Expr} {m : M EV} (h : SE X W e m) : PE X e (rdV X.K X.mg W m) := peImp h.pe fun _ _ _ q => rdE_of_rdV q
section
variable {K : PySem.W.Frag} {mg : Str → Option Value} {W : WX} {F : Hp} {ρ : Rho} {σ : L2.St} {H : Hp} {Q : VK}
theorem PostE.shift {F1 : Hp} {ρ1 : Rho} {H1 : Hp} {r : R (EV × Rho)} (s : Step F ρ σ H F1 ρ1 σ H1) (h : PostE K mg W F ρ σ H r Q) : PostE K mg W F1 ρ1 σ H1 r Q := by
  unfold PostE at h ⊢
  split at h
  · intro F' H' x r' s' e'
    refine h F' H' x r' (s.trans s') ?_
    revert e'
    rename_i v ρ'
    cases v with
    | val d => exact fun z => z
    | slot i => exact fun z => z
    | new o => exact fun ⟨p, a, b, c, d, e⟩ => ⟨p, a, b, s.none_back c, d, e⟩
  · exact fun F' H' C a e => h F' H' C (s.air a) e
  · exact h
theorem rdV_bind {ma : M EV} {f : EV × Rho → R (EV × Rho)} {Q1 : VK} (r : Rel K F ρ σ H) (h : PostE K mg W F ρ σ H ((ma ρ).bind f) Q)
    (k : ∀ v ρ1 F1 H1 x, Rel K F1 ρ1 σ H1 → Step F ρ σ H F1 ρ1 σ H1 → RepS K F1 σ (settle v) x → PostE K mg W F1 ρ1 σ H1 (f (v, ρ1)) Q → Q1 x H1) : rdV K mg W ma σ H Q1 := by
  refine ⟨ρ, F, r, ?_⟩
  cases e : ma ρ with
  | ok p =>
    obtain ⟨v, ρ1⟩ := p
    rw [e] at h
    intro F1 H1 x r1 s1 e1
    exact k v ρ1 F1 H1 x r1 s1 e1 (h.shift s1)
  | ex c => rw [e] at h; exact h
  | bad => rw [e] at h; exact h
end
/-- what an operation on values leaves: new things alone -/
def RepP (K : PySem.W.Frag) (F' H H' : Hp) : EV → V → Prop
  | .val d, x => Rep K F' d x
  | .new o, x => ∃ p, x = .ref p ∧ F' p = none ∧ H p = none ∧ OwnAt K F' H' p o
  | .slot _, _ => False
def PostP (K : PySem.W.Frag) (F H : Hp) (v : EV) (Q : VK) : Prop :=
  ∀ F' H' x, LeF F F' → (∀ a, F a = none → F' a ≠ none → H a = none) → LeF H H' → LeH F' H' → RepP K F' H H' v x → Q x H'
section
variable {K : PySem.W.Frag} {mg : Str → Option Value} {W : WX} {F : Hp} {ρ : Rho} {σ : L2.St} {H : Hp} {Q : VK}
theorem Rel.grown {F' H' : Hp} (r : Rel K F ρ σ H) (f : LeF F F') (g : ∀ a, F a = none → F' a ≠ none → H a = none) (hh : LeF H H') (le : LeH F' H') : Rel K F' ρ σ H' where
  le := le
  len := r.len
  val := fun i d e => let ⟨v, h1, h2⟩ := r.val i d e; ⟨v, h1, h2.mono f⟩
  own := fun i o e => by
    obtain ⟨p, h1, h2, h3⟩ := r.own i o e
    obtain ⟨u, hu, _⟩ := h3.there
    refine ⟨p, h1, ?_, h3.mono f ((hh _ _ hu).trans hu.symm)⟩
    cases q : F' p with
    | none => rfl
    | some z =>
      have := g p h2 (by rw [q]; simp)
      rw [hu] at this; cases this
  dis := r.dis
theorem Step.grown {F' H' : Hp} (f : LeF F F') (g : ∀ a, F a = none → F' a ≠ none → H a = none) (hh : LeF H H') : Step F ρ σ H F' ρ σ H' where
  le := f
  grow := fun a h h' => .inl (g a h h')
  keep := fun a o h _ => hh a o h
  dom := fun a h => by
    cases e : H a with
    | none => exact absurd e h
    | some o => rw [hh a o e]; simp
  owns := fun a h => .inl h
theorem PostE.prim {v : EV} (r : Rel K F ρ σ H) (h : PostE K mg W F ρ σ H (.ok (v, ρ)) Q) : PostP K F H v Q := fun F' H' x f g hh le e => by
  refine h F' H' x (r.grown f g hh le) (Step.grown f g hh) ?_
  cases v with
  | val d => exact e
  | slot i => exact False.elim e
  | new o =>
    obtain ⟨p, e1, e2, e3, e4⟩ := e
    refine ⟨p, e1, e2, e3, fun z => ?_, e4⟩
    obtain ⟨_, u, hu⟩ := OwnS.there r z
    rw [e3] at hu; cases hu
theorem PostP.here {v : EV} {x : V} (h : PostP K F H v Q) (le : LeH F H) (e : RepP K F H H v x) : Q x H := h F H x (LeF.refl F) (fun a e e' => absurd e e') (LeF.refl H) le e
theorem PostP.val {d : Dt} {x : V} (h : PostP K F H (.val d) Q) (le : LeH F H) (e : Rep K F d x) : Q x H := h.here le e
theorem leF_upd {H : Hp} {p : Addr} {o : HO} (h : H p = none) : LeF H (upd H p o) := fun a u e => by
  rw [upd_ne (ne_of_none e h)]; exact e
/-- a new object of one's own -/
theorem PostP.newO {o : O} {p : Addr} {u : HO} (h : PostP K F H (.new o) Q) (le : LeH F H) (hp : H p = none) (e : OwnAt K F (upd H p u) p o) : Q (.ref p) (upd H p u) := by
  refine h F (upd H p u) (.ref p) (LeF.refl F) (fun a e e' => absurd e e') (leF_upd hp) (le.grow (leF_upd hp)) ⟨p, rfl, ?_, hp, e⟩
  cases q : F p with
  | none => rfl
  | some z =>
    rcases le p z q with w | ⟨_, od, w⟩
    · rw [hp] at w; cases w
    · rw [hp] at w; cases w
/-- a new frozen object -/
theorem PostP.newF {d : Dt} {p : Addr} {u : HO} (h : PostP K F H (.val d) Q) (le : LeH F H) (hp : H p = none) (e : ∀ F', LeF F F' → F' p = some u → Rep K F' d (.ref p)) : Q (.ref p) (upd H p u) := by
  have hF : F p = none := by
    cases q : F p with
    | none => rfl
    | some z =>
      rcases le p z q with w | ⟨_, od, w⟩
      · rw [hp] at w; cases w
      · rw [hp] at w; cases w
  refine h (upd F p u) (upd H p u) (.ref p) (leF_upd hF) (fun a e e' => ?_) (leF_upd hp) (fun a o ea => ?_) (e _ (leF_upd hF) upd_same)
  · by_cases c : a = p
    · subst c; exact hp
    · rw [upd_ne c] at e'; exact absurd e e'
  · by_cases c : a = p
    · subst c; rw [upd_same] at ea; cases ea; exact .inl upd_same
    · rw [upd_ne c] at ea
      rcases le a o ea with w | ⟨m, od, w⟩
      · exact .inl (by rw [upd_ne c]; exact w)
      · exact .inr ⟨m, od, by rw [upd_ne c]; exact w⟩
theorem leH_fresh (le : LeH F H) {p : Addr} (hp : H p = none) : F p = none := by
  cases q : F p with
  | none => rfl
  | some z =>
    rcases le p z q with w | ⟨_, od, w⟩
    · rw [hp] at w; cases w
    · rw [hp] at w; cases w
end
/-! ### readings of operations -/
def rd2 (K : PySem.W.Frag) (op : Dt → Dt → R EV) : R2 := fun x y H Q => ∃ F a b v, op a b = .ok v ∧ LeH F H ∧ RepT K F H a x ∧ RepT K F H b y ∧ PostP K F H v Q
def rd1 (K : PySem.W.Frag) (op : Dt → R EV) : V → Hp → VK → Prop := fun x H Q => ∃ F a v, op a = .ok v ∧ LeH F H ∧ RepT K F H a x ∧ PostP K F H v Q
inductive RepTs (K : PySem.W.Frag) (F H : Hp) : List Dt → List V → Prop
  | nil : RepTs K F H [] []
  | cons {d ds v vs} : RepT K F H d v → RepTs K F H ds vs → RepTs K F H (d :: ds) (v :: vs)
def rdN (K : PySem.W.Frag) (op : List Dt → R EV) : List V → Hp → VK → Prop := fun xs H Q => ∃ F as v, op as = .ok v ∧ LeH F H ∧ RepTs K F H as xs ∧ PostP K F H v Q

/-! ### names, constants -/
def mVar (i : Nat) : M EV := fun ρ => match ρ[i]? with
  | some (some (.val d)) => .ok (.val d, ρ)
  | some (some (.own _)) => .ok (.slot i, ρ)
  | _ => .bad
def mC (d : Dt) : M EV := fun ρ => .ok (.val d, ρ)
section
variable {X : Cx} {W : WX}
theorem SE.var (i : Nat) {x : Str} {pos : Pos} (hN : X.N[i]? = some x := by rfl) (hv : Vis X.env.scope x := by first | exact Or.inl rfl | exact Or.inr (Or.inl rfl) | exact Or.inr (Or.inr rfl)) (hd : (x == ("__debug__" : Str)) = false := by decide)
    (hcd : (x == ("__classdict__" : Str)) = false := by decide) : SE X W (.Name x pos) (mVar i) := by
  refine ⟨peImp (pe_var hN hv hd hcd) fun σ H Q h => ?_⟩
  obtain ⟨ρ, F, r, h⟩ := h
  unfold mVar at h
  split at h
  · rename_i d e
    obtain ⟨v, e1, e2⟩ := r.val i d e
    exact ⟨v, e1, h F H v r (Step.refl _ _ _ _) e2⟩
  · rename_i o e
    obtain ⟨p, e1, e2, e3⟩ := r.own i o e
    exact ⟨_, e1, h F H _ r (Step.refl _ _ _ _) ⟨⟨o, e⟩, e1⟩⟩
  · exact False.elim h
theorem SE.const {e : Expr} {d : Dt} {v : V} (h : PE X e (tC v)) (hr : ∀ F, Rep X.K F d v) : SE X W e (mC d) := by
  refine ⟨peImp h fun σ H Q h => ?_⟩
  obtain ⟨ρ, F, r, h⟩ := h
  exact h F H v r (Step.refl _ _ _ _) (hr F)
theorem SE.int {i j pos} : SE X W (.Constant (.int i) j pos) (mC (.int i)) := SE.const pe_int fun _ => rfl
theorem SE.bl {b j pos} : SE X W (.Constant (.bool b) j pos) (mC (.bool b)) := SE.const pe_bl fun _ => rfl
theorem SE.non {j pos} : SE X W (.Constant .none j pos) (mC .none) := SE.const pe_non fun _ => rfl
theorem SE.str {x j pos} : SE X W (.Constant (.str x) j pos) (mC (.str x)) := SE.const pe_str fun _ => rfl
/-- a module's constant -/
theorem SE.glob {x : Str} {d : Dt} {v : V} {u : Value} {pos : Pos} (hm : X.mg x = some u) (r : RelV v u) (hr : ∀ F, Rep X.K F d v) (hg : Gl X x := by rfl) (hd : (x == ("__debug__" : Str)) = false := by decide) : SE X W (.Name x pos) (mC d) :=
  SE.const (pe_glob hg hm r hd) hr
end
/-! ### operations -/
def mBin (op : Dt → Dt → R EV) (ma mb : M EV) : M EV := fun ρ => (ma ρ).bind fun a => (mb a.2).bind fun b => (lookEV a.1 b.2).bind fun da => (lookEV b.1 b.2).bind fun db => (op da db).bind fun v => .ok (v, b.2)
def mUn (op : Dt → R EV) (ma : M EV) : M EV := fun ρ => (ma ρ).bind fun a => (lookEV a.1 a.2).bind fun da => (op da).bind fun v => .ok (v, a.2)
section
variable {X : Cx} {W : WX}
theorem look_bind {K : PySem.W.Frag} {mg : Str → Option Value} {F : Hp} {ρ ρ' : Rho} {σ : L2.St} {H : Hp} {Q : VK} {f : Dt → R (EV × Rho)} {v : EV} (h : PostE K mg W F ρ σ H ((lookEV v ρ').bind f) Q) : ∃ d, lookEV v ρ' = .ok d ∧ PostE K mg W F ρ σ H (f d) Q := by
  cases e : lookEV v ρ' with
  | ok d => rw [e] at h; exact ⟨d, rfl, h⟩
  | ex c =>
    exfalso
    cases v with
    | val d => cases e
    | new o => cases e
    | slot i => simp only [lookEV] at e; split at e <;> cases e
  | bad => rw [e] at h; exact False.elim h
/-- operations don't raise -/
def Calm {α : Type} (r : R α) : Prop := ∀ c, r ≠ .ex c
theorem calm_bind {K : PySem.W.Frag} {mg : Str → Option Value} {F : Hp} {ρ : Rho} {σ : L2.St} {H : Hp} {Q : VK} {α : Type} {r : R α} {f : α → R (EV × Rho)} (c : Calm r) (h : PostE K mg W F ρ σ H (r.bind f) Q) : ∃ d, r = .ok d ∧ PostE K mg W F ρ σ H (f d) Q := by
  cases r with
  | ok d => exact ⟨d, rfl, h⟩
  | ex x => exact absurd rfl (c x)
  | bad => exact False.elim h
theorem bin_rd {op : Dt → Dt → R EV} {ma mb : M EV} {σ : L2.St} {H : Hp} {Q : VK} (hc : ∀ a b, Calm (op a b)) (h : rdE X.K X.mg W (mBin op ma mb) σ H Q) :
    tOp (rd2 X.K op) (rdV X.K X.mg W ma) (rdV X.K X.mg W mb) σ H Q := by
  obtain ⟨ρ, F, r, h⟩ := h
  refine rdV_bind r h fun va ρ1 F1 H1 x r1 s1 e1 h => ?_
  refine rdV_bind r1 h fun vb ρ2 F2 H2 y r2 s2 e2 h => ?_
  obtain ⟨da, l1, h⟩ := look_bind h
  obtain ⟨db, l2, h⟩ := look_bind h
  obtain ⟨v, l3, h⟩ := calm_bind (hc da db) h
  exact ⟨F2, da, db, v, l3, r2.le, look_rep r2 (e1.mono s2.le) (by rw [look_settle]; exact l1), look_rep r2 e2 (by rw [look_settle]; exact l2), h.prim r2⟩
theorem SE.bin {a b : Expr} {pos : Pos} {o : Operator} {op : Dt → Dt → R EV} {ma mb : M EV} (ho : OpR X (binaryOp o) (rd2 X.K op)) (hc : ∀ a b, Calm (op a b)) (ha : SE X W a ma) (hb : SE X W b mb) : SE X W (.BinOp a o b pos) (mBin op ma mb) :=
  ⟨peImp (pe_op ho ha.v hb.v) fun _ _ _ h => bin_rd hc h⟩
theorem SE.cmp {a b : Expr} {pos : Pos} {o : CmpOp} {op : Dt → Dt → R EV} {ma mb : M EV} (ho : OpR X (compareOp o) (rd2 X.K op)) (hc : ∀ a b, Calm (op a b)) (hm : behindInMarks o b = false) (ha : SE X W a ma) (hb : SE X W b mb) :
    SE X W (.Compare a [o] [b] pos) (mBin op ma mb) := ⟨peImp (pe_cmpR ho ha.v hb.v hm) fun _ _ _ h => bin_rd hc h⟩
theorem un_rd {op : Dt → R EV} {ma : M EV} {σ : L2.St} {H : Hp} {Q : VK} (hc : ∀ a, Calm (op a)) (h : rdE X.K X.mg W (mUn op ma) σ H Q) : tUn (rd1 X.K op) (rdV X.K X.mg W ma) σ H Q := by
  obtain ⟨ρ, F, r, h⟩ := h
  refine rdV_bind r h fun va ρ1 F1 H1 x r1 s1 e1 h => ?_
  obtain ⟨da, l1, h⟩ := look_bind h
  obtain ⟨v, l3, h⟩ := calm_bind (hc da) h
  exact ⟨F1, da, v, l3, r1.le, look_rep r1 e1 (by rw [look_settle]; exact l1), h.prim r1⟩
theorem SE.un {a : Expr} {pos : Pos} {o : UnaryOp} {op : Dt → R EV} {ma : M EV} (ho : UnR X (unaryOp o) (rd1 X.K op)) (hc : ∀ a, Calm (op a)) (ha : SE X W a ma) : SE X W (.UnaryOp o a pos) (mUn op ma) :=
  ⟨peImp (pe_un ho ha.v) fun _ _ _ h => un_rd hc h⟩
end
end Mv
set_option Elab.async false
set_option linter.all false
set_option maxRecDepth 100000
set_option maxHeartbeats 4000000
namespace Mv
open PySem PySem.Spec PyProof.Rows L2

/-! ### readings whose answer does not hang on the heap -/
section
variable {α β : Type}
def PostG (K : PySem.W.Frag) (mg : Str → Option Value) (W : WX) (rep : Hp → L2.St → α → β → Prop) (F : Hp) (ρ : Rho) (σ : L2.St) (H : Hp) (r : R (α × Rho)) (Q : β → Hp → Prop) : Prop :=
  match r with
  | .ok (a, ρ') => ∀ F' H' b, Rel K F' ρ' σ H' → Step F ρ σ H F' ρ' σ H' → rep F' σ a b → Q b H'
  | .ex c => ∀ F' H' C, Air F ρ σ H F' H' → mg c = some (.ref C) → W (.ref C) none σ H'
  | .bad => False
def rdG (K : PySem.W.Frag) (mg : Str → Option Value) (W : WX) (rep : Hp → L2.St → α → β → Prop) (m : M α) : L2.St → Hp → (β → Hp → Prop) → Prop := fun σ H Q => ∃ ρ F, Rel K F ρ σ H ∧ PostG K mg W rep F ρ σ H (m ρ) Q
variable {K : PySem.W.Frag} {mg : Str → Option Value} {W : WX} {F : Hp} {ρ : Rho} {σ : L2.St} {H : Hp} {rep : Hp → L2.St → α → β → Prop} {Q : β → Hp → Prop}
theorem PostG.shift {F1 : Hp} {ρ1 : Rho} {H1 : Hp} {r : R (α × Rho)} (s : Step F ρ σ H F1 ρ1 σ H1) (h : PostG K mg W rep F ρ σ H r Q) : PostG K mg W rep F1 ρ1 σ H1 r Q := by
  unfold PostG at h ⊢
  split at h
  · exact fun F' H' x r' s' e' => h F' H' x r' (s.trans s') e'
  · exact fun F' H' C a e => h F' H' C (s.air a) e
  · exact h
/-- an expression ahead -/
theorem rdV_bindG {ma : M EV} {f : EV × Rho → R (α × Rho)} {Q1 : VK} (r : Rel K F ρ σ H) (h : PostG K mg W rep F ρ σ H ((ma ρ).bind f) Q)
    (k : ∀ v ρ1 F1 H1 x, Rel K F1 ρ1 σ H1 → Step F ρ σ H F1 ρ1 σ H1 → RepS K F1 σ (settle v) x → PostG K mg W rep F1 ρ1 σ H1 (f (v, ρ1)) Q → Q1 x H1) : rdV K mg W ma σ H Q1 := by
  refine ⟨ρ, F, r, ?_⟩
  cases e : ma ρ with
  | ok p =>
    obtain ⟨v, ρ1⟩ := p
    rw [e] at h
    intro F1 H1 x r1 s1 e1
    exact k v ρ1 F1 H1 x r1 s1 e1 (h.shift s1)
  | ex c => rw [e] at h; exact h
  | bad => rw [e] at h; exact h
/-- something else ahead -/
theorem rdG_bindE {γ δ : Type} {rep2 : Hp → L2.St → γ → δ → Prop} {ma : M γ} {f : γ × Rho → R (EV × Rho)} {Q : VK} {Q1 : δ → Hp → Prop} (r : Rel K F ρ σ H) (h : PostE K mg W F ρ σ H ((ma ρ).bind f) Q)
    (k : ∀ v ρ1 F1 H1 x, Rel K F1 ρ1 σ H1 → Step F ρ σ H F1 ρ1 σ H1 → rep2 F1 σ v x → PostE K mg W F1 ρ1 σ H1 (f (v, ρ1)) Q → Q1 x H1) : rdG K mg W rep2 ma σ H Q1 := by
  refine ⟨ρ, F, r, ?_⟩
  cases e : ma ρ with
  | ok p =>
    obtain ⟨v, ρ1⟩ := p
    rw [e] at h
    intro F1 H1 x r1 s1 e1
    exact k v ρ1 F1 H1 x r1 s1 e1 (h.shift s1)
  | ex c => rw [e] at h; exact h
  | bad => rw [e] at h; exact h
theorem rdG_bindG {γ δ : Type} {rep2 : Hp → L2.St → γ → δ → Prop} {ma : M γ} {f : γ × Rho → R (α × Rho)} {Q1 : δ → Hp → Prop} (r : Rel K F ρ σ H) (h : PostG K mg W rep F ρ σ H ((ma ρ).bind f) Q)
    (k : ∀ v ρ1 F1 H1 x, Rel K F1 ρ1 σ H1 → Step F ρ σ H F1 ρ1 σ H1 → rep2 F1 σ v x → PostG K mg W rep F1 ρ1 σ H1 (f (v, ρ1)) Q → Q1 x H1) : rdG K mg W rep2 ma σ H Q1 := by
  refine ⟨ρ, F, r, ?_⟩
  cases e : ma ρ with
  | ok p =>
    obtain ⟨v, ρ1⟩ := p
    rw [e] at h
    intro F1 H1 x r1 s1 e1
    exact k v ρ1 F1 H1 x r1 s1 e1 (h.shift s1)
  | ex c => rw [e] at h; exact h
  | bad => rw [e] at h; exact h
theorem look_bindG {ρ' : Rho} {f : Dt → R (α × Rho)} {v : EV} (h : PostG K mg W rep F ρ σ H ((lookEV v ρ').bind f) Q) : ∃ d, lookEV v ρ' = .ok d ∧ PostG K mg W rep F ρ σ H (f d) Q := by
  cases e : lookEV v ρ' with
  | ok d => rw [e] at h; exact ⟨d, rfl, h⟩
  | ex c =>
    exfalso
    cases v with
    | val d => cases e
    | new o => cases e
    | slot i => simp only [lookEV] at e; split at e <;> cases e
  | bad => rw [e] at h; exact False.elim h
theorem calm_bindG {γ : Type} {r : R γ} {f : γ → R (α × Rho)} (c : Calm r) (h : PostG K mg W rep F ρ σ H (r.bind f) Q) : ∃ d, r = .ok d ∧ PostG K mg W rep F ρ σ H (f d) Q := by
  cases r with
  | ok d => exact ⟨d, rfl, h⟩
  | ex x => exact absurd rfl (c x)
  | bad => exact False.elim h
theorem PostG.here {a : α} {b : β} (h : PostG K mg W rep F ρ σ H (.ok (a, ρ)) Q) (r : Rel K F ρ σ H) (e : rep F σ a b) : Q b H := h F H b r (Step.refl _ _ _ _) e
end
theorem PostE.here {K : PySem.W.Frag} {mg : Str → Option Value} {W : WX} {F : Hp} {ρ : Rho} {σ : L2.St} {H : Hp} {Q : VK} {v : EV} {x : V} (h : PostE K mg W F ρ σ H (.ok (v, ρ)) Q) (r : Rel K F ρ σ H) (e : RepE K F ρ σ H H v x) : Q x H := h F H x r (Step.refl _ _ _ _) e

/-! ### tests -/
abbrev repB : Hp → L2.St → Bool → Bool → Prop := fun _ _ a b => a = b
abbrev rdT (K : PySem.W.Frag) (mg : Str → Option Value) (W : WX) (m : M Bool) : TT := rdG K mg W repB m
structure ST (X : Cx) (W : WX) (e : Expr) (m : M Bool) : Prop where
  pt : PT X e (rdT X.K X.mg W m)
structure SW (X : Cx) (W : WX) (e : Expr) (m : M Bool) : Prop where
  pw : PW X e (rdT X.K X.mg W m)
theorem ptImp {X : Cx} {e : Expr} {t t' : TT} (h : PT X e t) (i : ∀ σ H Q, t' σ H Q → t σ H Q) : PT X e t' := ⟨fun pins s σ H Q I q => h.run pins s σ H Q I (i σ H Q q)⟩
theorem pwImp {X : Cx} {e : Expr} {t t' : TT} (h : PW X e t) (i : ∀ σ H Q, t' σ H Q → t σ H Q) : PW X e t' := ⟨fun w pins s σ H Q I q => h.run w pins s σ H Q I (i σ H Q q)⟩
def truthD : Dt → R Bool
  | .none => .ok false
  | .bool b => .ok b
  | .int i => .ok (i != 0)
  | .str x => if x.length ≤ sizeLine then .ok (x.length != 0) else .bad
  | .list l => .ok (!l.isEmpty)
  | .tuple l => .ok (!l.isEmpty)
  | .dict _ => .bad
def mTest (m : M EV) : M Bool := fun ρ => (m ρ).bind fun a => (lookEV a.1 a.2).bind fun d => (truthD d).bind fun b => .ok (b, a.2)
def boolEV : EV → R Bool
  | .val (.bool b) => .ok b
  | _ => .bad
def mBool (m : M EV) : M Bool := fun ρ => (m ρ).bind fun a => (boolEV a.1).bind fun b => .ok (b, a.2)
def mAndT (a b : M Bool) : M Bool := fun ρ => (a ρ).bind fun x => if x.1 = true then b x.2 else .ok (false, x.2)
def mOrT (a b : M Bool) : M Bool := fun ρ => (a ρ).bind fun x => if x.1 = true then .ok (true, x.2) else b x.2
def mNotT (a : M Bool) : M Bool := fun ρ => (a ρ).bind fun x => .ok (!x.1, x.2)
def mIf (c : M Bool) (a b : M EV) : M EV := fun ρ => (c ρ).bind fun x => if x.1 = true then a x.2 else b x.2
def mNotV (c : M EV) : M EV := fun ρ => (c ρ).bind fun a => (boolEV a.1).bind fun b => .ok (.val (.bool (!b)), a.2)
def mAndV (a b : M EV) : M EV := fun ρ => (a ρ).bind fun x => (boolEV x.1).bind fun c => if c = true then b x.2 else .ok (.val (.bool false), x.2)
def mOrV (a b : M EV) : M EV := fun ρ => (a ρ).bind fun x => (boolEV x.1).bind fun c => if c = true then .ok (.val (.bool true), x.2) else b x.2
theorem calm_truth : ∀ d : Dt, Calm (truthD d)
  | .none, c, h => by cases h
  | .bool _, c, h => by cases h
  | .int _, c, h => by cases h
  | .str x, c, h => by
    by_cases k : x.length ≤ sizeLine
    · have h' : (if x.length ≤ sizeLine then R.ok (x.length != 0) else R.bad) = R.ex c := h
      rw [if_pos k] at h'; cases h'
    · have h' : (if x.length ≤ sizeLine then R.ok (x.length != 0) else R.bad) = R.ex c := h
      rw [if_neg k] at h'; cases h'
  | .list _, c, h => by cases h
  | .tuple _, c, h => by cases h
  | .dict _, c, h => by cases h
theorem calm_boolEV (v : EV) : Calm (boolEV v) := fun c h => by
  unfold boolEV at h; split at h <;> cases h
theorem boolEV_ok {v : EV} {b : Bool} (h : boolEV v = .ok b) : v = .val (.bool b) := by
  unfold boolEV at h; split at h
  · cases h; rfl
  · cases h
section
variable {X : Cx} {W : WX}
theorem truth_rep {K : PySem.W.Frag} {F H : Hp} {d : Dt} {x : V} {b : Bool} (le : LeH F H) (r : RepT K F H d x) (h : truthD d = .ok b) : TruV K x H b := by
  cases d with
  | none => simp only [RepT] at r; subst r; simp only [truthD, R.ok.injEq] at h; exact h.symm
  | bool c => simp only [RepT] at r; subst r; simp only [truthD, R.ok.injEq] at h; exact h.symm
  | int i => simp only [RepT] at r; subst r; simp only [truthD, R.ok.injEq] at h; exact h.symm
  | str s =>
    simp only [RepT] at r; subst r
    have h' : (if s.length ≤ sizeLine then R.ok (s.length != 0) else R.bad) = R.ok b := h
    by_cases hl : s.length ≤ sizeLine
    · rw [if_pos hl] at h'
      simp only [R.ok.injEq] at h'
      refine ⟨hl, ?_⟩
      rw [← h']
      rw [Bool.eq_iff_iff]; simp only [bne_iff_ne, ne_eq]; omega
    · rw [if_neg hl] at h'; cases h'
  | list l =>
    simp only [RepT] at r
    obtain ⟨a, xs, rfl, h1, h2, h3⟩ := r
    simp only [truthD, R.ok.injEq] at h
    refine .inl ⟨xs, .inl h1, ?_⟩
    rw [← h]
    have := h3.length
    cases l <;> cases xs <;> simp_all
  | tuple l =>
    simp only [RepT] at r
    obtain ⟨a, xs, rfl, h1, h2, h3⟩ := r
    simp only [truthD, R.ok.injEq] at h
    refine .inr (.inl ⟨xs, (sqT_leH le h1).sq, ?_⟩)
    rw [← h]
    have := h3.length
    cases l <;> cases xs <;> simp_all
  | dict l => cases h
theorem ST.truth {e : Expr} {m : M EV} (h : SE X W e m) (he : ∀ whole, isTrue e X.env whole = (do let v ← whole; standAt e.pos; holding [v] (truthy v)) := by intro _; rfl) : ST X W e (mTest m) := by
  refine ⟨ptImp (pt_truth h.v he) fun σ H Q q => ?_⟩
  obtain ⟨ρ, F, r, q⟩ := q
  refine rdV_bindG r q fun v ρ1 F1 H1 x r1 s1 e1 q => ?_
  obtain ⟨d, l1, q⟩ := look_bindG q
  obtain ⟨b, l2, q⟩ := calm_bindG (calm_truth d) q
  exact ⟨b, truth_rep r1.le (look_rep r1 e1 (by rw [look_settle]; exact l1)) l2, q.here r1 rfl⟩
theorem rd2_bool {K : PySem.W.Frag} {op : Dt → Dt → R EV} {F H : Hp} {a b : Dt} {x y : V} {k : Bool} {Q : VK} (e : op a b = .ok (.val (.bool k))) (le : LeH F H) (ra : RepT K F H a x) (rb : RepT K F H b y)
    (h : ∀ F' H', LeF F F' → (∀ a, F a = none → F' a ≠ none → H a = none) → LeF H H' → LeH F' H' → Q (.bl k) H') : rd2 K op x y H Q :=
  ⟨F, a, b, _, e, le, ra, rb, fun F' H' z f g hh l r => by
    have r' : Rep K F' (.bool k) z := r
    simp only [Rep] at r'
    subst r'
    exact h F' H' f g hh l⟩
theorem ST.cmp {a b : Expr} {pos : Pos} {o : CmpOp} {op : Dt → Dt → R EV} {ma mb : M EV} (ho : OpR X (compareOp o) (rd2 X.K op)) (hc : ∀ a b, Calm (op a b)) (hm : behindInMarks o b = false) (ha : SE X W a ma) (hb : SE X W b mb) :
    ST X W (.Compare a [o] [b] pos) (mBool (mBin op ma mb)) := by
  refine ⟨ptImp (pt_cmpR ho ha.v hb.v hm) fun σ H Q q => ?_⟩
  obtain ⟨ρ, F, r, q⟩ := q
  have q' : PostG X.K X.mg W repB F ρ σ H ((ma ρ).bind fun a => (mb a.2).bind fun b => (lookEV a.1 b.2).bind fun da => (lookEV b.1 b.2).bind fun db => (op da db).bind fun v => (boolEV v).bind fun k => .ok (k, b.2)) Q := by
    refine cast ?_ q
    congr 1
    unfold mBool mBin
    cases ma ρ with
    | ok p =>
      simp only [R.bind]
      cases mb p.2 with
      | ok p2 =>
        simp only [R.bind]
        cases lookEV p.1 p2.2 <;> simp only [R.bind]
        cases lookEV p2.1 p2.2 <;> simp only [R.bind]
        cases op _ _ <;> rfl
      | ex c => rfl
      | bad => rfl
    | ex c => rfl
    | bad => rfl
  refine rdV_bindG r q' fun va ρ1 F1 H1 x r1 s1 e1 h => ?_
  refine rdV_bindG r1 h fun vb ρ2 F2 H2 y r2 s2 e2 h => ?_
  obtain ⟨da, l1, h⟩ := look_bindG h
  obtain ⟨db, l2, h⟩ := look_bindG h
  obtain ⟨v, l3, h⟩ := calm_bindG (hc da db) h
  obtain ⟨k, l4, h⟩ := calm_bindG (calm_boolEV v) h
  have l4' := boolEV_ok l4
  subst l4'
  exact rd2_bool l3 r2.le (look_rep r2 (e1.mono s2.le) (by rw [look_settle]; exact l1)) (look_rep r2 e2 (by rw [look_settle]; exact l2))
    fun F' H' f g hh l => ⟨k, rfl, h F' H' k (r2.grown f g hh l) (Step.grown f g hh) rfl⟩
theorem SW.and1 {a : Expr} {pos : Pos} {m : M Bool} (h : ST X W a m) : SW X W (.BoolOp .And [a] pos) m := ⟨pw_and1 h.pt⟩
theorem SW.or1 {a : Expr} {pos : Pos} {m : M Bool} (h : ST X W a m) : SW X W (.BoolOp .Or [a] pos) m := ⟨pw_or1 h.pt⟩
theorem SW.and {a b : Expr} {rest : List Expr} {pos : Pos} {m n : M Bool} (h : ST X W a m) (h2 : SW X W (.BoolOp .And (b :: rest) pos) n) : SW X W (.BoolOp .And (a :: b :: rest) pos) (mAndT m n) := by
  refine ⟨pwImp (pw_and h.pt h2.pw) fun σ H Q q => ?_⟩
  obtain ⟨ρ, F, r, q⟩ := q
  refine rdG_bindG r q fun c ρ1 F1 H1 x r1 s1 e1 q => ?_
  subst e1
  by_cases k : c = true
  · rw [if_pos k]
    rw [if_pos k] at q
    exact ⟨ρ1, F1, r1, q⟩
  · rw [if_neg k]
    rw [if_neg k] at q
    exact q.here r1 rfl
theorem SW.or {a b : Expr} {rest : List Expr} {pos : Pos} {m n : M Bool} (h : ST X W a m) (h2 : SW X W (.BoolOp .Or (b :: rest) pos) n) : SW X W (.BoolOp .Or (a :: b :: rest) pos) (mOrT m n) := by
  refine ⟨pwImp (pw_or h.pt h2.pw) fun σ H Q q => ?_⟩
  obtain ⟨ρ, F, r, q⟩ := q
  refine rdG_bindG r q fun c ρ1 F1 H1 x r1 s1 e1 q => ?_
  subst e1
  by_cases k : c = true
  · rw [if_pos k]
    rw [if_pos k] at q
    exact q.here r1 rfl
  · rw [if_neg k]
    rw [if_neg k] at q
    exact ⟨ρ1, F1, r1, q⟩
theorem ST.w {e : Expr} {m : M Bool} (h : SW X W e m) : ST X W e m := ⟨h.pw.pt⟩
theorem ST.not {a : Expr} {pos : Pos} {m : M Bool} (h : ST X W a m) : ST X W (.UnaryOp .Not a pos) (mNotT m) := by
  refine ⟨ptImp (pt_not h.pt) fun σ H Q q => ?_⟩
  obtain ⟨ρ, F, r, q⟩ := q
  refine rdG_bindG r q fun c ρ1 F1 H1 x r1 s1 e1 q => ?_
  subst e1
  exact q.here r1 rfl
theorem SE.ifx {c a b : Expr} {pos : Pos} {mc : M Bool} {ma mb : M EV} (hc : ST X W c mc) (ha : SE X W a ma) (hb : SE X W b mb) : SE X W (.IfExp c a b pos) (mIf mc ma mb) := by
  refine ⟨peImp (pe_ifExp hc.pt ha.pe hb.pe) fun σ H Q q => ?_⟩
  obtain ⟨ρ, F, r, q⟩ := q
  refine rdG_bindE r q fun c ρ1 F1 H1 x r1 s1 e1 q => ?_
  subst e1
  by_cases k : c = true
  · rw [if_pos k]
    rw [if_pos k] at q
    exact ⟨ρ1, F1, r1, q⟩
  · rw [if_neg k]
    rw [if_neg k] at q
    exact ⟨ρ1, F1, r1, q⟩
theorem bl_of {K : PySem.W.Frag} {F : Hp} {σ : L2.St} {v : EV} {x : V} {b : Bool} (e : RepS K F σ (settle v) x) (h : boolEV v = .ok b) : x = .bl b := by
  have := boolEV_ok h
  subst this
  have e' : Rep K F (.bool b) x := e
  simpa only [Rep] using e'
theorem SE.notv {a : Expr} {pos : Pos} {m : M EV} (h : SE X W a m) : SE X W (.UnaryOp .Not a pos) (mNotV m) := by
  refine ⟨peImp (pe_not h.v) fun σ H Q q => ?_⟩
  obtain ⟨ρ, F, r, q⟩ := q
  refine rdV_bind r q fun v ρ1 F1 H1 x r1 s1 e1 q => ?_
  obtain ⟨b, l, q⟩ := calm_bind (calm_boolEV v) q
  exact ⟨b, bl_of e1 l, q.here r1 (by show Rep _ _ _ _; simp only [Rep])⟩
theorem SE.one {op : BoolOp} {a : Expr} {pos : Pos} {m : M EV} (h : SE X W a m) : SE X W (.BoolOp op [a] pos) m := ⟨pe_one h.pe⟩
theorem SE.and {a b : Expr} {rest : List Expr} {pos : Pos} {m n : M EV} (h : SE X W a m) (h2 : SE X W (.BoolOp .And (b :: rest) pos) n) : SE X W (.BoolOp .And (a :: b :: rest) pos) (mAndV m n) := by
  refine ⟨peImp (pe_and h.v h2.pe) fun σ H Q q => ?_⟩
  obtain ⟨ρ, F, r, q⟩ := q
  refine rdV_bind r q fun v ρ1 F1 H1 x r1 s1 e1 q => ?_
  obtain ⟨c, l, q⟩ := calm_bind (calm_boolEV v) q
  refine ⟨c, bl_of e1 l, ?_⟩
  by_cases k : c = true
  · rw [if_pos k]
    rw [if_pos k] at q
    exact ⟨ρ1, F1, r1, q⟩
  · rw [if_neg k]
    rw [if_neg k] at q
    exact q.here r1 (by show Rep _ _ _ _; simp only [Rep])
theorem SE.or {a b : Expr} {rest : List Expr} {pos : Pos} {m n : M EV} (h : SE X W a m) (h2 : SE X W (.BoolOp .Or (b :: rest) pos) n) : SE X W (.BoolOp .Or (a :: b :: rest) pos) (mOrV m n) := by
  refine ⟨peImp (pe_or h.v h2.pe) fun σ H Q q => ?_⟩
  obtain ⟨ρ, F, r, q⟩ := q
  refine rdV_bind r q fun v ρ1 F1 H1 x r1 s1 e1 q => ?_
  obtain ⟨c, l, q⟩ := calm_bind (calm_boolEV v) q
  refine ⟨c, bl_of e1 l, ?_⟩
  by_cases k : c = true
  · rw [if_pos k]
    rw [if_pos k] at q
    exact q.here r1 (by show Rep _ _ _ _; simp only [Rep])
  · rw [if_neg k]
    rw [if_neg k] at q
    exact ⟨ρ1, F1, r1, q⟩
end

/-! ### a op b op c -/
def mChain (op op2 : Dt → Dt → R EV) (ma mb mc : M EV) : M EV := fun ρ => (ma ρ).bind fun a => (mb a.2).bind fun b => (lookEV a.1 b.2).bind fun da => (lookEV b.1 b.2).bind fun db => (op da db).bind fun v => (boolEV v).bind fun k =>
  if k = true then (mc b.2).bind fun c => (lookEV b.1 c.2).bind fun db2 => (lookEV c.1 c.2).bind fun dc => (op2 db2 dc).bind fun v => .ok (v, c.2) else .ok (.val (.bool false), b.2)
section
variable {X : Cx} {W : WX}
theorem chain_rd {op op2 : Dt → Dt → R EV} {ma mb mc : M EV} {σ : L2.St} {H : Hp} {Q : VK} (hc : ∀ a b, Calm (op a b)) (hc2 : ∀ a b, Calm (op2 a b)) (h : rdE X.K X.mg W (mChain op op2 ma mb mc) σ H Q) :
    tChain (rd2 X.K op) (rd2 X.K op2) (rdV X.K X.mg W ma) (rdV X.K X.mg W mb) (rdV X.K X.mg W mc) σ H Q := by
  obtain ⟨ρ, F, r, h⟩ := h
  refine rdV_bind r h fun va ρ1 F1 H1 x r1 s1 e1 h => ?_
  refine rdV_bind r1 h fun vb ρ2 F2 H2 y r2 s2 e2 h => ?_
  obtain ⟨da, l1, h⟩ := look_bind h
  obtain ⟨db, l2, h⟩ := look_bind h
  obtain ⟨v, l3, h⟩ := calm_bind (hc da db) h
  obtain ⟨k, l4, h5⟩ := calm_bind (calm_boolEV v) h
  have l4' := boolEV_ok l4
  subst l4'
  refine rd2_bool l3 r2.le (look_rep r2 (e1.mono s2.le) (by rw [look_settle]; exact l1)) (look_rep r2 e2 (by rw [look_settle]; exact l2)) fun F' H' f g hh l => ⟨k, rfl, ?_⟩
  have r3 := r2.grown f g hh l
  have s3 : Step F2 ρ2 σ H2 F' ρ2 σ H' := Step.grown f g hh
  have h3 := h5.shift s3
  by_cases kk : k = true
  · rw [if_pos kk]
    rw [if_pos kk] at h3
    refine rdV_bind r3 h3 fun vc ρ4 F4 H4 z r4 s4 e4 h4 => ?_
    obtain ⟨db2, l5, h4⟩ := look_bind h4
    obtain ⟨dc, l6, h4⟩ := look_bind h4
    obtain ⟨v, l7, h4⟩ := calm_bind (hc2 db2 dc) h4
    exact ⟨F4, db2, dc, v, l7, r4.le, look_rep r4 ((e2.mono s3.le).mono s4.le) (by rw [look_settle]; exact l5), look_rep r4 e4 (by rw [look_settle]; exact l6), h4.prim r4⟩
  · rw [if_neg kk]
    rw [if_neg kk] at h3
    exact h3.here r3 (by show Rep _ _ _ _; simp only [Rep])
theorem SE.chain {a b c : Expr} {pos : Pos} {o o2 : CmpOp} {op op2 : Dt → Dt → R EV} {ma mb mc : M EV} (ho : OpR X (compareOp o) (rd2 X.K op)) (hc : ∀ a b, Calm (op a b)) (ho2 : OpR X (compareOp o2) (rd2 X.K op2)) (hc2 : ∀ a b, Calm (op2 a b))
    (ha : SE X W a ma) (hb : SE X W b mb) (hcc : SE X W c mc) (hm : lastMarks [o, o2] [b, c] = false := by with_unfolding_all rfl) : SE X W (.Compare a [o, o2] [b, c] pos) (mChain op op2 ma mb mc) :=
  ⟨peImp (pe_chain ho ho2 ha.v hb.v hcc.v hm) fun _ _ _ h => chain_rd hc hc2 h⟩
/-- a test by a reading of its value, a bool -/
theorem bool_rd {K : PySem.W.Frag} {mg : Str → Option Value} {m : M EV} {σ : L2.St} {H : Hp} {Q : Bool → Hp → Prop} (h : rdT K mg W (mBool m) σ H Q) : rdE K mg W m σ H fun x H' => ∃ k, x = .bl k ∧ Q k H' := by
  obtain ⟨ρ, F, r, h⟩ := h
  refine ⟨ρ, F, r, ?_⟩
  unfold mBool at h
  cases e : m ρ with
  | ok p =>
    obtain ⟨v, ρ1⟩ := p
    rw [e] at h
    intro F' H' x r' s' e'
    obtain ⟨k, l, h⟩ := calm_bindG (r := boolEV v) (f := fun b => R.ok (b, ρ1)) (calm_boolEV v) h
    have := boolEV_ok l
    subst this
    have e2 : Rep K F' (.bool k) x := e'
    simp only [Rep] at e2
    exact ⟨k, e2, h F' H' k r' s' rfl⟩
  | ex c => rw [e] at h; exact h
  | bad => rw [e] at h; exact h
theorem ST.chain {a b c : Expr} {pos : Pos} {o o2 : CmpOp} {op op2 : Dt → Dt → R EV} {ma mb mc : M EV} (ho : OpR X (compareOp o) (rd2 X.K op)) (hc : ∀ a b, Calm (op a b)) (ho2 : OpR X (compareOp o2) (rd2 X.K op2)) (hc2 : ∀ a b, Calm (op2 a b))
    (ha : SE X W a ma) (hb : SE X W b mb) (hcc : SE X W c mc) (hm : lastMarks [o, o2] [b, c] = false := by with_unfolding_all rfl) : ST X W (.Compare a [o, o2] [b, c] pos) (mBool (mChain op op2 ma mb mc)) :=
  ⟨ptImp (pt_chain ho ho2 ha.v hb.v hcc.v hm) fun _ _ _ h => chain_rd hc hc2 (bool_rd h)⟩
end

/-! ### arguments, displays -/
inductive RepSs (K : PySem.W.Frag) (F : Hp) (σ : L2.St) : List EV → List V → Prop
  | nil : RepSs K F σ [] []
  | cons {v vs x xs} : RepS K F σ v x → RepSs K F σ vs xs → RepSs K F σ (v :: vs) (x :: xs)
theorem RepSs.mono {K : PySem.W.Frag} {F F' : Hp} {σ : L2.St} (h : LeF F F') : ∀ {vs : List EV} {xs : List V}, RepSs K F σ vs xs → RepSs K F' σ vs xs
  | _, _, .nil => .nil
  | _, _, .cons a b => .cons (a.mono h) (RepSs.mono h b)
abbrev repSs (K : PySem.W.Frag) : Hp → L2.St → List EV → List V → Prop := fun F σ vs xs => RepSs K F σ vs xs
structure SA (X : Cx) (W : WX) (es : List Expr) (m : M (List EV)) : Prop where
  pa : PA X es (rdG X.K X.mg W (repSs X.K) m)
def mArgs : List (M EV) → M (List EV)
  | [] => fun ρ => .ok ([], ρ)
  | m :: ms => fun ρ => (m ρ).bind fun a => (mArgs ms a.2).bind fun r => .ok (settle a.1 :: r.1, r.2)
theorem paImp {X : Cx} {e : List Expr} {t t' : TA} (h : PA X e t) (i : ∀ σ H Q, t' σ H Q → t σ H Q) : PA X e t' := ⟨fun pos pins s σ H Q I q => h.run pos pins s σ H Q I (i σ H Q q)⟩
section
variable {X : Cx} {W : WX}
theorem SA.nil : SA X W [] (mArgs []) := ⟨paImp pa_nil fun σ H Q q => by
  obtain ⟨ρ, F, r, q⟩ := q
  exact PostG.here (rep := repSs X.K) q r .nil⟩
theorem SA.cons {e : Expr} {es : List Expr} {m : M EV} {ms : List (M EV)} (h : SE X W e m) (hr : SA X W es (mArgs ms)) (hs : starEach (e :: es) X.env = (false, eval e X.env) :: starEach es X.env := by rfl) : SA X W (e :: es) (mArgs (m :: ms)) := by
  refine ⟨paImp (pa_cons h.v hr.pa hs) fun σ H Q q => ?_⟩
  obtain ⟨ρ, F, r, q⟩ := q
  refine rdV_bindG r q fun v ρ1 F1 H1 x r1 s1 e1 q => ?_
  refine rdG_bindG (rep2 := repSs X.K) r1 q fun vs ρ2 F2 H2 xs r2 s2 e2 q => ?_
  exact q.here r2 (.cons (e1.mono s2.le) e2)
theorem mArgs_len : ∀ (ms : List (M EV)) (ρ : Rho) (vs : List EV) (ρ' : Rho), mArgs ms ρ = .ok (vs, ρ') → vs.length = ms.length
  | [], ρ, vs, ρ', h => by
    simp only [mArgs, R.ok.injEq, Prod.mk.injEq] at h
    rw [← h.1]; rfl
  | m :: ms, ρ, vs, ρ', h => by
    simp only [mArgs] at h
    cases e : m ρ with
    | ok p =>
      rw [e] at h
      simp only [R.bind] at h
      cases e2 : mArgs ms p.2 with
      | ok q =>
        rw [e2] at h
        simp only [R.bind, R.ok.injEq, Prod.mk.injEq] at h
        rw [← h.1, List.length_cons, List.length_cons, mArgs_len ms p.2 q.1 q.2 e2]
      | ex c => rw [e2] at h; cases h
      | bad => rw [e2] at h; cases h
    | ex c => rw [e] at h; cases h
    | bad => rw [e] at h; cases h
/-- the value as data; an own variable is frozen -/
def forceEV (v : EV) (ρ : Rho) : R (Dt × Rho) :=
  match v with
  | .val d => .ok (d, ρ)
  | .new o => .ok (o.d, ρ)
  | .slot i => match ρ[i]? with
    | some (some (.own o)) => .ok (o.d, ρ.set i (some (.val o.d)))
    | some (some (.val d)) => .ok (d, ρ)
    | _ => .bad
def mForce (m : M EV) : M EV := fun ρ => (m ρ).bind fun a => (forceEV a.1 a.2).bind fun d => .ok (.val d.1, d.2)
theorem calm_force (v : EV) (ρ : Rho) : Calm (forceEV v ρ) := fun c h => by
  cases v with
  | val d => cases h
  | new o => cases h
  | slot i => simp only [forceEV] at h; split at h <;> cases h
theorem force_ok {K : PySem.W.Frag} {F : Hp} {ρ : Rho} {σ : L2.St} {H : Hp} (r : Rel K F ρ σ H) {v : EV} {x : V} {d : Dt} {ρ' : Rho} (s : RepS K F σ (settle v) x) (h : forceEV v ρ = .ok (d, ρ')) :
    ∃ F', Rel K F' ρ' σ H ∧ Step F ρ σ H F' ρ' σ H ∧ Rep K F' d x := by
  cases v with
  | val d' => simp only [forceEV, R.ok.injEq, Prod.mk.injEq] at h; obtain ⟨rfl, rfl⟩ := h; exact ⟨F, r, Step.refl _ _ _ _, s⟩
  | new o => simp only [forceEV, R.ok.injEq, Prod.mk.injEq] at h; obtain ⟨rfl, rfl⟩ := h; exact ⟨F, r, Step.refl _ _ _ _, s⟩
  | slot i =>
    have s' : σ[i]? = some (some x) := s
    simp only [forceEV] at h
    split at h
    · rename_i o e
      simp only [R.ok.injEq, Prod.mk.injEq] at h; obtain ⟨rfl, rfl⟩ := h
      exact r.fzSlot e s'
    · rename_i d' e
      simp only [R.ok.injEq, Prod.mk.injEq] at h; obtain ⟨rfl, rfl⟩ := h
      obtain ⟨w, e1, e2⟩ := r.val i _ e
      rw [s'] at e1; cases e1
      exact ⟨F, r, Step.refl _ _ _ _, e2⟩
    · cases h
theorem SE.force {e : Expr} {m : M EV} (h : SE X W e m) : SE X W e (mForce m) := by
  refine ⟨peImp h.v fun σ H Q q => ?_⟩
  obtain ⟨ρ, F, r, q⟩ := q
  refine rdV_bind r q fun v ρ1 F1 H1 x r1 s1 e1 q => ?_
  obtain ⟨d, l, q⟩ := calm_bind (calm_force v ρ1) q
  obtain ⟨F2, r2, s2, e2⟩ := force_ok r1 e1 l
  exact q F2 H1 x r2 s2 e2
/-- all of them data -/
def dataOf : List EV → R (List Dt)
  | [] => .ok []
  | .val d :: vs => (dataOf vs).bind fun ds => .ok (d :: ds)
  | _ :: _ => .bad
theorem calm_dataOf : ∀ vs : List EV, Calm (dataOf vs)
  | [], c, h => by cases h
  | .val d :: vs, c, h => by
    simp only [dataOf] at h
    cases e : dataOf vs with
    | ok ds => rw [e] at h; cases h
    | ex x => exact calm_dataOf vs x e
    | bad => rw [e] at h; cases h
  | .slot _ :: _, c, h => by cases h
  | .new _ :: _, c, h => by cases h
theorem data_rep {K : PySem.W.Frag} {F : Hp} {σ : L2.St} : ∀ {vs : List EV} {xs : List V} {ds : List Dt}, RepSs K F σ vs xs → dataOf vs = .ok ds → RepAll K F ds xs
  | _, _, ds, .nil, h => by simp only [dataOf, R.ok.injEq] at h; subst h; exact RepAll.nil
  | .val d :: vs, x :: xs, ds, .cons a b, h => by
    simp only [dataOf] at h
    cases e : dataOf vs with
    | ok es =>
      rw [e] at h
      simp only [R.bind, R.ok.injEq] at h
      subst h
      exact RepAll.cons a (data_rep b e)
    | ex c => rw [e] at h; cases h
    | bad => rw [e] at h; cases h
  | .slot _ :: _, _, _, _, h => by cases h
  | .new _ :: _, _, _, _, h => by cases h
theorem dataOf_len : ∀ {vs : List EV} {ds : List Dt}, dataOf vs = .ok ds → ds.length = vs.length
  | [], ds, h => by simp only [dataOf, R.ok.injEq] at h; subst h; rfl
  | .val d :: vs, ds, h => by
    simp only [dataOf] at h
    cases e : dataOf vs with
    | ok es =>
      rw [e] at h
      simp only [R.bind, R.ok.injEq] at h
      subst h
      simp [dataOf_len e]
    | ex c => rw [e] at h; cases h
    | bad => rw [e] at h; cases h
  | .slot _ :: _, _, h => by cases h
  | .new _ :: _, _, h => by cases h
def mTup (ms : List (M EV)) : M EV := fun ρ => (mArgs ms ρ).bind fun a => (dataOf a.1).bind fun ds => .ok (.val (.tuple ds), a.2)
def mLst (ms : List (M EV)) : M EV := fun ρ => (mArgs ms ρ).bind fun a => (dataOf a.1).bind fun ds => .ok (.new (.lst ds), a.2)
theorem line_of {n : Nat} (h : n ≤ 100000) : n ≤ sizeLine := Nat.le_trans h (by decide)
theorem SE.tup {es : List Expr} {x1 : Nat} {pos : Pos} {ms : List (M EV)} (h : SA X W es (mArgs ms)) (hl : ms.length ≤ 100000 := by exact Nat.le_of_ble_eq_true rfl) : SE X W (.Tuple es x1 pos) (mTup ms) := by
  refine ⟨peImp (pe_tup h.pa) fun σ H Q q => ?_⟩
  obtain ⟨ρ, F, r, q⟩ := q
  have hlen : ∀ vs ρ', mArgs ms ρ = .ok (vs, ρ') → vs.length ≤ sizeLine := fun vs ρ' e => by rw [mArgs_len ms ρ vs ρ' e]; exact line_of hl
  refine ⟨ρ, F, r, ?_⟩
  unfold mTup at q
  cases e : mArgs ms ρ with
  | ok p =>
    obtain ⟨vs, ρ1⟩ := p
    rw [e] at q
    intro F1 H1 xs r1 s1 e1
    have q' := PostE.shift s1 q
    obtain ⟨ds, l, q'⟩ := calm_bind (r := dataOf vs) (f := fun ds => R.ok (EV.val (.tuple ds), ρ1)) (calm_dataOf vs) q'
    have hr := data_rep e1 l
    have hz : xs.length ≤ sizeLine := by rw [← hr.length, dataOf_len l]; exact hlen _ _ e
    refine ⟨hz, fun p hp => ?_⟩
    refine (q'.prim r1).newF r1.le hp fun F' f e => ?_
    simp only [Rep]
    exact ⟨p, xs, rfl, .inl e, hz, hr.mono f⟩
  | ex c => rw [e] at q; exact q
  | bad => rw [e] at q; exact q
theorem SE.lst {es : List Expr} {pos : Pos} {ms : List (M EV)} (h : SA X W es (mArgs ms)) (hl : ms.length ≤ 100000 := by exact Nat.le_of_ble_eq_true rfl) : SE X W (.List es pos) (mLst ms) := by
  refine ⟨peImp (pe_lst h.pa) fun σ H Q q => ?_⟩
  obtain ⟨ρ, F, r, q⟩ := q
  have hlen : ∀ vs ρ', mArgs ms ρ = .ok (vs, ρ') → vs.length ≤ sizeLine := fun vs ρ' e => by rw [mArgs_len ms ρ vs ρ' e]; exact line_of hl
  refine ⟨ρ, F, r, ?_⟩
  unfold mLst at q
  cases e : mArgs ms ρ with
  | ok p =>
    obtain ⟨vs, ρ1⟩ := p
    rw [e] at q
    intro F1 H1 xs r1 s1 e1
    have q' := PostE.shift s1 q
    obtain ⟨ds, l, q'⟩ := calm_bind (r := dataOf vs) (f := fun ds => R.ok (EV.new (.lst ds), ρ1)) (calm_dataOf vs) q'
    have hr := data_rep e1 l
    have hz : xs.length ≤ sizeLine := by rw [← hr.length, dataOf_len l]; exact hlen _ _ e
    refine ⟨hz, fun p hp => ?_⟩
    exact (q'.prim r1).newO r1.le hp ⟨xs, upd_same, hz, hr⟩
  | ex c => rw [e] at q; exact q
  | bad => rw [e] at q; exact q
end
end Mv
set_option Elab.async false
set_option linter.all false
set_option maxRecDepth 100000
set_option maxHeartbeats 4000000
namespace Mv
open PySem PySem.Spec PyProof.Rows L2

/-! ### operations on data -/
abbrev iV (i : Int) : R EV := .ok (.val (.int i))
abbrev bV (b : Bool) : R EV := .ok (.val (.bool b))
def guardR {α : Type} (c : Prop) [Decidable c] (r : R α) : R α := if c then r else .bad
theorem guard_ok {α : Type} {c : Prop} [Decidable c] {r : R α} {a : α} (h : guardR c r = .ok a) : c ∧ r = .ok a := by
  unfold guardR at h
  by_cases k : c
  · rw [if_pos k] at h; exact ⟨k, h⟩
  · rw [if_neg k] at h; cases h
theorem guard_calm {α : Type} {c : Prop} [Decidable c] {r : R α} (h : Calm r) : Calm (guardR c r) := fun x e => by
  unfold guardR at e
  by_cases k : c
  · rw [if_pos k] at e; exact h x e
  · rw [if_neg k] at e; cases e
theorem ok_calm {α : Type} {a : α} : Calm (R.ok a) := fun _ h => by cases h
theorem bad_calm {α : Type} : Calm (R.bad : R α) := fun _ h => by cases h
def MulOk (i j : Int) : Prop := i.natAbs < 2 ^ 64 ∨ j.natAbs < 2 ^ 64 ∨ i.natAbs.log2 + j.natAbs.log2 < 1000000
instance {i j : Int} : Decidable (MulOk i j) := inferInstanceAs (Decidable (_ ∨ _ ∨ _))
def opAdd : Dt → Dt → R EV
  | .int i, .int j => iV (i + j)
  | .list a, .list b => guardR (a.length + b.length ≤ sizeLine) (.ok (.new (.lst (a ++ b))))
  | .tuple a, .tuple b => guardR (a.length + b.length ≤ sizeLine) (.ok (.val (.tuple (a ++ b))))
  | .str a, .str b => guardR (a.length + b.length ≤ sizeLine) (.ok (.val (.str (a ++ b))))
  | _, _ => .bad
def opSub : Dt → Dt → R EV
  | .int i, .int j => iV (i - j)
  | _, _ => .bad
def repL {α : Type} (k : Nat) (a : List α) : List α := (List.replicate k a).flatten
def opMul : Dt → Dt → R EV
  | .int i, .int j => guardR (MulOk i j) (iV (i * j))
  | .list a, .int k => guardR (-(2 ^ 63) ≤ k ∧ k < 2 ^ 63 ∧ a.length * k.toNat ≤ sizeLine) (.ok (.new (.lst (repL k.toNat a))))
  | .tuple a, .int k => guardR (a ≠ [] ∧ 2 ≤ k ∧ k ≤ 1000 ∧ a.length ≤ 1000) (.ok (.val (.tuple (repL k.toNat a))))
  | _, _ => .bad
def opFdiv : Dt → Dt → R EV
  | .int i, .int j => guardR (0 < j ∧ j.natAbs.log2 < 9000) (iV (i / j))
  | _, _ => .bad
def opMod : Dt → Dt → R EV
  | .int i, .int j => guardR (0 < j) (iV (i % j))
  | _, _ => .bad
def opShl : Dt → Dt → R EV
  | .int i, .int j => guardR (0 ≤ j ∧ i.natAbs.log2 + j.toNat < 1000000) (iV (i * 2 ^ j.toNat))
  | _, _ => .bad
def opShr : Dt → Dt → R EV
  | .int i, .int j => guardR (0 ≤ j) (iV (i / 2 ^ j.toNat))
  | _, _ => .bad
def opAnd : Dt → Dt → R EV
  | .int i, .int j => iV (Builtin.bitAnd i j)
  | _, _ => .bad
def opOr : Dt → Dt → R EV
  | .int i, .int j => iV (Builtin.bitOr i j)
  | _, _ => .bad
def opXor : Dt → Dt → R EV
  | .int i, .int j => iV (Builtin.bitXor i j)
  | _, _ => .bad
def opNeg : Dt → R EV
  | .int i => iV (-i)
  | _ => .bad
def opInv : Dt → R EV
  | .int i => iV (Builtin.bitNot i)
  | _ => .bad
def opLt : Dt → Dt → R EV
  | .int i, .int j => bV (decide (i < j))
  | _, _ => .bad
def opLe : Dt → Dt → R EV
  | .int i, .int j => bV (decide (i ≤ j))
  | .str a, .str b => bV (!decide (b.cps.toList < a.cps.toList))
  | _, _ => .bad
def opGt : Dt → Dt → R EV
  | .int i, .int j => bV (decide (j < i))
  | _, _ => .bad
def opGe : Dt → Dt → R EV
  | .int i, .int j => bV (decide (j ≤ i))
  | _, _ => .bad
def opEq (a b : Dt) : R EV := guardR (SeqAt.shaped a = true ∧ SeqAt.shaped b = true) (bV (PyData.eqv a b))
def opNe (a b : Dt) : R EV := guardR (SeqAt.shaped a = true ∧ SeqAt.shaped b = true) (bV (!PyData.eqv a b))
def isNone : Dt → Bool
  | .none => true
  | _ => false
def opIsN : Dt → R EV := fun a => bV (isNone a)
def opNotN : Dt → R EV := fun a => bV (!isNone a)
def flatD : Dt → Bool
  | .none => true
  | .bool _ => true
  | .int _ => true
  | .str _ => true
  | _ => false
def eqFlat : Dt → Dt → Bool
  | .none, .none => true
  | .bool a, .bool b => a == b
  | .bool a, .int b => (if a then 1 else 0) == b
  | .int a, .bool b => a == (if b then 1 else 0)
  | .int a, .int b => a == b
  | .str a, .str b => a == b
  | _, _ => false
/-- what a key means in a dict -/
def keyEq : Dt → Dt → Bool
  | .int i, .int j => i == j
  | .str x, .str y => x == y
  | .tuple a, .tuple b => keysEq a b
  | _, _ => false
where keysEq : List Dt → List Dt → Bool
  | [], [] => true
  | .int i :: a, .int j :: b => i == j && keysEq a b
  | .str i :: a, .str j :: b => i == j && keysEq a b
  | _, _ => false
/-- the one sign of a text -/
def signOf (c : Str) : Option Nat := match c.cps.toList with
  | [k] => some k
  | _ => none
theorem signOf_eq {c : Str} {k : Nat} (h : signOf c = some k) : c = ⟨#[k]⟩ := by
  unfold signOf at h
  split at h
  · rename_i k' e
    cases h
    obtain ⟨⟨l⟩⟩ := c
    have e' : l = [k] := e
    rw [e']
  · cases h
def opIn : Dt → Dt → R EV
  | .str c, .str z => match signOf c with
    | some k => bV (decide (k ∈ z.cps.toList))
    | none => .bad
  | a, .list ds => guardR (flatD a = true ∧ ds.all flatD = true ∨ SeqAt.shaped a = true ∧ SeqAt.shaped (.list ds) = true) (bV (if flatD a = true ∧ ds.all flatD = true then ds.any fun z => eqFlat z a else ds.any fun z => PyData.eqv z a))
  | a, .tuple ds => guardR (flatD a = true ∧ ds.all flatD = true) (bV (ds.any fun z => eqFlat z a))
  | _, _ => .bad
def notEV : EV → EV
  | .val (.bool b) => .val (.bool (!b))
  | v => v
def opNotIn (a b : Dt) : R EV := (opIn a b).bind fun v => .ok (notEV v)

/-! ### they don't raise -/
theorem calm_Add : ∀ a b, Calm (opAdd a b) := fun a b => by cases a <;> cases b <;> first | exact ok_calm | exact bad_calm | exact guard_calm ok_calm
theorem calm_Sub : ∀ a b, Calm (opSub a b) := fun a b => by cases a <;> cases b <;> first | exact ok_calm | exact bad_calm | exact guard_calm ok_calm
theorem calm_Mul : ∀ a b, Calm (opMul a b) := fun a b => by cases a <;> cases b <;> first | exact ok_calm | exact bad_calm | exact guard_calm ok_calm
theorem calm_Fdiv : ∀ a b, Calm (opFdiv a b) := fun a b => by cases a <;> cases b <;> first | exact ok_calm | exact bad_calm | exact guard_calm ok_calm
theorem calm_Mod : ∀ a b, Calm (opMod a b) := fun a b => by cases a <;> cases b <;> first | exact ok_calm | exact bad_calm | exact guard_calm ok_calm
theorem calm_Shl : ∀ a b, Calm (opShl a b) := fun a b => by cases a <;> cases b <;> first | exact ok_calm | exact bad_calm | exact guard_calm ok_calm
theorem calm_Shr : ∀ a b, Calm (opShr a b) := fun a b => by cases a <;> cases b <;> first | exact ok_calm | exact bad_calm | exact guard_calm ok_calm
theorem calm_And : ∀ a b, Calm (opAnd a b) := fun a b => by cases a <;> cases b <;> first | exact ok_calm | exact bad_calm
theorem calm_Or : ∀ a b, Calm (opOr a b) := fun a b => by cases a <;> cases b <;> first | exact ok_calm | exact bad_calm
theorem calm_Xor : ∀ a b, Calm (opXor a b) := fun a b => by cases a <;> cases b <;> first | exact ok_calm | exact bad_calm
theorem calm_Lt : ∀ a b, Calm (opLt a b) := fun a b => by cases a <;> cases b <;> first | exact ok_calm | exact bad_calm
theorem calm_Le : ∀ a b, Calm (opLe a b) := fun a b => by cases a <;> cases b <;> first | exact ok_calm | exact bad_calm
theorem calm_Gt : ∀ a b, Calm (opGt a b) := fun a b => by cases a <;> cases b <;> first | exact ok_calm | exact bad_calm
theorem calm_Ge : ∀ a b, Calm (opGe a b) := fun a b => by cases a <;> cases b <;> first | exact ok_calm | exact bad_calm
theorem calm_Eq : ∀ a b, Calm (opEq a b) := fun a b => guard_calm ok_calm
theorem calm_Ne : ∀ a b, Calm (opNe a b) := fun a b => guard_calm ok_calm
theorem calm_Neg : ∀ a, Calm (opNeg a) := fun a => by cases a <;> first | exact ok_calm | exact bad_calm
theorem calm_Inv : ∀ a, Calm (opInv a) := fun a => by cases a <;> first | exact ok_calm | exact bad_calm
theorem calm_IsN : ∀ a, Calm (opIsN a) := fun a => ok_calm
theorem calm_NotN : ∀ a, Calm (opNotN a) := fun a => ok_calm
theorem calm_In : ∀ a b, Calm (opIn a b) := fun a b => by
  cases b
  case list => cases a <;> exact guard_calm ok_calm
  case tuple => cases a <;> exact guard_calm ok_calm
  case str =>
    cases a <;> first | exact bad_calm | skip
    rename_i z c
    show Calm (match signOf c with | some k => bV (decide (k ∈ z.cps.toList)) | none => .bad)
    split
    · exact ok_calm
    · exact bad_calm
  all_goals cases a <;> exact bad_calm
theorem calm_NotIn : ∀ a b, Calm (opNotIn a b) := fun a b c h => by
  unfold opNotIn at h
  cases e : opIn a b with
  | ok v => rw [e] at h; cases h
  | ex x => exact calm_In a b x e
  | bad => rw [e] at h; cases h
/-! ### data read -/
section
variable {K : PySem.W.Frag} {F H : Hp}
mutual
theorem Rep.dp (le : LeH F H) : ∀ (d : Dt) (v : V), d.canLay0 = true → Rep K F d v → Dp K H v d
  | .none, v, _, r => by simp only [Rep] at r; subst r; exact .non
  | .bool b, v, _, r => by simp only [Rep] at r; subst r; exact .bl b
  | .int i, v, _, r => by simp only [Rep] at r; subst r; exact .int i
  | .str x, v, _, r => by simp only [Rep] at r; subst r; exact .str x
  | .list ds, v, l, r => by
    simp only [Rep] at r
    obtain ⟨a, xs, rfl, h1, _, h3⟩ := r
    exact .lst (.inl (rd_leH le h1)) (RepAll.dp le ds xs (by simpa [PyData.canLay0] using l) h3)
  | .tuple ds, v, l, r => by
    simp only [Rep] at r
    obtain ⟨a, xs, rfl, h1, _, h3⟩ := r
    exact .tup (sqT_leH le h1).sq (RepAll.dp le ds xs (by simpa [PyData.canLay0] using l) h3)
  | .dict _, v, l, r => by simp [PyData.canLay0] at l
theorem RepAll.dp (le : LeH F H) : ∀ (ds : List Dt) (vs : List V), PyData.canLayAll0 ds = true → RepAll K F ds vs → DpAll K H vs ds
  | [], vs, _, r => by simp only [RepAll] at r; subst r; exact .nil
  | d :: ds, vs, l, r => by
    simp only [RepAll] at r
    obtain ⟨v, t, rfl, r1, r2⟩ := r
    have l' : d.canLay0 = true ∧ PyData.canLayAll0 ds = true := by simpa [PyData.canLayAll0] using l
    exact .cons (Rep.dp le d v l'.1 r1) (RepAll.dp le ds t l'.2 r2)
end
theorem RepT.dp (le : LeH F H) {d : Dt} {v : V} (l : d.canLay0 = true) (r : RepT K F H d v) : Dp K H v d := by
  cases d with
  | none => simp only [RepT] at r; subst r; exact .non
  | bool b => simp only [RepT] at r; subst r; exact .bl b
  | int i => simp only [RepT] at r; subst r; exact .int i
  | str x => simp only [RepT] at r; subst r; exact .str x
  | list ds =>
    simp only [RepT] at r
    obtain ⟨a, xs, rfl, h1, _, h3⟩ := r
    exact .lst (.inl h1) (RepAll.dp le ds xs (by simpa [PyData.canLay0] using l) h3)
  | tuple ds =>
    simp only [RepT] at r
    obtain ⟨a, xs, rfl, h1, _, h3⟩ := r
    exact .tup (sqT_leH le h1).sq (RepAll.dp le ds xs (by simpa [PyData.canLay0] using l) h3)
  | dict _ => simp [PyData.canLay0] at l
end
/-! ### the library's rules, told of data -/
section
variable {X : Cx}
/-- ints in, an int or a bool out -/
theorem two_ints {f : Value → Value → Sem Value} {op : Dt → Dt → R EV} {r : R2} (ho : OpR X f r)
    (h : ∀ a b v, op a b = .ok v → ∃ i j d z, a = .int i ∧ b = .int j ∧ v = .val d ∧ (∀ F, Rep X.K F d z) ∧ ∀ H Q, Q z H → r (.int i) (.int j) H Q) : OpR X f (rd2 X.K op) := by
  intro pins s σ H x y v u Q I rx ry q
  obtain ⟨F, a, b, ev, e, le, ra, rb, q⟩ := q
  obtain ⟨i, j, d, z, rfl, rfl, rfl, hr, hh⟩ := h a b ev e
  simp only [RepT] at ra rb
  subst ra; subst rb
  exact ho pins s σ H _ _ v u Q I rx ry (hh H Q (q.val le (hr F)))
theorem okv_int {op : Dt → Dt → R EV} {g : Int → Int → Int} (h : ∀ a b v, op a b = .ok v → ∃ i j, a = .int i ∧ b = .int j ∧ v = .val (.int (g i j))) {r : R2} (hr : ∀ i j v H Q, op (.int i) (.int j) = .ok v → Q (.int (g i j)) H → r (.int i) (.int j) H Q)
    {f : Value → Value → Sem Value} (ho : OpR X f r) : OpR X f (rd2 X.K op) := by
  refine two_ints ho fun a b v e => ?_
  obtain ⟨i, j, rfl, rfl, rfl⟩ := h a b v e
  exact ⟨i, j, _, .int (g i j), rfl, rfl, rfl, fun F => by simp only [Rep], fun H Q q => hr i j _ H Q e q⟩
theorem okv_bl {op : Dt → Dt → R EV} {g : Int → Int → Bool} (h : ∀ a b v, op a b = .ok v → ∃ i j, a = .int i ∧ b = .int j ∧ v = .val (.bool (g i j))) {r : R2} (hr : ∀ i j v H Q, op (.int i) (.int j) = .ok v → Q (.bl (g i j)) H → r (.int i) (.int j) H Q)
    {f : Value → Value → Sem Value} (ho : OpR X f r) : OpR X f (rd2 X.K op) := by
  refine two_ints ho fun a b v e => ?_
  obtain ⟨i, j, rfl, rfl, rfl⟩ := h a b v e
  exact ⟨i, j, _, .bl (g i j), rfl, rfl, rfl, fun F => by simp only [Rep], fun H Q q => hr i j _ H Q e q⟩
theorem o_sub : OpR X (binaryOp .Sub) (rd2 X.K opSub) := okv_int (g := fun i j => i - j) (fun a b v e => by
  cases a <;> cases b <;> first | (cases e; done) | (cases e; exact ⟨_, _, rfl, rfl, rfl⟩)) (fun i j v H Q e q => ⟨i, j, rfl, rfl, q⟩) op_sub
theorem o_and : OpR X (binaryOp .BitAnd) (rd2 X.K opAnd) := okv_int (g := fun i j => Builtin.bitAnd i j) (fun a b v e => by
  cases a <;> cases b <;> first | (cases e; done) | (cases e; exact ⟨_, _, rfl, rfl, rfl⟩)) (fun i j v H Q e q => ⟨i, j, rfl, rfl, q⟩) op_and
theorem o_or : OpR X (binaryOp .BitOr) (rd2 X.K opOr) := okv_int (g := fun i j => Builtin.bitOr i j) (fun a b v e => by
  cases a <;> cases b <;> first | (cases e; done) | (cases e; exact ⟨_, _, rfl, rfl, rfl⟩)) (fun i j v H Q e q => ⟨i, j, rfl, rfl, q⟩) op_or
theorem o_xor : OpR X (binaryOp .BitXor) (rd2 X.K opXor) := okv_int (g := fun i j => Builtin.bitXor i j) (fun a b v e => by
  cases a <;> cases b <;> first | (cases e; done) | (cases e; exact ⟨_, _, rfl, rfl, rfl⟩)) (fun i j v H Q e q => ⟨i, j, rfl, rfl, q⟩) op_xor
theorem o_lt : OpR X (compareOp .Lt) (rd2 X.K opLt) := okv_bl (g := fun i j => decide (i < j)) (fun a b v e => by
  cases a <;> cases b <;> first | (cases e; done) | (cases e; exact ⟨_, _, rfl, rfl, rfl⟩)) (fun i j v H Q e q => ⟨i, j, rfl, rfl, q⟩) op_lt
theorem o_gt : OpR X (compareOp .Gt) (rd2 X.K opGt) := okv_bl (g := fun i j => decide (j < i)) (fun a b v e => by
  cases a <;> cases b <;> first | (cases e; done) | (cases e; exact ⟨_, _, rfl, rfl, rfl⟩)) (fun i j v H Q e q => ⟨i, j, rfl, rfl, q⟩) op_gt
theorem o_ge : OpR X (compareOp .GtE) (rd2 X.K opGe) := okv_bl (g := fun i j => decide (j ≤ i)) (fun a b v e => by
  cases a <;> cases b <;> first | (cases e; done) | (cases e; exact ⟨_, _, rfl, rfl, rfl⟩)) (fun i j v H Q e q => ⟨i, j, rfl, rfl, q⟩) op_ge
theorem guard_two {op : Dt → Dt → R EV} {c : Int → Int → Prop} [∀ i j, Decidable (c i j)] {g : Int → Int → Int} (h : ∀ a b v, op a b = .ok v → ∃ i j, a = .int i ∧ b = .int j) (h2 : ∀ i j, op (.int i) (.int j) = guardR (c i j) (iV (g i j))) {r : R2}
    (hr : ∀ i j H Q, c i j → Q (.int (g i j)) H → r (.int i) (.int j) H Q) {f : Value → Value → Sem Value} (ho : OpR X f r) : OpR X f (rd2 X.K op) := by
  refine okv_int (g := g) (fun a b v e => ?_) (fun i j v H Q e q => ?_) ho
  · obtain ⟨i, j, rfl, rfl⟩ := h a b v e
    rw [h2] at e
    have := (guard_ok e).2
    cases this
    exact ⟨i, j, rfl, rfl, rfl⟩
  · rw [h2] at e
    exact hr i j H Q (guard_ok e).1 q
theorem o_fdiv : OpR X (binaryOp .FloorDiv) (rd2 X.K opFdiv) := guard_two (c := fun i j => 0 < j ∧ j.natAbs.log2 < 9000) (g := fun i j => i / j) (fun a b v e => by
  cases a <;> cases b <;> first | (cases e; done) | exact ⟨_, _, rfl, rfl⟩) (fun _ _ => rfl) (fun i j H Q c q => ⟨i, j, rfl, rfl, c, q⟩) op_fdivW
theorem o_mod : OpR X (binaryOp .Mod) (rd2 X.K opMod) := guard_two (c := fun i j => 0 < j) (g := fun i j => i % j) (fun a b v e => by
  cases a <;> cases b <;> first | (cases e; done) | exact ⟨_, _, rfl, rfl⟩) (fun _ _ => rfl) (fun i j H Q c q => ⟨i, j, rfl, rfl, c, q⟩) op_mod
theorem o_shr : OpR X (binaryOp .RShift) (rd2 X.K opShr) := guard_two (c := fun i j => 0 ≤ j) (g := fun i j => i / 2 ^ j.toNat) (fun a b v e => by
  cases a <;> cases b <;> first | (cases e; done) | exact ⟨_, _, rfl, rfl⟩) (fun _ _ => rfl) (fun i j H Q c q => ⟨i, j, rfl, rfl, c, q⟩) op_shr
theorem o_shl : OpR X (binaryOp .LShift) (rd2 X.K opShl) := guard_two (c := fun i j => 0 ≤ j ∧ i.natAbs.log2 + j.toNat < 1000000) (g := fun i j => i * 2 ^ j.toNat) (fun a b v e => by
  cases a <;> cases b <;> first | (cases e; done) | exact ⟨_, _, rfl, rfl⟩) (fun _ _ => rfl) (fun i j H Q c q => by
    refine ⟨i, j, rfl, rfl, ?_, q⟩
    have h1 : i.natAbs < 2 ^ (i.natAbs.log2 + 1) := Nat.lt_log2_self
    have h2 := shl_ok (i := i) (j := j.toNat) h1 (by have := c.2; omega)
    have e : ((j.toNat : Nat) : Int) = j := Int.toNat_of_nonneg c.1
    rwa [e] at h2) op_shlW
/-- one of several rules -/
theorem OpR.any {f : Value → Value → Sem Value} {r : R2} (h : ∀ x y H Q, r x y H Q → ∃ r', OpR X f r' ∧ r' x y H Q) : OpR X f r := fun pins s σ H x y v u Q I rx ry q => by
  obtain ⟨r', ho, q'⟩ := h x y H Q q
  exact ho pins s σ H x y v u Q I rx ry q'
theorem o_le : OpR X (compareOp .LtE) (rd2 X.K opLe) := OpR.any fun x y H Q q => by
  obtain ⟨F, a, b, ev, e, le, ra, rb, q⟩ := q
  cases a <;> cases b <;> try (cases e; done)
  · cases e
    simp only [RepT] at ra rb
    subst ra; subst rb
    exact ⟨_, op_le, _, _, rfl, rfl, q.val le (by simp only [Rep])⟩
  · cases e
    simp only [RepT] at ra rb
    subst ra; subst rb
    exact ⟨_, op_le_str, _, _, rfl, rfl, q.val le (by simp only [Rep])⟩
def rCatR : R2 := fun x y H Q => ∃ l b xs zs, x = .ref l ∧ y = .ref b ∧ Rd H l (.lst xs) ∧ Rd H b (.lst zs) ∧ xs.length + zs.length ≤ sizeLine ∧ ∀ p, H p = none → Q (.ref p) (upd H p (.lst (xs ++ zs)))
theorem op_catR : OpR X (binaryOp .Add) rCatR := by
  intro pins s σ H x y v u Q I rx ry h
  obtain ⟨l, b, xs, zs, rfl, rfl, hH, hB, hz, q⟩ := h
  cases rx
  cases ry
  obtain ⟨z, its, n, r, e⟩ := hH.ok I.hok
  obtain ⟨z2, its2, n2, r2, e2⟩ := hB.ok I.hok
  have hl := r.length
  have hl2 := r2.length
  refine PySem.P.add_list e e2 ?_ (by rw [List.size_toArray, List.size_toArray]; omega)
  have ea : its.toArray ++ its2.toArray = (its ++ its2).toArray := by simp
  rw [ea]
  exact ⟨.ref _, _, I.lnew (t' := s.toks) (r.append r2) (by rw [List.length_append]; omega), rfl, q _ I.fresh⟩
theorem o_add : OpR X (binaryOp .Add) (rd2 X.K opAdd) := OpR.any fun x y H Q q => by
  obtain ⟨F, a, b, ev, e, le, ra, rb, q⟩ := q
  cases a <;> cases b <;> try (cases e; done)
  · rename_i i j
    cases e
    simp only [RepT] at ra rb
    subst ra; subst rb
    exact ⟨_, op_add, i, j, rfl, rfl, q.val le (by simp only [Rep])⟩
  · rename_i i j
    obtain ⟨hl, e⟩ := guard_ok e
    cases e
    simp only [RepT] at ra rb
    subst ra; subst rb
    exact ⟨_, op_add_str, i, j, rfl, rfl, hl, q.val le (by simp only [Rep])⟩
  · obtain ⟨hl, e⟩ := guard_ok e
    cases e
    simp only [RepT] at ra rb
    obtain ⟨p, xs, rfl, h1, h2, h3⟩ := ra
    obtain ⟨p2, ys, rfl, h4, h5, h6⟩ := rb
    have l1 := h3.length
    have l2 := h6.length
    exact ⟨_, op_catR, p, p2, xs, ys, rfl, rfl, h1, h4, by omega, fun p hp => q.newO le hp ⟨xs ++ ys, upd_same, by rw [List.length_append]; omega, h3.append h6⟩⟩
  · rename_i da db
    obtain ⟨hl, e⟩ := guard_ok e
    cases e
    simp only [RepT] at ra rb
    obtain ⟨p, xs, rfl, h1, h2, h3⟩ := ra
    obtain ⟨p2, ys, rfl, h4, h5, h6⟩ := rb
    have l1 := h3.length
    have l2 := h6.length
    refine ⟨_, op_catA, p, p2, xs, ys, rfl, rfl, (sqT_leH le h1).sq, (sqT_leH le h4).sq, by omega, fun e => ?_, fun _ e => ?_, fun _ _ p hp => ?_⟩
    · subst e
      have e2 : da = [] := List.length_eq_zero_iff.mp l1
      subst e2
      refine q.val le ?_
      simp only [Rep, List.nil_append]
      exact ⟨p2, ys, rfl, h4, h5, h6⟩
    · subst e
      have e2 : db = [] := List.length_eq_zero_iff.mp l2
      subst e2
      refine q.val le ?_
      simp only [Rep, List.append_nil]
      exact ⟨p, xs, rfl, h1, h2, h3⟩
    · refine q.newF le hp fun F' f e => ?_
      simp only [Rep]
      exact ⟨p, xs ++ ys, rfl, .inl e, by rw [List.length_append]; omega, (h3.append h6).mono f⟩
theorem repAll_rep {K : PySem.W.Frag} {F : Hp} {ds : List Dt} {xs : List V} (h : RepAll K F ds xs) : ∀ k : Nat, RepAll K F (repL k ds) (List.replicate k xs).flatten
  | 0 => by simp [repL, RepAll]
  | k + 1 => by
    have := repAll_rep h k
    simp only [repL, List.replicate_succ, List.flatten_cons] at this ⊢
    exact h.append this
def rRepR : R2 := fun x y H Q => ∃ l k xs, x = .ref l ∧ y = .int k ∧ Rd H l (.lst xs) ∧ -(2 ^ 63) ≤ k ∧ k < 2 ^ 63 ∧ xs.length * k.toNat ≤ sizeLine ∧
  ∀ p, H p = none → Q (.ref p) (upd H p (.lst (List.replicate k.toNat xs).flatten))
theorem op_repR : OpR X (binaryOp .Mult) rRepR := by
  intro pins s σ H x y v u Q I rx ry h
  obtain ⟨l, k, xs, rfl, rfl, hH, h1, h2, hz, q⟩ := h
  cases rx
  obtain ⟨t, rfl⟩ := ry
  obtain ⟨z, its, n, r, e⟩ := hH.ok I.hok
  have hl := r.length
  have hlen : its.toArray.size * k.toNat ≤ sizeLine := by rw [List.size_toArray, ← hl]; exact hz
  have hcap : ¬ its.toArray.size * k.toNat > (2 ^ 63 - 1) / 8 := by
    have : (sizeLine : Nat) ≤ (2 ^ 63 - 1) / 8 := by decide
    omega
  have hfit : ¬ (!Builtin.List.listFitsIndex k) = true := by
    rw [fitsIndex_both h1 h2]
    exact Bool.false_ne_true
  have hlong : ¬ Builtin.List.listTooLong (its.toArray.size * k.toNat) = true := by
    rw [notLongL hlen]
    exact Bool.false_ne_true
  have hnew : List.foldl (fun x1 x2 => x1 ++ x2) #[] (List.replicate (if its.toArray.isEmpty = true then 0 else k.toNat) its.toArray) = (List.replicate k.toNat its).flatten.toArray := by
    have f0 : ∀ m : Nat, List.foldl (fun x1 x2 => x1 ++ x2) #[] (List.replicate m its.toArray) = (List.replicate m its).flatten.toArray := fun m => by
      have := foldl_rep its m []
      rw [List.nil_append] at this
      exact this
    rw [f0]
    cases its with
    | nil => simp
    | cons a r' => rw [if_neg (by simp)]
  refine wpAny_binaryOp_repeat_ref (T := "list") (U := "int") (by decide) ⟨_, e, rfl⟩ (fun s' => typeIs_int s' k t) noFill_list_mul F.fills_int_mul F.slot_int_rmul repeat_list F.slot_int_index.lookup
    (call_meets F.slot_int_rmul (typeIs_int s k t) F.entry_int_rmul (F.args_int_rmul_2 _ _) (int___rmul___int_list k t l its.toArray n)
      ⟨e, rfl, ⟨_, e, rfl⟩, call_meets F.slot_list_mul ⟨_, e, rfl⟩ F.entry_list_mul (F.args_list_mul_2 _ _) (AutoListH.list___mul___list_int_3 l its.toArray n k t hfit hcap hlong) ⟨e, ?_⟩⟩)
  rw [hnew]
  exact ⟨.ref _, _, I.lnew (t' := s.toks) (r.rep k.toNat) (by rw [PyProof.Rows.lm_len_rep_flat, Nat.mul_comm]; exact hz), rfl, q _ I.fresh⟩
theorem repL_len {α : Type} (k : Nat) (a : List α) : (repL k a).length = k * a.length := by
  unfold repL
  rw [PyProof.Rows.lm_len_rep_flat]
theorem o_mul : OpR X (binaryOp .Mult) (rd2 X.K opMul) := OpR.any fun x y H Q q => by
  obtain ⟨F, a, b, ev, e, le, ra, rb, q⟩ := q
  cases a <;> cases b <;> try (cases e; done)
  · rename_i i j
    obtain ⟨hl, e⟩ := guard_ok e
    cases e
    simp only [RepT] at ra rb
    subst ra; subst rb
    have q' := q.val (x := .int (i * j)) le (by simp only [Rep])
    rcases hl with h | h | h
    · exact ⟨_, op_mul, i, j, rfl, rfl, .inl ⟨by omega, by omega⟩, q'⟩
    · exact ⟨_, op_mul, i, j, rfl, rfl, .inr ⟨by omega, by omega⟩, q'⟩
    · exact ⟨_, op_mulW, i, j, rfl, rfl, h, q'⟩
  · obtain ⟨⟨h1, h2, h3⟩, e⟩ := guard_ok e
    cases e
    simp only [RepT] at ra rb
    obtain ⟨p, xs, rfl, g1, g2, g3⟩ := ra
    subst rb
    have l1 := g3.length
    refine ⟨_, op_repR, p, _, xs, rfl, rfl, g1, h1, h2, by rw [← l1]; exact h3, fun p hp => q.newO le hp ⟨_, upd_same, ?_, repAll_rep g3 _⟩⟩
    rw [PyProof.Rows.lm_len_rep_flat, Nat.mul_comm, ← l1]; exact h3
  · rename_i ds k
    obtain ⟨⟨h1, h2, h3, h4⟩, e⟩ := guard_ok e
    cases e
    simp only [RepT] at ra rb
    obtain ⟨p, xs, rfl, g1, g2, g3⟩ := ra
    subst rb
    have l1 := g3.length
    refine ⟨_, op_repT, p, k, xs, rfl, rfl, (sqT_leH le g1).sq, ?_, h2, h3, by omega, fun p hp => q.newF le hp fun F' f e => ?_⟩
    · intro z; subst z; exact h1 (List.length_eq_zero_iff.mp l1)
    · simp only [Rep]
      refine ⟨p, _, rfl, .inl e, ?_, (repAll_rep g3 _).mono f⟩
      rw [PyProof.Rows.lm_len_rep_flat]
      have a1 : k.toNat ≤ 1000 := by omega
      have a2 : xs.length ≤ 1000 := by omega
      have := Nat.mul_le_mul a1 a2
      exact Nat.le_trans this (by decide)
theorem o_neg : UnR X (unaryOp .USub) (rd1 X.K opNeg) := by
  intro pins s σ H x v Q I rx q
  obtain ⟨F, a, ev, e, le, ra, q⟩ := q
  cases a <;> try (cases e; done)
  cases e
  simp only [RepT] at ra
  subst ra
  exact un_neg pins s σ H _ v Q I rx ⟨_, rfl, q.val le (by simp only [Rep])⟩
theorem o_inv : UnR X (unaryOp .Invert) (rd1 X.K opInv) := by
  intro pins s σ H x v Q I rx q
  obtain ⟨F, a, ev, e, le, ra, q⟩ := q
  cases a <;> try (cases e; done)
  cases e
  simp only [RepT] at ra
  subst ra
  exact un_inv pins s σ H _ v Q I rx ⟨_, rfl, q.val le (by simp only [Rep])⟩
theorem o_eq (hu : X.A.units + 64 < cLine) : OpR X (compareOp .Eq) (rd2 X.K opEq) := OpR.any fun x y H Q q => by
  obtain ⟨F, a, b, ev, e, le, ra, rb, q⟩ := q
  obtain ⟨⟨h1, h2⟩, e⟩ := guard_ok e
  cases e
  exact ⟨_, op_eqD hu, a, b, ra.dp le (SeqAt.canLay_of_shaped h1), rb.dp le (SeqAt.canLay_of_shaped h2), h1, h2, q.val le (by simp only [Rep])⟩
theorem o_ne (hu : X.A.units + 64 < cLine) : OpR X (compareOp .NotEq) (rd2 X.K opNe) := OpR.any fun x y H Q q => by
  obtain ⟨F, a, b, ev, e, le, ra, rb, q⟩ := q
  obtain ⟨⟨h1, h2⟩, e⟩ := guard_ok e
  cases e
  exact ⟨_, op_neD hu, a, b, ra.dp le (SeqAt.canLay_of_shaped h1), rb.dp le (SeqAt.canLay_of_shaped h2), h1, h2, q.val le (by simp only [Rep])⟩
theorem flat_V {K : PySem.W.Frag} {F : Hp} {d : Dt} {v : V} (h : flatD d = true) (r : Rep K F d v) : flatV v = true := by
  cases d <;> first | (cases h; done) | (simp only [Rep] at r; subst r; rfl)
theorem flat_eq {K : PySem.W.Frag} {F : Hp} {d e : Dt} {v w : V} (h : flatD d = true) (h2 : flatD e = true) (r : Rep K F d v) (r2 : Rep K F e w) : eqV v w = eqFlat d e := by
  cases d <;> cases e <;> first | (cases h; done) | (cases h2; done) | (simp only [Rep] at r r2; subst r; subst r2; rfl)
theorem flats_V {K : PySem.W.Frag} {F : Hp} : ∀ {ds : List Dt} {vs : List V}, ds.all flatD = true → RepAll K F ds vs → vs.all flatV = true
  | [], vs, _, r => by simp only [RepAll] at r; subst r; rfl
  | d :: ds, vs, h, r => by
    simp only [RepAll] at r
    obtain ⟨v, t, rfl, r1, r2⟩ := r
    simp only [List.all_cons, Bool.and_eq_true] at h ⊢
    exact ⟨flat_V h.1 r1, flats_V h.2 r2⟩
theorem flats_in {K : PySem.W.Frag} {F : Hp} {e : Dt} {w : V} (h2 : flatD e = true) (q : Rep K F e w) : ∀ {ds : List Dt} {vs : List V}, ds.all flatD = true → RepAll K F ds vs → inV w vs = ds.any fun z => eqFlat z e
  | [], vs, _, r => by simp only [RepAll] at r; subst r; rfl
  | d :: ds, vs, h, r => by
    simp only [RepAll] at r
    obtain ⟨v, t, rfl, r1, r2⟩ := r
    simp only [List.all_cons, Bool.and_eq_true] at h
    have ih := flats_in h2 q h.2 r2
    unfold inV at ih ⊢
    rw [List.any_cons, List.any_cons, ih, flat_eq h.1 h2 r1 q]
theorem RepT.flat {K : PySem.W.Frag} {F H : Hp} {d : Dt} {v : V} (h : flatD d = true) (r : RepT K F H d v) : Rep K F d v := by
  cases d <;> first | (cases h; done) | simpa only [RepT, Rep] using r
theorem in_any (hu : X.A.units + 65 < cLine) (neg : Bool) {op : CmpOp} (h1 : OpR X (compareOp op) (rIn X.K neg)) (h2 : OpR X (compareOp op) (fun x y H Q => ∃ d ds, Dp X.K H x d ∧ Dp X.K H y (.list ds) ∧ SeqAt.shaped d = true ∧ SeqAt.shaped (.list ds) = true ∧ Q (.bl (if neg then !(ds.any fun z => PyData.eqv z d) else ds.any fun z => PyData.eqv z d)) H))
    (h3 : OpR X (compareOp op) (fun x y H Q => ∃ (c : Nat) (z : Str), x = .str ⟨#[c]⟩ ∧ y = .str z ∧ Q (.bl (if neg then !decide (c ∈ z.cps.toList) else decide (c ∈ z.cps.toList))) H))
    {F H : Hp} {a b : Dt} {x y : V} {v : EV} {Q : VK} (e : opIn a b = .ok v) (le : LeH F H) (ra : RepT X.K F H a x) (rb : RepT X.K F H b y) (q : PostP X.K F H (if neg then notEV v else v) Q) : ∃ r', OpR X (compareOp op) r' ∧ r' x y H Q := by
  cases b <;> try (cases a <;> cases e; done)
  · rename_i z
    cases a <;> try (cases e; done)
    rename_i c
    simp only [opIn] at e
    split at e
    · rename_i k hk
      cases e
      have hc := signOf_eq hk
      subst hc
      simp only [RepT] at ra rb
      subst ra; subst rb
      refine ⟨_, h3, k, z, rfl, rfl, ?_⟩
      cases neg with
      | true => exact q.val le (by show Rep _ _ (.bool _) _; simp only [Rep]; rfl)
      | false => exact q.val le (by show Rep _ _ (.bool _) _; simp only [Rep]; rfl)
    · cases e
  · rename_i ds
    have e : guardR (flatD a = true ∧ ds.all flatD = true ∨ SeqAt.shaped a = true ∧ SeqAt.shaped (.list ds) = true) (bV (if flatD a = true ∧ ds.all flatD = true then ds.any fun z => eqFlat z a else ds.any fun z => PyData.eqv z a)) = .ok v := by cases a <;> exact e
    obtain ⟨c, e⟩ := guard_ok e
    cases e
    by_cases k : flatD a = true ∧ ds.all flatD = true
    · rw [if_pos k] at q
      simp only [RepT] at rb
      obtain ⟨p, xs, rfl, g1, g2, g3⟩ := rb
      have ra' := ra.flat k.1
      refine ⟨_, h1, p, xs, rfl, .inl (.inl g1), flat_V k.1 ra', flats_V k.2 g3, ?_⟩
      rw [flats_in k.1 ra' k.2 g3]
      cases neg with
      | true => exact q.val le (by show Rep _ _ (.bool _) _; simp only [Rep]; rfl)
      | false => exact q.val le (by show Rep _ _ (.bool _) _; simp only [Rep]; rfl)
    · rw [if_neg k] at q
      have c' := c.resolve_left k
      refine ⟨_, h2, a, ds, ra.dp le (SeqAt.canLay_of_shaped c'.1), rb.dp le (SeqAt.canLay_of_shaped c'.2), c'.1, c'.2, ?_⟩
      cases neg with
      | true => exact q.val le (by show Rep _ _ (.bool _) _; simp only [Rep]; rfl)
      | false => exact q.val le (by show Rep _ _ (.bool _) _; simp only [Rep]; rfl)
  · rename_i ds
    have e : guardR (flatD a = true ∧ ds.all flatD = true) (bV (ds.any fun z => eqFlat z a)) = .ok v := by cases a <;> exact e
    obtain ⟨k, e⟩ := guard_ok e
    cases e
    simp only [RepT] at rb
    obtain ⟨p, xs, rfl, g1, g2, g3⟩ := rb
    have ra' := ra.flat k.1
    refine ⟨_, h1, p, xs, rfl, .inr (sqT_leH le g1).sq, flat_V k.1 ra', flats_V k.2 g3, ?_⟩
    rw [flats_in k.1 ra' k.2 g3]
    cases neg with
    | true => exact q.val le (by show Rep _ _ (.bool _) _; simp only [Rep]; rfl)
    | false => exact q.val le (by show Rep _ _ (.bool _) _; simp only [Rep]; rfl)
theorem o_in (hu : X.A.units + 65 < cLine) : OpR X (compareOp .In) (rd2 X.K opIn) := OpR.any fun x y H Q q => by
  obtain ⟨F, a, b, ev, e, le, ra, rb, q⟩ := q
  exact in_any hu false op_in_seq (op_inD hu) op_in_sign e le ra rb q
theorem o_notIn (hu : X.A.units + 65 < cLine) : OpR X (compareOp .NotIn) (rd2 X.K opNotIn) := OpR.any fun x y H Q q => by
  obtain ⟨F, a, b, ev, e, le, ra, rb, q⟩ := q
  unfold opNotIn at e
  cases e1 : opIn a b with
  | ok v =>
    rw [e1] at e
    cases e
    exact in_any hu true op_notIn_seq (op_notInD hu) op_notIn_sign e1 le ra rb q
  | ex c => rw [e1] at e; cases e
  | bad => rw [e1] at e; cases e
theorem isNone_V {K : PySem.W.Frag} {F H : Hp} {d : Dt} {v : V} (r : RepT K F H d v) : decide (v = .non) = isNone d := by
  cases d with
  | none => simp only [RepT] at r; subst r; rfl
  | bool b => simp only [RepT] at r; subst r; rfl
  | int i => simp only [RepT] at r; subst r; rfl
  | str x => simp only [RepT] at r; subst r; rfl
  | list ds => simp only [RepT] at r; obtain ⟨_, _, rfl, _⟩ := r; rfl
  | tuple ds => simp only [RepT] at r; obtain ⟨_, _, rfl, _⟩ := r; rfl
  | dict ds => simp only [RepT] at r; obtain ⟨_, rfl, _⟩ := r; rfl
end
end Mv
set_option Elab.async false
set_option linter.all false
set_option maxRecDepth 100000
set_option maxHeartbeats 4000000
namespace Mv
open PySem PySem.Spec PyProof.Rows L2

/-! ### is None, subscripts -/
theorem repE_bl {K : PySem.W.Frag} {F : Hp} {ρ : Rho} {σ : L2.St} {H0 H : Hp} {b : Bool} : RepE K F ρ σ H0 H (.val (.bool b)) (.bl b) := by
  show Rep K F (.bool b) (.bl b)
  simp only [Rep]
section
variable {X : Cx} {W : WX}
theorem SE.isN {a : Expr} {j : Nat} {p pos : Pos} {ma : M EV} (ha : SE X W a ma) : SE X W (.Compare a [.Is] [.Constant .none j p] pos) (mUn opIsN ma) := by
  refine ⟨peImp (pe_cmp (pc_isN ha.v)) fun σ H Q h => ?_⟩
  obtain ⟨ρ, F, r, h⟩ := h
  refine rdV_bind r h fun va ρ1 F1 H1 x r1 s1 e1 h => ?_
  obtain ⟨da, l1, h⟩ := look_bind h
  obtain ⟨v, l3, h⟩ := calm_bind (calm_IsN da) h
  cases l3
  rw [isNone_V (look_rep r1 e1 (by rw [look_settle]; exact l1))]
  exact h.here r1 repE_bl
theorem SE.notN {a : Expr} {j : Nat} {p pos : Pos} {ma : M EV} (ha : SE X W a ma) : SE X W (.Compare a [.IsNot] [.Constant .none j p] pos) (mUn opNotN ma) := by
  refine ⟨peImp (pe_cmp (pc_notN ha.v)) fun σ H Q h => ?_⟩
  obtain ⟨ρ, F, r, h⟩ := h
  refine rdV_bind r h fun va ρ1 F1 H1 x r1 s1 e1 h => ?_
  obtain ⟨da, l1, h⟩ := look_bind h
  obtain ⟨v, l3, h⟩ := calm_bind (calm_NotN da) h
  cases l3
  rw [isNone_V (look_rep r1 e1 (by rw [look_settle]; exact l1))]
  exact h.here r1 repE_bl
/-- a comparison as a test, by its value -/
theorem ST.ofCmp {a b : Expr} {op : CmpOp} {pos : Pos} {t : TE} {m : M EV} (h : PT X (.Compare a [op] [b] pos) (tB t)) (i : ∀ σ H Q, rdE X.K X.mg W m σ H Q → t σ H Q) : ST X W (.Compare a [op] [b] pos) (mBool m) :=
  ⟨ptImp h fun σ H Q q => i _ _ _ (bool_rd q)⟩
theorem ST.isN {a : Expr} {j : Nat} {p pos : Pos} {ma : M EV} (ha : SE X W a ma) : ST X W (.Compare a [.Is] [.Constant .none j p] pos) (mBool (mUn opIsN ma)) := by
  refine ST.ofCmp (pt_cmp (pc_isN ha.v)) fun σ H Q h => ?_
  obtain ⟨ρ, F, r, h⟩ := h
  refine rdV_bind r h fun va ρ1 F1 H1 x r1 s1 e1 h => ?_
  obtain ⟨da, l1, h⟩ := look_bind h
  obtain ⟨v, l3, h⟩ := calm_bind (calm_IsN da) h
  cases l3
  rw [isNone_V (look_rep r1 e1 (by rw [look_settle]; exact l1))]
  exact h.here r1 repE_bl
theorem ST.notN {a : Expr} {j : Nat} {p pos : Pos} {ma : M EV} (ha : SE X W a ma) : ST X W (.Compare a [.IsNot] [.Constant .none j p] pos) (mBool (mUn opNotN ma)) := by
  refine ST.ofCmp (pt_cmp (pc_notN ha.v)) fun σ H Q h => ?_
  obtain ⟨ρ, F, r, h⟩ := h
  refine rdV_bind r h fun va ρ1 F1 H1 x r1 s1 e1 h => ?_
  obtain ⟨da, l1, h⟩ := look_bind h
  obtain ⟨v, l3, h⟩ := calm_bind (calm_NotN da) h
  cases l3
  rw [isNone_V (look_rep r1 e1 (by rw [look_settle]; exact l1))]
  exact h.here r1 repE_bl
end
def someR {α β : Type} (o : Option α) (f : α → R β) : R β :=
  match o with
  | some a => f a
  | none => .bad
theorem some_calm {α β : Type} {o : Option α} {f : α → R β} (h : ∀ a, Calm (f a)) : Calm (someR o f) := by
  cases o with
  | some d => exact h d
  | none => exact bad_calm
theorem some_ok {α β : Type} {o : Option α} {f : α → R β} {b : β} (h : someR o f = .ok b) : ∃ a, o = some a ∧ f a = .ok b := by
  cases o with
  | some d => exact ⟨d, rfl, h⟩
  | none => cases h
def opIx : Dt → Dt → R EV
  | .list ds, .int i => someR (atI ds i) fun d => .ok (.val d)
  | .tuple ds, .int i => someR (atI ds i) fun d => .ok (.val d)
  | .str z, .int i => guardR (z.length ≤ sizeLine) (someR (atI z.cps.toList i) fun c => .ok (.val (.str ⟨#[c]⟩)))
  | _, _ => .bad
theorem calm_Ix : ∀ a b, Calm (opIx a b) := fun a b => by
  cases a <;> cases b <;> first | exact bad_calm | exact some_calm (fun _ => ok_calm) | exact guard_calm (some_calm (fun _ => ok_calm))
theorem atI_rep {K : PySem.W.Frag} {F : Hp} {ds : List Dt} {xs : List V} {i : Int} {d : Dt} (r : RepAll K F ds xs) (h : atI ds i = some d) : ∃ v, atI xs i = some v ∧ Rep K F d v := by
  unfold atI at h ⊢
  rw [← r.length]
  cases e : ixN ds.length i with
  | none => rw [e] at h; cases h
  | some j =>
    rw [e] at h
    exact r.get h
section
variable {X : Cx} {W : WX}
theorem IxR.any {r : R2} (h : ∀ x y H Q, r x y H Q → ∃ r', IxR X r' ∧ r' x y H Q) : IxR X r := fun value slice pins s σ H x y v u Q I rx ry q hs => by
  obtain ⟨r', ho, q'⟩ := h x y H Q q
  exact ho value slice pins s σ H x y v u Q I rx ry q' hs
theorem o_ix : IxR X (rd2 X.K opIx) := IxR.any fun x y H Q q => by
  obtain ⟨F, a, b, ev, e, le, ra, rb, q⟩ := q
  cases a <;> cases b <;> try (cases e; done)
  · rename_i z i
    obtain ⟨hl, e⟩ := guard_ok e
    simp only [RepT] at ra rb
    subst ra; subst rb
    obtain ⟨c, ea, e⟩ := some_ok e
    cases e
    exact ⟨_, ix_str, z, i, c, rfl, rfl, hl, ea, q.val le (by simp only [Rep])⟩
  · rename_i ds i
    simp only [RepT] at ra rb
    obtain ⟨p, xs, rfl, h1, h2, h3⟩ := ra
    subst rb
    obtain ⟨d, ea, e⟩ := some_ok e
    cases e
    obtain ⟨v, e1, e2⟩ := atI_rep h3 ea
    exact ⟨_, ix_list, p, xs, i, v, rfl, rfl, .inl h1, e1, q.val le e2⟩
  · rename_i ds i
    simp only [RepT] at ra rb
    obtain ⟨p, xs, rfl, h1, h2, h3⟩ := ra
    subst rb
    obtain ⟨d, ea, e⟩ := some_ok e
    cases e
    obtain ⟨v, e1, e2⟩ := atI_rep h3 ea
    exact ⟨_, ix_tup, p, xs, i, v, rfl, rfl, (sqT_leH le h1).sq, e1, q.val le e2⟩
theorem SE.ix {a b : Expr} {pos : Pos} {ma mb : M EV} (ha : SE X W a ma) (hb : SE X W b mb) (hs : PlainIx b := by exact fun _ _ => rfl) : SE X W (.Subscript a b pos) (mBin opIx ma mb) :=
  ⟨peImp (pe_ix o_ix ha.v hb.v hs) fun _ _ _ h => bin_rd calm_Ix h⟩
end
/-! ### slices -/
def cutL {α : Type} (xs : List α) (lo hi : Option Int) : List α := (xs.drop (HT.sIx xs.length 0 lo)).take (HT.sIx xs.length xs.length hi - HT.sIx xs.length 0 lo)
def opSl (d : Dt) (lo hi : Option Int) : R EV :=
  match d with
  | .list ds => .ok (.new (.lst (cutL ds lo hi)))
  | .tuple ds => .ok (.val (.tuple (cutL ds lo hi)))
  | .str z => guardR (z.length ≤ sizeLine) (.ok (.val (.str (cutS z lo hi))))
  | _ => .bad
theorem calm_Sl (d : Dt) (lo hi : Option Int) : Calm (opSl d lo hi) := by
  cases d <;> first | exact ok_calm | exact bad_calm | exact guard_calm ok_calm
theorem cut_rep {K : PySem.W.Frag} {F : Hp} {ds : List Dt} {xs : List V} (r : RepAll K F ds xs) (lo hi : Option Int) : RepAll K F (cutL ds lo hi) (cutV xs lo hi) := by
  unfold cutL cutV
  rw [← r.length]
  exact (r.drop _).take _
theorem cutL_whole {α : Type} {xs : List α} {lo hi : Option Int} (h : HT.sIx xs.length 0 lo = 0 ∧ HT.sIx xs.length xs.length hi = xs.length) : cutL xs lo hi = xs := by
  unfold cutL
  rw [h.1, h.2]
  simp
def rd3 (K : PySem.W.Frag) (op : Dt → Option Int → Option Int → R EV) : V → Option Int → Option Int → Hp → VK → Prop := fun x lo hi H Q => ∃ F a v, op a lo hi = .ok v ∧ LeH F H ∧ RepT K F H a x ∧ PostP K F H v Q
abbrev repO : Hp → L2.St → Option Int → Option Int → Prop := fun _ _ a b => a = b
structure SO (X : Cx) (W : WX) (e : Option Expr) (m : M (Option Int)) : Prop where
  po : PO X e (rdG X.K X.mg W repO m)
def mNoPart : M (Option Int) := fun ρ => .ok (none, ρ)
def intD : Dt → R Int
  | .int i => .ok i
  | _ => .bad
theorem calm_intD (d : Dt) : Calm (intD d) := by cases d <;> first | exact ok_calm | exact bad_calm
def mPart (m : M EV) : M (Option Int) := fun ρ => (m ρ).bind fun a => (lookEV a.1 a.2).bind fun d => (intD d).bind fun i => .ok (some i, a.2)
def mSl (m : M EV) (lo hi : M (Option Int)) : M EV := fun ρ => (m ρ).bind fun a => (lo a.2).bind fun l => (hi l.2).bind fun u => (lookEV a.1 u.2).bind fun d => (opSl d l.1 u.1).bind fun v => .ok (v, u.2)
section
variable {X : Cx} {W : WX}
theorem poImp {e : Option Expr} {t t' : TO} (h : PO X e t) (i : ∀ σ H Q, t' σ H Q → t σ H Q) : PO X e t' := ⟨fun pins s σ H Q I q => h.run pins s σ H Q I (i σ H Q q)⟩
theorem SO.none : SO X W none mNoPart := ⟨poImp po_none fun σ H Q q => by
  obtain ⟨ρ, F, r, q⟩ := q
  exact PostG.here (rep := repO) q r rfl⟩
theorem SO.some {e : Expr} {m : M EV} (h : SE X W e m) : SO X W (some e) (mPart m) := by
  refine ⟨poImp (po_some h.v) fun σ H Q q => ?_⟩
  obtain ⟨ρ, F, r, q⟩ := q
  refine rdV_bindG r q fun v ρ1 F1 H1 x r1 s1 e1 q => ?_
  obtain ⟨d, l1, q⟩ := look_bindG q
  obtain ⟨i, l2, q⟩ := calm_bindG (calm_intD d) q
  have hx := look_rep r1 e1 (by rw [look_settle]; exact l1)
  cases d <;> try (cases l2; done)
  cases l2
  simp only [RepT] at hx
  exact ⟨_, hx, q.here r1 rfl⟩
theorem SlR.any {r : V → Option Int → Option Int → Hp → VK → Prop} (h : ∀ x lo hi H Q, r x lo hi H Q → ∃ r', SlR X r' ∧ r' x lo hi H Q) : SlR X r := fun pins s σ H x v vl vu lo hi sl Q I rx hs pl pu q => by
  obtain ⟨r', ho, q'⟩ := h x lo hi H Q q
  exact ho pins s σ H x v vl vu lo hi sl Q I rx hs pl pu q'
theorem o_sl : SlR X (rd3 X.K opSl) := SlR.any fun x lo hi H Q q => by
  obtain ⟨F, a, ev, e, le, ra, q⟩ := q
  cases a <;> try (cases e; done)
  · rename_i z
    obtain ⟨hl, e⟩ := guard_ok e
    cases e
    simp only [RepT] at ra
    subst ra
    exact ⟨_, sl_str, z, rfl, hl, q.val le (by simp only [Rep])⟩
  · cases e
    simp only [RepT] at ra
    obtain ⟨p, xs, rfl, h1, h2, h3⟩ := ra
    have hz := cutV_length xs lo hi
    exact ⟨_, sl_list, p, xs, rfl, .inl h1, fun p hp => q.newO le hp ⟨_, upd_same, by omega, cut_rep h3 lo hi⟩⟩
  · cases e
    simp only [RepT] at ra
    obtain ⟨p, xs, rfl, h1, h2, h3⟩ := ra
    have hz := cutV_length xs lo hi
    refine ⟨_, sl_tupA, p, xs, rfl, (sqT_leH le h1).sq, fun w => q.val le ?_, fun _ p hp => q.newF le hp fun F' f e => ?_⟩
    · rw [cutL_whole (by rw [h3.length]; exact w)]
      simp only [Rep]
      exact ⟨p, xs, rfl, h1, h2, h3⟩
    · simp only [Rep]
      exact ⟨p, _, rfl, .inl e, by omega, (cut_rep h3 lo hi).mono f⟩
theorem SE.sl {e : Expr} {lo hi : Option Expr} {p2 pos : Pos} {m : M EV} {ml mh : M (Option Int)} (he : SE X W e m) (hl : SO X W lo ml) (hh : SO X W hi mh) : SE X W (.Subscript e (.Slice lo hi none p2) pos) (mSl m ml mh) := by
  refine ⟨peImp (pe_slice o_sl he.v hl.po hh.po) fun σ H Q h => ?_⟩
  obtain ⟨ρ, F, r, h⟩ := h
  refine rdV_bind r h fun va ρ1 F1 H1 x r1 s1 e1 h => ?_
  refine rdG_bindE (rep2 := repO) r1 h fun l ρ2 F2 H2 l' r2 s2 e2 h => ?_
  refine rdG_bindE (rep2 := repO) r2 h fun u ρ3 F3 H3 u' r3 s3 e3 h => ?_
  subst e2; subst e3
  obtain ⟨d, l1, h⟩ := look_bind h
  obtain ⟨v, l3, h⟩ := calm_bind (calm_Sl d _ _) h
  exact ⟨F3, d, v, l3, r3.le, look_rep r3 ((e1.mono s2.le).mono s3.le) (by rw [look_settle]; exact l1), h.prim r3⟩
end
/-! ### calls of what is built in -/
def lookAll : List EV → Rho → R (List Dt)
  | [], _ => .ok []
  | v :: vs, ρ => (lookEV v ρ).bind fun d => (lookAll vs ρ).bind fun ds => .ok (d :: ds)
theorem calm_look (v : EV) (ρ : Rho) : Calm (lookEV v ρ) := fun c h => by
  cases v with
  | val d => cases h
  | new o => cases h
  | slot i => simp only [lookEV] at h; split at h <;> cases h
theorem calm_lookAll : ∀ (vs : List EV) (ρ : Rho), Calm (lookAll vs ρ)
  | [], ρ => ok_calm
  | v :: vs, ρ => fun c h => by
    simp only [lookAll] at h
    cases e : lookEV v ρ with
    | ok d =>
      rw [e] at h
      simp only [R.bind] at h
      cases e2 : lookAll vs ρ with
      | ok ds => rw [e2] at h; cases h
      | ex x => exact calm_lookAll vs ρ x e2
      | bad => rw [e2] at h; cases h
    | ex x => exact calm_look v ρ x e
    | bad => rw [e] at h; cases h
theorem lookAll_rep {K : PySem.W.Frag} {F : Hp} {ρ : Rho} {σ : L2.St} {H : Hp} (r : Rel K F ρ σ H) : ∀ {vs : List EV} {xs : List V} {ds : List Dt}, RepSs K F σ vs xs → lookAll vs ρ = .ok ds → RepTs K F H ds xs
  | _, _, ds, .nil, h => by simp only [lookAll, R.ok.injEq] at h; subst h; exact .nil
  | v :: vs, _, ds, .cons a b, h => by
    simp only [lookAll] at h
    cases e : lookEV v ρ with
    | ok d =>
      rw [e] at h
      simp only [R.bind] at h
      cases e2 : lookAll vs ρ with
      | ok es =>
        rw [e2] at h
        simp only [R.ok.injEq] at h
        subst h
        exact .cons (look_rep r a e) (lookAll_rep r b e2)
      | ex x => rw [e2] at h; cases h
      | bad => rw [e2] at h; cases h
    | ex x => rw [e] at h; cases h
    | bad => rw [e] at h; cases h
def mCallB (op : List Dt → R EV) (ms : List (M EV)) : M EV := fun ρ => (mArgs ms ρ).bind fun a => (lookAll a.1 a.2).bind fun ds => (op ds).bind fun v => .ok (v, a.2)
section
variable {X : Cx} {W : WX}
theorem callB_rd {op : List Dt → R EV} {ms : List (M EV)} {σ : L2.St} {H : Hp} {Q : VK} (hc : ∀ ds, Calm (op ds)) (h : rdE X.K X.mg W (mCallB op ms) σ H Q) : tCB (rdN X.K op) (rdG X.K X.mg W (repSs X.K) (mArgs ms)) σ H Q := by
  obtain ⟨ρ, F, r, h⟩ := h
  refine rdG_bindE (rep2 := repSs X.K) r h fun vs ρ1 F1 H1 xs r1 s1 e1 h => ?_
  obtain ⟨ds, l1, h⟩ := calm_bind (calm_lookAll vs ρ1) h
  obtain ⟨v, l3, h⟩ := calm_bind (hc ds) h
  exact ⟨F1, ds, v, l3, r1.le, lookAll_rep r1 e1 l1, h.prim r1⟩
theorem SE.callB {id : String} {x : Str} {p pos : Pos} {e : Expr} {es : List Expr} {op : List Dt → R EV} {ms : List (M EV)} (hc : CallR X (.builtin id) (rdN X.K op)) (hcc : ∀ ds, Calm (op ds)) (hm : X.mg x = none) (hv : bootBuiltins x = some (.builtin id)) (ha : SA X W (e :: es) (mArgs ms))
    (hg : Gl X x := by rfl) (hn : x ≠ "__name__" := by decide) (hdb : (x == ("__debug__" : Str)) = false := by decide) (he : starEach (e :: es) X.env = (false, eval e X.env) :: starEach es X.env := by rfl) (hpl : (backTo pos (starEach es X.env)).any (·.1) = false := by rfl) :
    SE X W (.Call (.Name x p) (e :: es) [] pos) (mCallB op ms) := ⟨peImp (pe_callB hc hg hm hv ha.pa hn hdb he hpl) fun _ _ _ h => callB_rd hcc h⟩
theorem SE.callTy {T : String} {x : Str} {p pos : Pos} {e : Expr} {es : List Expr} {op : List Dt → R EV} {ms : List (M EV)} (hc : CallR X (.type T) (rdN X.K op)) (hcc : ∀ ds, Calm (op ds)) (hm : X.mg x = none) (hv : bootBuiltins x = some (.type T)) (ha : SA X W (e :: es) (mArgs ms))
    (hg : Gl X x := by rfl) (hn : x ≠ "__name__" := by decide) (hdb : (x == ("__debug__" : Str)) = false := by decide) (he : starEach (e :: es) X.env = (false, eval e X.env) :: starEach es X.env := by rfl) (hpl : (backTo pos (starEach es X.env)).any (·.1) = false := by rfl) :
    SE X W (.Call (.Name x p) (e :: es) [] pos) (mCallB op ms) := ⟨peImp (pe_callTy hc hg hm hv ha.pa hn hdb he hpl) fun _ _ _ h => callB_rd hcc h⟩
theorem CallR.any {f : Value} {r : List V → Hp → VK → Prop} (h : ∀ xs H Q, r xs H Q → ∃ r', CallR X f r' ∧ r' xs H Q) : CallR X f r := fun pins s σ H xs us Q I rx q => by
  obtain ⟨r', ho, q'⟩ := h xs H Q q
  exact ho pins s σ H xs us Q I rx q'
end
theorem reps1 {K : PySem.W.Frag} {F H : Hp} {d : Dt} {xs : List V} (h : RepTs K F H [d] xs) : ∃ x, xs = [x] ∧ RepT K F H d x := by
  cases h with
  | cons a b => cases b; exact ⟨_, rfl, a⟩
theorem reps2 {K : PySem.W.Frag} {F H : Hp} {d e : Dt} {xs : List V} (h : RepTs K F H [d, e] xs) : ∃ x y, xs = [x, y] ∧ RepT K F H d x ∧ RepT K F H e y := by
  cases h with
  | cons a b =>
    cases b with
    | cons a2 b2 => cases b2; exact ⟨_, _, rfl, a, a2⟩
/-- operations of one argument -/
def on1 (f : Dt → R EV) : List Dt → R EV
  | [d] => f d
  | _ => .bad
def on2 (f : Dt → Dt → R EV) : List Dt → R EV
  | [d, e] => f d e
  | _ => .bad
theorem calm_on1 {f : Dt → R EV} (h : ∀ d, Calm (f d)) : ∀ ds, Calm (on1 f ds)
  | [] => bad_calm
  | [d] => h d
  | _ :: _ :: _ => bad_calm
theorem calm_on2 {f : Dt → Dt → R EV} (h : ∀ d e, Calm (f d e)) : ∀ ds, Calm (on2 f ds)
  | [] => bad_calm
  | [_] => bad_calm
  | [d, e] => h d e
  | _ :: _ :: _ :: _ => bad_calm
def intsD : List Dt → Option (List Int)
  | [] => some []
  | .int i :: r => (intsD r).map (i :: ·)
  | _ :: _ => none
theorem ints_map : ∀ {ds : List Dt} {ns : List Int}, intsD ds = some ns → ds = ns.map PyData.int
  | [], ns, h => by cases h; rfl
  | d :: ds, ns, h => by
    cases d <;> try (cases h; done)
    rename_i i
    simp only [intsD, Option.map_eq_some_iff] at h
    obtain ⟨ms, h1, rfl⟩ := h
    rw [ints_map h1]; rfl
theorem ints_of (ns : List Int) : intsD (ns.map PyData.int) = some ns := by
  induction ns with
  | nil => rfl
  | cons n ns ih => simp [intsD, ih]
theorem ints_rep {K : PySem.W.Frag} {F : Hp} : ∀ {ns : List Int} {xs : List V}, RepAll K F (ns.map PyData.int) xs → xs = ns.map V.int
  | [], xs, r => by simp only [List.map_nil, RepAll] at r; exact r
  | n :: ns, xs, r => by
    simp only [List.map_cons, RepAll] at r
    obtain ⟨v, t, rfl, r1, r2⟩ := r
    simp only [Rep] at r1
    subst r1
    rw [ints_rep r2]; rfl
theorem rep_ints {K : PySem.W.Frag} {F : Hp} : ∀ (ns : List Int), RepAll K F (ns.map PyData.int) (ns.map V.int)
  | [] => by simp [RepAll]
  | n :: ns => by
    rw [List.map_cons, List.map_cons]
    exact RepAll.cons (by simp only [Rep]) (rep_ints ns)
def opLen : Dt → R EV
  | .list ds => iV ds.length
  | .tuple ds => iV ds.length
  | .str z => guardR (z.length ≤ sizeLine) (iV z.length)
  | _ => .bad
def opSum : Dt → R EV
  | .list ds => someR (intsD ds) fun ns => iV ns.sum
  | _ => .bad
def opAbs : Dt → R EV
  | .int i => iV (if i < 0 then -i else i)
  | _ => .bad
def opMax2 : Dt → Dt → R EV
  | .int i, .int j => iV (if j > i then j else i)
  | _, _ => .bad
def opMin2 : Dt → Dt → R EV
  | .int i, .int j => iV (if j < i then j else i)
  | _, _ => .bad
def opInt : Dt → R EV
  | .int i => iV i
  | .bool k => iV (if k then 1 else 0)
  | .str a => guardR (a.length ≤ 640) (match PySem.intText? a with
    | some n => iV n
    | none => .bad)
  | _ => .bad
def opList : Dt → R EV
  | .list ds => .ok (.new (.lst ds))
  | .tuple ds => .ok (.new (.lst ds))
  | _ => .bad
def opTuple : Dt → R EV
  | .list ds => .ok (.val (.tuple ds))
  | .tuple ds => .ok (.val (.tuple ds))
  | _ => .bad
/-- the truth of what tells it by itself -/
def flatTruth : Dt → Option Bool
  | .none => some false
  | .bool b => some b
  | .int i => some (i != 0)
  | _ => none
def truths : List Dt → Option (List Bool)
  | [] => some []
  | d :: r => (flatTruth d).bind fun b => (truths r).map (b :: ·)
def opAny : Dt → R EV
  | .list ds => someR (truths ds) fun bs => bV (bs.any id)
  | _ => .bad
def opAll : Dt → R EV
  | .list ds => someR (truths ds) fun bs => bV (bs.all id)
  | _ => .bad
theorem rdN1 {K : PySem.W.Frag} {op : Dt → R EV} {xs : List V} {H : Hp} {Q : VK} (h : rdN K (on1 op) xs H Q) : ∃ F d x ev, xs = [x] ∧ op d = .ok ev ∧ LeH F H ∧ RepT K F H d x ∧ PostP K F H ev Q := by
  obtain ⟨F, as, ev, e, le, ra, q⟩ := h
  cases ra with
  | nil => cases e
  | cons a b =>
    cases b with
    | nil => exact ⟨F, _, _, ev, rfl, e, le, a, q⟩
    | cons a2 b2 => cases e
theorem rdN2 {K : PySem.W.Frag} {op : Dt → Dt → R EV} {xs : List V} {H : Hp} {Q : VK} (h : rdN K (on2 op) xs H Q) : ∃ F d d2 x x2 ev, xs = [x, x2] ∧ op d d2 = .ok ev ∧ LeH F H ∧ RepT K F H d x ∧ RepT K F H d2 x2 ∧ PostP K F H ev Q := by
  obtain ⟨F, as, ev, e, le, ra, q⟩ := h
  cases ra with
  | nil => cases e
  | cons a b =>
    cases b with
    | nil => cases e
    | cons a2 b2 =>
      cases b2 with
      | nil => exact ⟨F, _, _, _, _, ev, rfl, e, le, a, a2, q⟩
      | cons a3 b3 => cases e
section
variable {X : Cx}
theorem c_len : CallR X (.builtin "len") (rdN X.K (on1 opLen)) := CallR.any fun xs H Q q0 => by
  obtain ⟨F, d, x, ev, rfl, e, le, ra, q⟩ := rdN1 q0
  clear q0
  cases d <;> try (cases e; done)
  · rename_i z
    obtain ⟨hl, e⟩ := guard_ok e
    cases e
    simp only [RepT] at ra
    subst ra
    exact ⟨_, call_len_str, z, rfl, hl, q.val le (by simp only [Rep])⟩
  · cases e
    simp only [RepT] at ra
    obtain ⟨p, ys, rfl, h1, h2, h3⟩ := ra
    rw [h3.length] at q
    exact ⟨_, call_len_seq, p, ys, rfl, .inl (.inl h1), q.val le (by simp only [Rep])⟩
  · cases e
    simp only [RepT] at ra
    obtain ⟨p, ys, rfl, h1, h2, h3⟩ := ra
    rw [h3.length] at q
    exact ⟨_, call_len_seq, p, ys, rfl, .inr (sqT_leH le h1).sq, q.val le (by simp only [Rep])⟩
theorem c_sum (hc : X.calm = true) : CallR X (.builtin "sum") (rdN X.K (on1 opSum)) := CallR.any fun xs H Q q0 => by
  obtain ⟨F, d, x, ev, rfl, e, le, ra, q⟩ := rdN1 q0
  clear q0
  cases d <;> try (cases e; done)
  rename_i ds
  obtain ⟨ns, ei, e⟩ := some_ok e
  · cases e
    have := ints_map ei
    subst this
    simp only [RepT] at ra
    obtain ⟨p, ys, rfl, h1, h2, h3⟩ := ra
    have := ints_rep h3
    subst this
    exact ⟨_, cr_sum hc, p, ns, rfl, .inl h1, q.val le (by simp only [Rep])⟩
theorem c_abs : CallR X (.builtin "abs") (rdN X.K (on1 opAbs)) := CallR.any fun xs H Q q0 => by
  obtain ⟨F, d, x, ev, rfl, e, le, ra, q⟩ := rdN1 q0
  clear q0
  cases d <;> try (cases e; done)
  cases e
  simp only [RepT] at ra
  subst ra
  exact ⟨_, call_abs, _, rfl, q.val le (by simp only [Rep])⟩
theorem c_max2 (hc : X.calm = true) : CallR X (.builtin "max") (rdN X.K (on2 opMax2)) := CallR.any fun xs H Q q0 => by
  obtain ⟨F, d, d2, x, y, ev, rfl, e, le, ra, rb, q⟩ := rdN2 q0
  clear q0
  cases d <;> cases d2 <;> try (cases e; done)
  cases e
  simp only [RepT] at ra rb
  subst ra; subst rb
  exact ⟨_, call_max2 hc, _, _, rfl, q.val le (by simp only [Rep])⟩
theorem c_min2 (hc : X.calm = true) : CallR X (.builtin "min") (rdN X.K (on2 opMin2)) := CallR.any fun xs H Q q0 => by
  obtain ⟨F, d, d2, x, y, ev, rfl, e, le, ra, rb, q⟩ := rdN2 q0
  clear q0
  cases d <;> cases d2 <;> try (cases e; done)
  cases e
  simp only [RepT] at ra rb
  subst ra; subst rb
  exact ⟨_, call_min2 hc, _, _, rfl, q.val le (by simp only [Rep])⟩
theorem c_int : CallR X (.type "int") (rdN X.K (on1 opInt)) := CallR.any fun xs H Q q0 => by
  obtain ⟨F, d, x, ev, rfl, e, le, ra, q⟩ := rdN1 q0
  clear q0
  cases d <;> try (cases e; done)
  · cases e
    simp only [RepT] at ra
    subst ra
    exact ⟨_, call_int1, .inr ⟨_, rfl, q.val le (by simp only [Rep])⟩⟩
  · cases e
    simp only [RepT] at ra
    subst ra
    exact ⟨_, call_int1, .inl ⟨_, rfl, q.val le (by simp only [Rep])⟩⟩
  · obtain ⟨c, e⟩ := guard_ok e
    split at e
    · rename_i n hn
      cases e
      simp only [RepT] at ra
      subst ra
      exact ⟨_, call_int_str, _, n, rfl, hn, c, q.val le (by simp only [Rep])⟩
    · cases e
theorem c_list : CallR X (.type "list") (rdN X.K (on1 opList)) := CallR.any fun xs H Q q0 => by
  obtain ⟨F, d, x, ev, rfl, e, le, ra, q⟩ := rdN1 q0
  clear q0
  cases d <;> try (cases e; done)
  · cases e
    simp only [RepT] at ra
    obtain ⟨p, ys, rfl, h1, h2, h3⟩ := ra
    exact ⟨_, call_list_of, p, ys, rfl, .inl (.inl h1), fun l hl => q.newO le hl ⟨ys, upd_same, h2, h3⟩⟩
  · cases e
    simp only [RepT] at ra
    obtain ⟨p, ys, rfl, h1, h2, h3⟩ := ra
    exact ⟨_, call_list_of, p, ys, rfl, .inr (sqT_leH le h1).sq, fun l hl => q.newO le hl ⟨ys, upd_same, h2, h3⟩⟩
theorem c_tuple : CallR X (.type "tuple") (rdN X.K (on1 opTuple)) := CallR.any fun xs H Q q0 => by
  obtain ⟨F, d, x, ev, rfl, e, le, ra, q⟩ := rdN1 q0
  clear q0
  cases d <;> try (cases e; done)
  · cases e
    simp only [RepT] at ra
    obtain ⟨p, ys, rfl, h1, h2, h3⟩ := ra
    refine ⟨_, call_tuple_of, p, ys, rfl, .inl ⟨.inl h1, fun l hl => q.newF le hl fun F' f e => ?_⟩⟩
    simp only [Rep]
    exact ⟨l, ys, rfl, .inl e, h2, h3.mono f⟩
  · cases e
    simp only [RepT] at ra
    obtain ⟨p, ys, rfl, h1, h2, h3⟩ := ra
    refine ⟨_, call_tuple_of, p, ys, rfl, .inr ⟨(sqT_leH le h1).sq, q.val le ?_⟩⟩
    simp only [Rep]
    exact ⟨p, ys, rfl, h1, h2, h3⟩
theorem truths_len : ∀ {ds : List Dt} {bs : List Bool}, truths ds = some bs → bs.length = ds.length
  | [], bs, h => by cases h; rfl
  | d :: ds, bs, h => by
    simp only [truths] at h
    cases e : flatTruth d with
    | none => rw [e] at h; cases h
    | some b =>
      rw [e] at h
      simp only [Option.bind_some, Option.map_eq_some_iff] at h
      obtain ⟨cs, h1, rfl⟩ := h
      simp [truths_len h1]
theorem truths_get : ∀ {ds : List Dt} {bs : List Bool} {i : Nat} {d : Dt}, truths ds = some bs → ds[i]? = some d → flatTruth d = some (bs.getD i false)
  | [], bs, i, d, h, e => by simp at e
  | d0 :: ds, bs, i, d, h, e => by
    simp only [truths] at h
    cases eq : flatTruth d0 with
    | none => rw [eq] at h; cases h
    | some b =>
      rw [eq] at h
      simp only [Option.bind_some, Option.map_eq_some_iff] at h
      obtain ⟨cs, h1, rfl⟩ := h
      cases i with
      | zero => simp at e; subst e; simpa using eq
      | succ i => simp at e; simpa using truths_get h1 e
theorem truth_flats {K : PySem.W.Frag} {F : Hp} {prog : Program} {w : World} {A : Around} {ds : List Dt} {bs : List Bool} {xs : List V} {its : List Value} (h : truths ds = some bs) (r : RepAll K F ds xs) (v : Vals xs its) :
    TruthOf prog w A (fun i v => its.toArray[i]? = some v) (fun i => bs.getD i false) := fun i u s Q E hv hq => by
  have hv' : its[i]? = some u := by simpa using hv
  have hi : i < ds.length := by
    rw [r.length, v.length]
    exact (List.getElem?_eq_some_iff.mp hv').1
  have hd : ds[i]? = some ds[i] := List.getElem?_eq_getElem hi
  have ht := truths_get h hd
  obtain ⟨x, e1, e2⟩ := r.get hd
  obtain ⟨u', e3, e4⟩ := v.get e1
  rw [hv'] at e3
  cases e3
  have hq' : Q (bs.getD i false) s := hq
  revert ht e2
  generalize ds[i] = d
  intro ht e2
  cases d <;> try (cases ht; done)
  · simp only [Rep] at e2; subst e2
    obtain rfl : u = Value.none := e4
    simp only [flatTruth, Option.some.injEq] at ht
    rw [← ht] at hq'
    exact fun _ _ _ => hq'
  · simp only [Rep] at e2; subst e2
    obtain rfl : u = Value.bool _ := e4
    simp only [flatTruth, Option.some.injEq] at ht
    rw [← ht] at hq'
    exact wpAny_truthy_bool hq'
  · simp only [Rep] at e2; subst e2
    obtain ⟨t, rfl⟩ := e4
    simp only [flatTruth, Option.some.injEq] at ht
    rw [← ht] at hq'
    exact truthy_int hq'
def rAnyF (K : PySem.W.Frag) : List V → Hp → VK → Prop := fun vs H Q => ∃ (F : Hp) (a : Addr) (xs : List V) (ds : List Dt) (bs : List Bool), vs = [V.ref a] ∧ Rd H a (.lst xs) ∧ RepAll K F ds xs ∧ truths ds = some bs ∧ Q (.bl (bs.any id)) H
def rAllF (K : PySem.W.Frag) : List V → Hp → VK → Prop := fun vs H Q => ∃ (F : Hp) (a : Addr) (xs : List V) (ds : List Dt) (bs : List Bool), vs = [V.ref a] ∧ Rd H a (.lst xs) ∧ RepAll K F ds xs ∧ truths ds = some bs ∧ Q (.bl (bs.all id)) H
theorem cr_anyF (hc : X.calm = true) : CallR X (.builtin "any") (rAnyF X.K) := by
  intro pins s σ H vs us Q I r h
  obtain ⟨F, a, xs, ds, bs, rfl, hs, ra, ht, q⟩ := h
  obtain ⟨its, rv, hl, _⟩ := I.list (.inl hs)
  rw [Vals.ref1 r]
  have hb := truth_flats (prog := X.prog) (w := X.w) (A := X.A.in1) ht ra rv
  have hn : its.length = bs.length := by rw [truths_len ht, ra.length, rv.length]
  refine call_any_walk (iter_any hl.isList fun s₂ e2 st hne => ?_)
  subst e2
  refine ⟨_, _, _, _, _, _, _, rfl, Walks.list (A := X.A.in1) (I.ok.hd hc) _ a hne its.toArray, st, hb, fun h' tk hk => ?_⟩
  refine ⟨.bl _, H, I.kept fun b o eo => hk b o (fun hmem => ?_) (Heap.get?_push_of_some _ eo), ?_, q⟩
  · rcases List.mem_cons.mp hmem with e1 | hmem
    · exact absurd (e1 ▸ Heap.lt_size eo) (Nat.lt_irrefl _)
    · cases hmem
  · show Value.bool _ = Value.bool _
    rw [← L2.any_range, List.size_toArray, hn]
theorem cr_allF (hc : X.calm = true) : CallR X (.builtin "all") (rAllF X.K) := by
  intro pins s σ H vs us Q I r h
  obtain ⟨F, a, xs, ds, bs, rfl, hs, ra, ht, q⟩ := h
  obtain ⟨its, rv, hl, _⟩ := I.list (.inl hs)
  rw [Vals.ref1 r]
  have hb := truth_flats (prog := X.prog) (w := X.w) (A := X.A.in1) ht ra rv
  have hn : its.length = bs.length := by rw [truths_len ht, ra.length, rv.length]
  refine call_all_walk (iter_any hl.isList fun s₂ e2 st hne => ?_)
  subst e2
  refine ⟨_, _, _, _, _, _, _, rfl, Walks.list (A := X.A.in1) (I.ok.hd hc) _ a hne its.toArray, st, hb, fun h' tk hk => ?_⟩
  refine ⟨.bl _, H, I.kept fun b o eo => hk b o (fun hmem => ?_) (Heap.get?_push_of_some _ eo), ?_, q⟩
  · rcases List.mem_cons.mp hmem with e1 | hmem
    · exact absurd (e1 ▸ Heap.lt_size eo) (Nat.lt_irrefl _)
    · cases hmem
  · show Value.bool _ = Value.bool _
    rw [← L2.all_range, List.size_toArray, hn]
theorem c_any (hc : X.calm = true) : CallR X (.builtin "any") (rdN X.K (on1 opAny)) := CallR.any fun xs H Q q0 => by
  obtain ⟨F, d, x, ev, rfl, e, le, ra, q⟩ := rdN1 q0
  clear q0
  cases d <;> try (cases e; done)
  rename_i ds
  obtain ⟨bs, ei, e⟩ := some_ok e
  · cases e
    simp only [RepT] at ra
    obtain ⟨p, ys, rfl, h1, h2, h3⟩ := ra
    exact ⟨_, cr_anyF hc, F, p, ys, ds, bs, rfl, h1, h3, ei, q.val le (by simp only [Rep])⟩
theorem c_all (hc : X.calm = true) : CallR X (.builtin "all") (rdN X.K (on1 opAll)) := CallR.any fun xs H Q q0 => by
  obtain ⟨F, d, x, ev, rfl, e, le, ra, q⟩ := rdN1 q0
  clear q0
  cases d <;> try (cases e; done)
  rename_i ds
  obtain ⟨bs, ei, e⟩ := some_ok e
  · cases e
    simp only [RepT] at ra
    obtain ⟨p, ys, rfl, h1, h2, h3⟩ := ra
    exact ⟨_, cr_allF hc, F, p, ys, ds, bs, rfl, h1, h3, ei, q.val le (by simp only [Rep])⟩
end
theorem calm_Len : ∀ ds, Calm (on1 opLen ds) := calm_on1 fun d => by cases d <;> first | exact ok_calm | exact bad_calm | exact guard_calm ok_calm
theorem calm_Sum : ∀ ds, Calm (on1 opSum ds) := calm_on1 fun d => by cases d <;> first | exact bad_calm | exact some_calm fun _ => ok_calm
theorem calm_Abs : ∀ ds, Calm (on1 opAbs ds) := calm_on1 fun d => by cases d <;> first | exact ok_calm | exact bad_calm
theorem calm_Max2 : ∀ ds, Calm (on2 opMax2 ds) := calm_on2 fun d e => by cases d <;> cases e <;> first | exact ok_calm | exact bad_calm
theorem calm_Min2 : ∀ ds, Calm (on2 opMin2 ds) := calm_on2 fun d e => by cases d <;> cases e <;> first | exact ok_calm | exact bad_calm
theorem calm_Int : ∀ ds, Calm (on1 opInt ds) := calm_on1 fun d => by
  cases d <;> first | exact ok_calm | exact bad_calm | skip
  refine guard_calm ?_
  split
  · exact ok_calm
  · exact bad_calm
theorem calm_List : ∀ ds, Calm (on1 opList ds) := calm_on1 fun d => by cases d <;> first | exact ok_calm | exact bad_calm
theorem calm_Tuple : ∀ ds, Calm (on1 opTuple ds) := calm_on1 fun d => by cases d <;> first | exact ok_calm | exact bad_calm
theorem calm_Any : ∀ ds, Calm (on1 opAny ds) := calm_on1 fun d => by cases d <;> first | exact bad_calm | exact some_calm fun _ => ok_calm
theorem calm_All : ∀ ds, Calm (on1 opAll ds) := calm_on1 fun d => by cases d <;> first | exact bad_calm | exact some_calm fun _ => ok_calm
end Mv
set_option Elab.async false
set_option linter.all false
set_option maxRecDepth 100000
set_option maxHeartbeats 4000000
namespace Mv
open PySem PySem.Spec PyProof.Rows L2

inductive Fl where
  | nxt | brk | cnt
  | ret (v : EV)
abbrev Stm := Rho → R (Fl × Rho)
def Keeps (B : Nat → Bool) (σ σ' : L2.St) : Prop := σ'.length = σ.length ∧ ∀ i : Nat, B i = true → σ'[i]? = σ[i]?
theorem Keeps.refl (B : Nat → Bool) (σ : L2.St) : Keeps B σ σ := ⟨rfl, fun _ _ => rfl⟩
theorem Keeps.trans {B : Nat → Bool} {σ σ1 σ2 : L2.St} (a : Keeps B σ σ1) (b : Keeps B σ1 σ2) : Keeps B σ σ2 := ⟨b.1.trans a.1, fun i h => (b.2 i h).trans (a.2 i h)⟩
def PostF (K : PySem.W.Frag) (F' : Hp) (ρ' : Rho) (σ' : L2.St) (H H' : Hp) (fl : Fl) (D : Ends) : Prop :=
  match fl with
  | .nxt => D.nx σ' H'
  | .brk => D.bk σ' H'
  | .cnt => D.ct σ' H'
  | .ret v => ∀ x, RepE K F' ρ' σ' H H' v x → D.rt x H'
def PostS (K : PySem.W.Frag) (mg : Str → Option Value) (W : WX) (B : Nat → Bool) (F : Hp) (ρ : Rho) (σ : L2.St) (H : Hp) (r : R (Fl × Rho)) (D : Ends) : Prop :=
  match r with
  | .ok (fl, ρ') => ∀ F' σ' H', Rel K F' ρ' σ' H' → Step F ρ σ H F' ρ' σ' H' → Keeps B σ σ' → PostF K F' ρ' σ' H H' fl D
  | .ex c => ∀ F' H' C σ', Keeps B σ σ' → Air F ρ σ H F' H' → mg c = some (.ref C) → W (.ref C) none σ' H'
  | .bad => False
def rdS (K : PySem.W.Frag) (mg : Str → Option Value) (W : WX) (B : Nat → Bool) (m : Stm) : TS := fun D σ H => ∃ ρ F, Rel K F ρ σ H ∧ PostS K mg W B F ρ σ H (m ρ) D
structure SS (X : Cx) (W : WX) (B : Nat → Bool) (st : Stmt) (m : Stm) : Prop where
  ps : PS X st (rdS X.K X.mg W B m)
structure SSs (X : Cx) (W : WX) (B : Nat → Bool) (st : List Stmt) (m : Stm) : Prop where
  ps : PSs X st (rdS X.K X.mg W B m)
theorem psImp {X : Cx} {st : Stmt} {t t' : TS} (h : PS X st t) (i : ∀ D σ H, t' D σ H → t D σ H) : PS X st t' := ⟨fun pins s σ H D I q => h.run pins s σ H D I (i D σ H q)⟩
theorem pssImp {X : Cx} {st : List Stmt} {t t' : TS} (h : PSs X st t) (i : ∀ D σ H, t' D σ H → t D σ H) : PSs X st t' := ⟨fun pins s σ H D I q => h.run pins s σ H D I (i D σ H q)⟩
section
variable {K : PySem.W.Frag} {mg : Str → Option Value} {W : WX} {B : Nat → Bool} {F : Hp} {ρ : Rho} {σ : L2.St} {H : Hp} {D : Ends}
theorem RepE.shift {F1 F' : Hp} {ρ1 ρ' : Rho} {σ1 σ' : L2.St} {H1 H' : Hp} (s : Step F ρ σ H F1 ρ1 σ1 H1) {v : EV} {x : V} (e : RepE K F' ρ' σ' H1 H' v x) : RepE K F' ρ' σ' H H' v x := by
  cases v with
  | val d => exact e
  | slot i => exact e
  | new o =>
    obtain ⟨p, a, b, c, d, e⟩ := e
    exact ⟨p, a, b, s.none_back c, d, e⟩
theorem PostF.shift {F1 F' : Hp} {ρ1 ρ' : Rho} {σ1 σ' : L2.St} {H1 H' : Hp} (s : Step F ρ σ H F1 ρ1 σ1 H1) {fl : Fl} (h : PostF K F' ρ' σ' H H' fl D) : PostF K F' ρ' σ' H1 H' fl D := by
  cases fl with
  | nxt => exact h
  | brk => exact h
  | cnt => exact h
  | ret v => exact fun x e => h x (e.shift s)
theorem PostS.shift {F1 : Hp} {ρ1 : Rho} {σ1 : L2.St} {H1 : Hp} {r : R (Fl × Rho)} (s : Step F ρ σ H F1 ρ1 σ1 H1) (k : Keeps B σ σ1) (h : PostS K mg W B F ρ σ H r D) : PostS K mg W B F1 ρ1 σ1 H1 r D := by
  unfold PostS at h ⊢
  split at h
  · exact fun F' σ' H' r' s' k' => (h F' σ' H' r' (s.trans s') (k.trans k')).shift s
  · exact fun F' H' C σ' kk a e => h F' H' C σ' (k.trans kk) (s.air a) e
  · exact h
theorem rdE_bindS {ma : M EV} {f : EV × Rho → R (Fl × Rho)} {Q1 : VK} (r : Rel K F ρ σ H) (h : PostS K mg W B F ρ σ H ((ma ρ).bind f) D)
    (k : ∀ v ρ1 F1 H1 x, Rel K F1 ρ1 σ H1 → Step F ρ σ H F1 ρ1 σ H1 → RepE K F1 ρ1 σ H H1 v x → PostS K mg W B F ρ σ H (f (v, ρ1)) D → PostS K mg W B F1 ρ1 σ H1 (f (v, ρ1)) D → Q1 x H1) : rdE K mg W ma σ H Q1 := by
  refine ⟨ρ, F, r, ?_⟩
  cases e : ma ρ with
  | ok p =>
    obtain ⟨v, ρ1⟩ := p
    rw [e] at h
    intro F1 H1 x r1 s1 e1
    exact k v ρ1 F1 H1 x r1 s1 e1 h (h.shift s1 (Keeps.refl B σ))
  | ex c => rw [e] at h; exact fun F' H' C a e => h F' H' C σ (Keeps.refl B σ) a e
  | bad => rw [e] at h; exact h
theorem rdV_bindS {ma : M EV} {f : EV × Rho → R (Fl × Rho)} {Q1 : VK} (r : Rel K F ρ σ H) (h : PostS K mg W B F ρ σ H ((ma ρ).bind f) D)
    (k : ∀ v ρ1 F1 H1 x, Rel K F1 ρ1 σ H1 → Step F ρ σ H F1 ρ1 σ H1 → RepS K F1 σ (settle v) x → PostS K mg W B F1 ρ1 σ H1 (f (v, ρ1)) D → Q1 x H1) : rdV K mg W ma σ H Q1 := by
  refine ⟨ρ, F, r, ?_⟩
  cases e : ma ρ with
  | ok p =>
    obtain ⟨v, ρ1⟩ := p
    rw [e] at h
    intro F1 H1 x r1 s1 e1
    exact k v ρ1 F1 H1 x r1 s1 e1 (h.shift s1 (Keeps.refl B σ))
  | ex c => rw [e] at h; exact fun F' H' C a e => h F' H' C σ (Keeps.refl B σ) a e
  | bad => rw [e] at h; exact h
theorem rdG_bindS {γ δ : Type} {rep2 : Hp → L2.St → γ → δ → Prop} {ma : M γ} {f : γ × Rho → R (Fl × Rho)} {Q1 : δ → Hp → Prop} (r : Rel K F ρ σ H) (h : PostS K mg W B F ρ σ H ((ma ρ).bind f) D)
    (k : ∀ v ρ1 F1 H1 x, Rel K F1 ρ1 σ H1 → Step F ρ σ H F1 ρ1 σ H1 → rep2 F1 σ v x → PostS K mg W B F1 ρ1 σ H1 (f (v, ρ1)) D → Q1 x H1) : rdG K mg W rep2 ma σ H Q1 := by
  refine ⟨ρ, F, r, ?_⟩
  cases e : ma ρ with
  | ok p =>
    obtain ⟨v, ρ1⟩ := p
    rw [e] at h
    intro F1 H1 x r1 s1 e1
    exact k v ρ1 F1 H1 x r1 s1 e1 (h.shift s1 (Keeps.refl B σ))
  | ex c => rw [e] at h; exact fun F' H' C a e => h F' H' C σ (Keeps.refl B σ) a e
  | bad => rw [e] at h; exact h
theorem look_bindS {ρ' : Rho} {f : Dt → R (Fl × Rho)} {v : EV} (h : PostS K mg W B F ρ σ H ((lookEV v ρ').bind f) D) : ∃ d, lookEV v ρ' = .ok d ∧ PostS K mg W B F ρ σ H (f d) D := by
  cases e : lookEV v ρ' with
  | ok d => rw [e] at h; exact ⟨d, rfl, h⟩
  | ex c => exact absurd e (calm_look v ρ' c)
  | bad => rw [e] at h; exact False.elim h
theorem calm_bindS {γ : Type} {r : R γ} {f : γ → R (Fl × Rho)} (c : Calm r) (h : PostS K mg W B F ρ σ H (r.bind f) D) : ∃ d, r = .ok d ∧ PostS K mg W B F ρ σ H (f d) D := by
  cases r with
  | ok d => exact ⟨d, rfl, h⟩
  | ex x => exact absurd rfl (c x)
  | bad => exact False.elim h
theorem PostS.next (h : PostS K mg W B F ρ σ H (.ok (.nxt, ρ)) D) (r : Rel K F ρ σ H) : D.nx σ H := h F σ H r (Step.refl _ _ _ _) (Keeps.refl B σ)
end
/-! ### blocks and small statements -/
def mNil : Stm := fun ρ => .ok (.nxt, ρ)
def mSeq (a b : Stm) : Stm := fun ρ => (a ρ).bind fun x => match x.1 with
  | .nxt => b x.2
  | fl => .ok (fl, x.2)
def mRet (m : M EV) : Stm := fun ρ => (m ρ).bind fun a => .ok (.ret a.1, a.2)
def mRetN : Stm := fun ρ => .ok (.ret (.val .none), ρ)
def mDrop (m : M EV) : Stm := fun ρ => (m ρ).bind fun a => .ok (.nxt, a.2)
def mIfS (c : M Bool) (a b : Stm) : Stm := fun ρ => (c ρ).bind fun x => if x.1 = true then a x.2 else b x.2
def mBrk : Stm := fun ρ => .ok (.brk, ρ)
def mCnt : Stm := fun ρ => .ok (.cnt, ρ)
section
variable {X : Cx} {W : WX} {B : Nat → Bool}
theorem SSs.nil : SSs X W B [] mNil := ⟨pssImp pss_nil fun D σ H ⟨_, _, r, q⟩ => q.next r⟩
theorem SSs.one {st : Stmt} {m : Stm} (h : SS X W B st m) : SSs X W B [st] m := ⟨pss_one h.ps⟩
theorem SSs.cons {st : Stmt} {rest : List Stmt} {a b : Stm} (h : SS X W B st a) (h2 : SSs X W B rest b) : SSs X W B (st :: rest) (mSeq a b) := by
  refine ⟨pssImp (pss_cons h.ps h2.ps) fun D σ H q => ?_⟩
  obtain ⟨ρ, F, r, q⟩ := q
  refine ⟨ρ, F, r, ?_⟩
  unfold mSeq at q
  cases e : a ρ with
  | ok p =>
    obtain ⟨fl, ρ1⟩ := p
    rw [e] at q
    intro F1 σ1 H1 r1 s1 k1
    cases fl with
    | nxt => exact ⟨ρ1, F1, r1, PostS.shift s1 k1 q⟩
    | brk => exact q F1 σ1 H1 r1 s1 k1
    | cnt => exact q F1 σ1 H1 r1 s1 k1
    | ret v => exact q F1 σ1 H1 r1 s1 k1
  | ex c => rw [e] at q; exact q
  | bad => rw [e] at q; exact q
theorem SS.pass {pos : Pos} : SS X W B (.Pass pos) mNil := ⟨psImp ps_pass fun D σ H ⟨_, _, r, q⟩ => q.next r⟩
theorem SS.brk {pos : Pos} : SS X W B (.Break pos) mBrk := ⟨psImp ps_break fun D σ H ⟨_, F, r, q⟩ => q F σ H r (Step.refl _ _ _ _) (Keeps.refl B σ)⟩
theorem SS.cnt {pos : Pos} : SS X W B (.Continue pos) mCnt := ⟨psImp ps_continue fun D σ H ⟨_, F, r, q⟩ => q F σ H r (Step.refl _ _ _ _) (Keeps.refl B σ)⟩
theorem SS.ret {e : Expr} {pos : Pos} {m : M EV} (h : SE X W e m) : SS X W B (.Return (some e) pos) (mRet m) := by
  refine ⟨psImp (ps_ret h.pe) fun D σ H q => ?_⟩
  obtain ⟨ρ, F, r, q⟩ := q
  exact rdE_bindS r q fun v ρ1 F1 H1 x r1 s1 e1 q0 _ => q0 F1 σ H1 r1 s1 (Keeps.refl B σ) x e1
theorem SS.retN {pos : Pos} : SS X W B (.Return none pos) mRetN := ⟨psImp ps_retN fun D σ H ⟨_, F, r, q⟩ => q F σ H r (Step.refl _ _ _ _) (Keeps.refl B σ) .non (by show Rep _ _ _ _; simp only [Rep])⟩
theorem SS.expr {e : Expr} {pos : Pos} {m : M EV} (h : SE X W e m) (hs : swapsWith e none pos.line X.env = pure false := by rfl) : SS X W B (.Expr e pos) (mDrop m) := by
  refine ⟨psImp (ps_expr h.v hs) fun D σ H q => ?_⟩
  obtain ⟨ρ, F, r, q⟩ := q
  exact rdV_bindS r q fun v ρ1 F1 H1 x r1 s1 e1 q => q.next r1
theorem SS.ifs {c : Expr} {a b : List Stmt} {pos : Pos} {mc : M Bool} {ma mb : Stm} (hc : ST X W c mc) (ha : SSs X W B a ma) (hb : SSs X W B b mb) : SS X W B (.If c a b pos) (mIfS mc ma mb) := by
  refine ⟨psImp (ps_if hc.pt ha.ps hb.ps) fun D σ H q => ?_⟩
  obtain ⟨ρ, F, r, q⟩ := q
  refine rdG_bindS r q fun c ρ1 F1 H1 x r1 s1 e1 q => ?_
  subst e1
  by_cases k : c = true
  · rw [if_pos k]
    rw [if_pos k] at q
    exact ⟨ρ1, F1, r1, q⟩
  · rw [if_neg k]
    rw [if_neg k] at q
    exact ⟨ρ1, F1, r1, q⟩
end
/-! ### a variable is set -/
theorem set_some {α : Type} {l : List α} {i j : Nat} {x y : α} (h : (l.set i x)[j]? = some y) : (i = j ∧ y = x) ∨ (i ≠ j ∧ l[j]? = some y) := by
  by_cases c : i = j
  · subst c
    by_cases k : i < l.length
    · rw [List.getElem?_set_self k] at h
      cases h
      exact .inl ⟨rfl, rfl⟩
    · have : (l.set i x).length ≤ i := by simpa using Nat.le_of_not_lt k
      rw [List.getElem?_eq_none this] at h
      cases h
  · rw [List.getElem?_set_ne c] at h
    exact .inr ⟨c, h⟩
section
variable {K : PySem.W.Frag} {F : Hp} {ρ : Rho} {σ : L2.St} {H : Hp} {F0 : Hp} {ρ0 : Rho} {σ0 : L2.St} {H0 : Hp}
theorem Rel.setVal {i : Nat} {d : Dt} {x : V} (r : Rel K F ρ σ H) (h : Rep K F d x) : Rel K F (ρ.set i (some (.val d))) (σ.set i (some x)) H where
  le := r.le
  len := by rw [List.length_set, List.length_set]; exact r.len
  val := fun j e ej => by
    rcases set_some ej with ⟨rfl, z⟩ | ⟨c, z⟩
    · cases z
      have hi : i < σ.length := by
        rw [← r.len]
        have := (List.getElem?_eq_some_iff.mp ej).1
        simpa using this
      exact ⟨x, List.getElem?_set_self hi, h⟩
    · rw [List.getElem?_set_ne c]; exact r.val j e z
  own := fun j o ej => by
    rcases set_some ej with ⟨_, z⟩ | ⟨c, z⟩
    · cases z
    · rw [List.getElem?_set_ne c]; exact r.own j o z
  dis := fun j k p o o' ej ek e1 e2 => by
    rcases set_some ej with ⟨_, z⟩ | ⟨c, z⟩
    · cases z
    · rcases set_some ek with ⟨_, z2⟩ | ⟨c2, z2⟩
      · cases z2
      · rw [List.getElem?_set_ne c] at e1
        rw [List.getElem?_set_ne c2] at e2
        exact r.dis j k p o o' z z2 e1 e2
theorem Step.setVal {i : Nat} {d : Dt} {x : V} (s : Step F0 ρ0 σ0 H0 F ρ σ H) : Step F0 ρ0 σ0 H0 F (ρ.set i (some (.val d))) (σ.set i (some x)) H where
  le := s.le
  grow := s.grow
  keep := s.keep
  dom := s.dom
  owns := fun a ⟨j, o, ej, ea⟩ => by
    rcases set_some ej with ⟨_, z⟩ | ⟨c, z⟩
    · cases z
    · rw [List.getElem?_set_ne c] at ea
      exact s.owns a ⟨j, o, z, ea⟩
theorem Rel.setOwn {i : Nat} {o : O} {p : Addr} (r : Rel K F ρ σ H) (hF : F p = none) (hn : ¬ OwnS ρ σ p) (h : OwnAt K F H p o) : Rel K F (ρ.set i (some (.own o))) (σ.set i (some (.ref p))) H where
  le := r.le
  len := by rw [List.length_set, List.length_set]; exact r.len
  val := fun j e ej => by
    rcases set_some ej with ⟨_, z⟩ | ⟨c, z⟩
    · cases z
    · rw [List.getElem?_set_ne c]; exact r.val j e z
  own := fun j q ej => by
    rcases set_some ej with ⟨rfl, z⟩ | ⟨c, z⟩
    · cases z
      have hi : i < σ.length := by
        rw [← r.len]
        have := (List.getElem?_eq_some_iff.mp ej).1
        simpa using this
      exact ⟨p, List.getElem?_set_self hi, hF, h⟩
    · rw [List.getElem?_set_ne c]; exact r.own j q z
  dis := fun j k a o1 o2 ej ek e1 e2 => by
    rcases set_some ej with ⟨rfl, z⟩ | ⟨c, z⟩
    · rcases set_some ek with ⟨rfl, z2⟩ | ⟨c2, z2⟩
      · rfl
      · exfalso
        have ea : a = p := by
          rcases set_some e1 with ⟨_, y⟩ | ⟨y, _⟩
          · cases y; rfl
          · exact absurd rfl y
        subst ea
        rw [List.getElem?_set_ne c2] at e2
        exact hn ⟨k, o2, z2, e2⟩
    · rcases set_some ek with ⟨rfl, z2⟩ | ⟨c2, z2⟩
      · exfalso
        have ea : a = p := by
          rcases set_some e2 with ⟨_, y⟩ | ⟨y, _⟩
          · cases y; rfl
          · exact absurd rfl y
        subst ea
        rw [List.getElem?_set_ne c] at e1
        exact hn ⟨j, o1, z, e1⟩
      · rw [List.getElem?_set_ne c] at e1
        rw [List.getElem?_set_ne c2] at e2
        exact r.dis j k a o1 o2 z z2 e1 e2
theorem Step.setOwn {i : Nat} {o : O} {p : Addr} (s : Step F0 ρ0 σ0 H0 F ρ σ H) (h0 : H0 p = none) : Step F0 ρ0 σ0 H0 F (ρ.set i (some (.own o))) (σ.set i (some (.ref p))) H where
  le := s.le
  grow := s.grow
  keep := s.keep
  dom := s.dom
  owns := fun a ⟨j, o, ej, ea⟩ => by
    rcases set_some ej with ⟨rfl, z⟩ | ⟨c, z⟩
    · have ea' : a = p := by
        rcases set_some ea with ⟨_, y⟩ | ⟨y, _⟩
        · cases y; rfl
        · exact absurd rfl y
      subst ea'
      exact .inr h0
    · rw [List.getElem?_set_ne c] at ea
      exact s.owns a ⟨j, o, z, ea⟩
theorem keeps_set {B : Nat → Bool} {i : Nat} {x : Option V} (h : B i = false) : Keeps B σ (σ.set i x) := ⟨List.length_set, fun j hj => by
  have c : i ≠ j := fun e => by subst e; rw [h] at hj; cases hj
  exact List.getElem?_set_ne c⟩
end
/-- what a store of a value to slot i makes of the state -/
def storeEV (i : Nat) (v : EV) (ρ : Rho) : R Rho :=
  match v with
  | .val d => .ok (ρ.set i (some (.val d)))
  | .new o => .ok (ρ.set i (some (.own o)))
  | .slot j => match ρ[j]? with
    | some (some (.own o)) => .ok ((ρ.set j (some (.val o.d))).set i (some (.val o.d)))
    | _ => .bad
theorem calm_store (i : Nat) (v : EV) (ρ : Rho) : Calm (storeEV i v ρ) := fun c h => by
  cases v with
  | val d => cases h
  | new o => cases h
  | slot j => simp only [storeEV] at h; split at h <;> cases h
def mSet (i : Nat) (m : M EV) : Stm := fun ρ => (m ρ).bind fun a => (storeEV i a.1 a.2).bind fun ρ' => .ok (.nxt, ρ')
section
variable {X : Cx} {W : WX} {B : Nat → Bool}
theorem store_ok' {K : PySem.W.Frag} {F F0 : Hp} {ρ ρ0 ρ' : Rho} {σ : L2.St} {H H0 : Hp} {i : Nat} {v : EV} {x : V} (r : Rel K F ρ σ H) (s : Step F0 ρ0 σ H0 F ρ σ H) (e : RepE K F ρ σ H0 H v x) (h : storeEV i v ρ = .ok ρ') :
    ∃ F', Rel K F' ρ' (σ.set i (some x)) H ∧ Step F0 ρ0 σ H0 F' ρ' (σ.set i (some x)) H := by
  cases v with
  | val d =>
    simp only [storeEV, R.ok.injEq] at h; subst h
    exact ⟨F, r.setVal e, s.setVal⟩
  | new o =>
    simp only [storeEV, R.ok.injEq] at h; subst h
    obtain ⟨p, rfl, hF, h0, hn, ho⟩ := e
    exact ⟨F, r.setOwn hF hn ho, s.setOwn h0⟩
  | slot j =>
    simp only [storeEV] at h
    split at h
    · rename_i o eo
      simp only [R.ok.injEq] at h; subst h
      obtain ⟨F', r', s', e'⟩ := r.fzSlot eo e.2
      exact ⟨F', r'.setVal e', (s.trans s').setVal⟩
    · cases h
theorem SS.set (i : Nat) {x : Str} {e : Expr} {pos pos' : Pos} {m : M EV} (hN : X.N.Nodup) (he : SE X W e m) (hB : B i = false := by rfl) (hi : X.N[i]? = some x := by rfl) (hx : Loc X.env.scope x := by first | exact Or.inl rfl | exact Or.inr rfl)
    (hs : swapsWith e (some (.Name x pos')) pos.line X.env = pure false := by rfl) (hf : X.fn x = true ∨ X.env.scope.names.lookup x = some .local := by first | exact .inl rfl | exact .inr rfl) : SS X W B (.Assign [.Name x pos'] e pos) (mSet i m) := by
  refine ⟨psImp (ps_set hN hi hx he.pe hs hf) fun D σ H q => ?_⟩
  obtain ⟨ρ, F, r, q⟩ := q
  refine rdE_bindS r q fun v ρ1 F1 H1 x r1 s1 e1 q0 _ => ?_
  obtain ⟨ρ2, l, q0⟩ := calm_bindS (calm_store i v ρ1) q0
  obtain ⟨F2, r2, s2⟩ := store_ok' r1 s1 e1 l
  exact q0 F2 _ H1 r2 s2 (keeps_set hB)
end

/-! ### targets -/
abbrev Tgt := Dt → Rho → R Rho
def PostR (K : PySem.W.Frag) (mg : Str → Option Value) (W : WX) (B : Nat → Bool) (F : Hp) (ρ : Rho) (σ : L2.St) (H : Hp) (r : R Rho) (Q : L2.St → Hp → Prop) : Prop :=
  match r with
  | .ok ρ' => ∀ F' σ' H', Rel K F' ρ' σ' H' → Step F ρ σ H F' ρ' σ' H' → Keeps B σ σ' → Q σ' H'
  | .ex c => ∀ F' H' C σ', Keeps B σ σ' → Air F ρ σ H F' H' → mg c = some (.ref C) → W (.ref C) none σ' H'
  | .bad => False
def rdTg (K : PySem.W.Frag) (mg : Str → Option Value) (W : WX) (B : Nat → Bool) (g : Tgt) : TG := fun v σ H Q => ∃ ρ F d, Rel K F ρ σ H ∧ Rep K F d v ∧ PostR K mg W B F ρ σ H (g d ρ) Q
structure SG (X : Cx) (W : WX) (B : Nat → Bool) (tg : Expr) (g : Tgt) : Prop where
  pg : PG X tg (rdTg X.K X.mg W B g)
def rdTgs (K : PySem.W.Frag) (mg : Str → Option Value) (W : WX) (B : Nat → Bool) (g : List Dt → Rho → R Rho) : TGs := fun vs σ H Q => ∃ ρ F ds, Rel K F ρ σ H ∧ RepAll K F ds vs ∧ PostR K mg W B F ρ σ H (g ds ρ) Q
structure SGs (X : Cx) (W : WX) (B : Nat → Bool) (tgs : List Expr) (g : List Dt → Rho → R Rho) : Prop where
  pg : PGs X tgs (rdTgs X.K X.mg W B g)
def tName (i : Nat) : Tgt := fun d ρ => .ok (ρ.set i (some (.val d)))
def tNils : List Dt → Rho → R Rho
  | [], ρ => .ok ρ
  | _, _ => .bad
def tConss (t : Tgt) (u : List Dt → Rho → R Rho) : List Dt → Rho → R Rho
  | d :: ds, ρ => (t d ρ).bind fun ρ' => u ds ρ'
  | [], _ => .bad
def tTupT (n : Nat) (u : List Dt → Rho → R Rho) : Tgt
  | .tuple ds, ρ => if ds.length = n then u ds ρ else .bad
  | _, _ => .bad
def tLstT (n : Nat) (u : List Dt → Rho → R Rho) : Tgt
  | .list ds, ρ => if ds.length = n then u ds ρ else .bad
  | _, _ => .bad
section
variable {X : Cx} {W : WX} {B : Nat → Bool}
theorem pgImp {X : Cx} {e : Expr} {t t' : TG} (h : PG X e t) (i : ∀ v σ H Q, t' v σ H Q → t v σ H Q) : PG X e t' := ⟨fun pins s σ H v u Q I r q => h.run pins s σ H v u Q I r (i v σ H Q q)⟩
theorem pgsImp {X : Cx} {e : List Expr} {t t' : TGs} (h : PGs X e t) (i : ∀ v σ H Q, t' v σ H Q → t v σ H Q) : PGs X e t' := ⟨fun pins s σ H v u Q I r q => h.run pins s σ H v u Q I r (i v σ H Q q)⟩
theorem PostR.shift {K : PySem.W.Frag} {mg : Str → Option Value} {F F1 : Hp} {ρ ρ1 : Rho} {σ σ1 : L2.St} {H H1 : Hp} {r : R Rho} {Q : L2.St → Hp → Prop} (s : Step F ρ σ H F1 ρ1 σ1 H1) (k : Keeps B σ σ1) (h : PostR K mg W B F ρ σ H r Q) : PostR K mg W B F1 ρ1 σ1 H1 r Q := by
  unfold PostR at h ⊢
  split at h
  · exact fun F' σ' H' r' s' k' => h F' σ' H' r' (s.trans s') (k.trans k')
  · exact fun F' H' C σ' kk a e => h F' H' C σ' (k.trans kk) (s.air a) e
  · exact h
theorem SG.name (i : Nat) {x : Str} {pos : Pos} (hN : X.N.Nodup) (hB : B i = false := by rfl) (hi : X.N[i]? = some x := by rfl) (hx : Loc X.env.scope x := by first | exact Or.inl rfl | exact Or.inr rfl)
    (hf : X.fn x = true ∨ X.env.scope.names.lookup x = some .local := by first | exact .inl rfl | exact .inr rfl) : SG X W B (.Name x pos) (tName i) := by
  refine ⟨pgImp (pg_name hN hi hx hf) fun v σ H Q q => ?_⟩
  obtain ⟨ρ, F, d, r, e, q⟩ := q
  exact q F _ H (r.setVal e) (Step.refl F ρ σ H).setVal (keeps_set hB)
theorem SGs.nil : SGs X W B [] tNils := by
  refine ⟨pgsImp pgs_nil fun vs σ H Q q => ?_⟩
  obtain ⟨ρ, F, ds, r, e, q⟩ := q
  cases ds with
  | nil =>
    simp only [RepAll] at e
    exact ⟨e, q F σ H r (Step.refl _ _ _ _) (Keeps.refl B σ)⟩
  | cons d ds => exact False.elim q
theorem SGs.cons {e : Expr} {es : List Expr} {t : Tgt} {u : List Dt → Rho → R Rho} (h : SG X W B e t) (h2 : SGs X W B es u) (hs : (assignEach (e :: es) X.env).map (·.2) = assign e X.env :: (assignEach es X.env).map (·.2) := by rfl) : SGs X W B (e :: es) (tConss t u) := by
  refine ⟨pgsImp (pgs_cons h.pg h2.pg hs) fun vs σ H Q q => ?_⟩
  obtain ⟨ρ, F, ds, r, e, q⟩ := q
  cases ds with
  | nil => exact False.elim q
  | cons d ds =>
    simp only [RepAll] at e
    obtain ⟨v, t', rfl, e1, e2⟩ := e
    refine ⟨v, t', rfl, ρ, F, d, r, e1, ?_⟩
    simp only [tConss] at q
    cases et : t d ρ with
    | ok ρ1 =>
      rw [et] at q
      exact fun F1 σ1 H1 r1 s1 k1 => ⟨ρ1, F1, ds, r1, e2.mono s1.le, q.shift s1 k1⟩
    | ex c => rw [et] at q; exact q
    | bad => rw [et] at q; exact q
theorem SG.tup {es : List Expr} {k : Nat} {pos : Pos} {u : List Dt → Rho → R Rho} (n : Nat) (hc : X.calm = true) (h : SGs X W B es u) (hn : (assignEach es X.env).length = n := by rfl) (hst : (assignEach es X.env).findIdx? (·.1) = none := by rfl) : SG X W B (.Tuple es k pos) (tTupT n u) := by
  refine ⟨pgImp (pg_tup hc h.pg hn hst) fun v σ H Q q => ?_⟩
  obtain ⟨ρ, F, d, r, e, q⟩ := q
  cases d <;> try (exact False.elim q)
  rename_i ds
  simp only [Rep] at e
  obtain ⟨a, xs, rfl, h1, h2, h3⟩ := e
  simp only [tTupT] at q
  by_cases c : ds.length = n
  · rw [if_pos c] at q
    exact ⟨a, xs, rfl, (sqT_leH r.le h1).sq, by rw [← h3.length]; exact c, ρ, F, ds, r, h3, q⟩
  · rw [if_neg c] at q; exact False.elim q
theorem SG.lst {es : List Expr} {k : Nat} {pos : Pos} {u : List Dt → Rho → R Rho} (n : Nat) (hc : X.calm = true) (h : SGs X W B es u) (hn : (assignEach es X.env).length = n := by rfl) (hst : (assignEach es X.env).findIdx? (·.1) = none := by rfl) : SG X W B (.Tuple es k pos) (tLstT n u) := by
  refine ⟨pgImp (pg_lst hc h.pg hn hst) fun v σ H Q q => ?_⟩
  obtain ⟨ρ, F, d, r, e, q⟩ := q
  cases d <;> try (exact False.elim q)
  rename_i ds
  simp only [Rep] at e
  obtain ⟨a, xs, rfl, h1, h2, h3⟩ := e
  simp only [tLstT] at q
  by_cases c : ds.length = n
  · rw [if_pos c] at q
    exact ⟨a, xs, rfl, .inl (rd_leH r.le h1), by rw [← h3.length]; exact c, ρ, F, ds, r, h3, q⟩
  · rw [if_neg c] at q; exact False.elim q
end
/-- target = value, the value as data -/
def mAsg (g : Tgt) (m : M EV) : Stm := fun ρ => (m ρ).bind fun a => (forceEV a.1 a.2).bind fun d => (g d.1 d.2).bind fun ρ' => .ok (.nxt, ρ')
section
variable {X : Cx} {W : WX} {B : Nat → Bool}
theorem PostS.toR {K : PySem.W.Frag} {mg : Str → Option Value} {F : Hp} {ρ : Rho} {σ : L2.St} {H : Hp} {r : R Rho} {D : Ends} (h : PostS K mg W B F ρ σ H (r.bind fun ρ' => .ok (.nxt, ρ')) D) : PostR K mg W B F ρ σ H r D.nx := by
  cases r with
  | ok ρ' => exact h
  | ex c => exact h
  | bad => exact h
theorem SS.asg {tg e : Expr} {pos : Pos} {g : Tgt} {m : M EV} (he : SE X W e m) (hg : SG X W B tg g) (hs : swapsWithSole [tg] e pos.line X.env = pure false := by rfl) (hw : swappedStores [tg] e X.env = pure none := by rfl)
    (h1 : (assignEach [tg] X.env).map (·.2) = [assign tg X.env] := by rfl) : SS X W B (.Assign [tg] e pos) (mAsg g m) := by
  refine ⟨psImp (ps_asg he.v hg.pg hs hw h1) fun D σ H q => ?_⟩
  obtain ⟨ρ, F, r, q⟩ := q
  refine rdV_bindS r q fun v ρ1 F1 H1 x r1 s1 e1 q => ?_
  obtain ⟨d, l, q⟩ := calm_bindS (calm_force v ρ1) q
  obtain ⟨F2, r2, s2, e2⟩ := force_ok r1 e1 l
  exact ⟨d.2, F2, d.1, r2, e2, (q.shift s2 (Keeps.refl B σ)).toR⟩
/-- a, b = x, y of plain local names -/
def mPar (i j : Nat) (ms : List (M EV)) : Stm := fun ρ => (mArgs ms ρ).bind fun a => (dataOf a.1).bind fun ds => match ds with
  | [d, e] => .ok (.nxt, (a.2.set i (some (.val d))).set j (some (.val e)))
  | _ => .bad
theorem SS.par (i j : Nat) {x y : Str} {a b : Expr} {px py pt : Pos} {kt k2 : Nat} {pt2 pos : Pos} {ma mb : M EV} (hc : X.calm = true) (hN : X.N.Nodup) (ha : SE X W a ma) (hb : SE X W b mb) (hij : i ≠ j := by decide) (hBi : B i = false := by rfl) (hBj : B j = false := by rfl)
    (hi : X.N[i]? = some x := by rfl) (hj : X.N[j]? = some y := by rfl) (hx : X.env.scope.names.lookup x = some .local := by rfl) (hy : X.env.scope.names.lookup y = some .local := by rfl)
    (hw : swappedStores [.Tuple [.Name x px, .Name y py] kt pt] (.Tuple [a, b] k2 pt2) X.env = pure (some [x, y]) := by rfl)
    (hs : swapsWithSole [.Tuple [.Name x px, .Name y py] kt pt] (.Tuple [a, b] k2 pt2) pos.line X.env = pure false := by rfl)
    (h1 : starEach [a, b] X.env = (false, eval a X.env) :: starEach [b] X.env := by rfl) (h2 : starEach [b] X.env = (false, eval b X.env) :: starEach [] X.env := by rfl) :
    SS X W B (.Assign [.Tuple [.Name x px, .Name y py] kt pt] (.Tuple [a, b] k2 pt2) pos) (mPar i j [mForce ma, mForce mb]) := by
  have hA : SA X W [a, b] (mArgs [mForce ma, mForce mb]) := SA.cons ha.force (SA.cons hb.force SA.nil h2) h1
  refine ⟨psImp (ps_par hc hN hi hj hij hx hy hA.pa hw hs) fun D σ H q => ?_⟩
  obtain ⟨ρ, F, r, q⟩ := q
  refine rdG_bindS (rep2 := repSs X.K) r q fun vs ρ1 F1 H1 xs r1 s1 e1 q => ?_
  obtain ⟨ds, l, q⟩ := calm_bindS (calm_dataOf vs) q
  have hr := data_rep e1 l
  match ds, q with
  | [d, e], q =>
    simp only [RepAll] at hr
    obtain ⟨v, t, rfl, hr1, w, t2, rfl, hr2, rfl⟩ := hr
    exact ⟨v, w, rfl, q F1 _ H1 ((r1.setVal hr1).setVal hr2) ((Step.refl F1 ρ1 σ H1).setVal.setVal) ((keeps_set hBi).trans (keeps_set hBj))⟩
  | [], q => exact False.elim q
  | [_], q => exact False.elim q
  | _ :: _ :: _ :: _, q => exact False.elim q
end
end Mv
set_option Elab.async false
set_option linter.all false
set_option maxRecDepth 100000
set_option maxHeartbeats 4000000
namespace Mv
open PySem PySem.Spec PyProof.Rows L2

/-! ### what is walked -/
structure Wk (K : PySem.W.Frag) (F : Hp) (J : It) (ds : List Dt) : Prop where
  sz : ds.length ≤ sizeLine
  go : ∀ (i : Nat) F' H', i < ds.length → LeF F F' → LeH F' H' → J.go i H'
  stop : ∀ F' H', LeF F F' → LeH F' H' → J.stop ds.length H'
  yld : ∀ (i : Nat) F' H' x H'' d, LeF F F' → LeH F' H' → J.yld i H' x H'' → ds[i]? = some d → ∃ F'', LeF F' F'' ∧ (∀ a, F' a = none → F'' a ≠ none → H' a = none) ∧ LeF H' H'' ∧ LeH F'' H'' ∧ Rep K F'' d x
abbrev repI (K : PySem.W.Frag) : Hp → L2.St → List Dt → It → Prop := fun F _ ds J => Wk K F J ds
structure SI (X : Cx) (W : WX) (tg iter : Expr) (m : M (List Dt)) : Prop where
  pi : PI X tg iter (rdG X.K X.mg W (repI X.K) m)
theorem piImp {X : Cx} {tg iter : Expr} {t t' : TI} (h : PI X tg iter t) (i : ∀ σ H R, t' σ H R → t σ H R) : PI X tg iter t' := ⟨fun pins s σ H R I q => h.run pins s σ H R I (i σ H R q)⟩
theorem Wk.still {K : PySem.W.Frag} {F : Hp} {J : It} {ds : List Dt} {xs : List V} (r : RepAll K F ds xs) (z : xs.length ≤ sizeLine) (hgo : ∀ (i : Nat) F' H' x, LeF F F' → LeH F' H' → xs[i]? = some x → J.go i H') (hst : ∀ F' H', LeF F F' → LeH F' H' → J.stop xs.length H')
    (hy : ∀ (i : Nat) F' H' x H'' y, LeF F F' → LeH F' H' → J.yld i H' x H'' → xs[i]? = some y → H'' = H' ∧ x = y) : Wk K F J ds where
  sz := by rw [r.length]; exact z
  go := fun i F' H' h f l => by
    rw [r.length] at h
    exact hgo i F' H' _ f l (List.getElem?_eq_getElem h)
  stop := fun F' H' f l => by rw [r.length]; exact hst F' H' f l
  yld := fun i F' H' x H'' d f l y e => by
    obtain ⟨v, e1, e2⟩ := r.get e
    obtain ⟨rfl, rfl⟩ := hy i F' H' x H'' v f l y e1
    exact ⟨F', LeF.refl _, fun a h h' => absurd h h', LeF.refl _, l, e2.mono f⟩
theorem Wk.list {K : PySem.W.Frag} {F : Hp} {ds : List Dt} {a : Addr} {xs : List V} (h : Rd F a (.lst xs)) (z : xs.length ≤ sizeLine) (r : RepAll K F ds xs) : Wk K F (Itl K a) ds := by
  have sq : ∀ F' H', LeF F F' → LeH F' H' → SqL K H' a xs := fun F' H' f l => .inl (rd_leH l (rd_mono f h))
  exact Wk.still r z (fun i F' H' x f l e => ⟨xs, x, sq F' H' f l, e⟩) (fun F' H' f l => ⟨xs, sq F' H' f l, Nat.le_refl _⟩) fun i F' H' x H'' y f l yl e => ⟨yl.1, Option.some.inj ((yl.2 xs (sq F' H' f l)).symm.trans e)⟩
theorem Wk.tup {K : PySem.W.Frag} {F : Hp} {ds : List Dt} {a : Addr} {xs : List V} (h : TupAt K F ds a xs) (z : xs.length ≤ sizeLine) (r : RepAll K F ds xs) : Wk K F (Itt K a) ds := by
  have sq : ∀ F' H', LeF F F' → LeH F' H' → SqT K H' a xs := fun F' H' f l => (sqT_leH l (sqT_mono f h)).sq
  exact Wk.still r z (fun i F' H' x f l e => ⟨xs, x, sq F' H' f l, e⟩) (fun F' H' f l => ⟨xs, sq F' H' f l, Nat.le_refl _⟩) fun i F' H' x H'' y f l yl e => ⟨yl.1, Option.some.inj ((yl.2 xs (sq F' H' f l)).symm.trans e)⟩
/-- lo, lo + 1, .. -/
def rangeD (lo : Int) (n : Nat) : List Dt := (List.range n).map fun i => .int (lo + (i : Nat))
theorem Wk.range {K : PySem.W.Frag} {F : Hp} {lo : Int} {n : Nat} (z : n ≤ sizeLine) : Wk K F (Itr lo n) (rangeD lo n) := by
  have hl : (rangeD lo n).length = n := by simp [rangeD]
  refine ⟨by rw [hl]; exact z, fun i F' H' h f l => by rw [hl] at h; exact h, fun F' H' f l => by rw [hl]; exact Nat.le_refl _, fun i F' H' x H'' d f l yl e => ?_⟩
  obtain ⟨rfl, rfl⟩ := yl
  refine ⟨F', LeF.refl _, fun a h h' => absurd h h', LeF.refl _, l, ?_⟩
  simp only [rangeD, List.getElem?_map, Option.map_eq_some_iff] at e
  obtain ⟨j, e1, rfl⟩ := e
  have hj : j = i := by
    have := List.getElem?_eq_some_iff.mp e1
    obtain ⟨h1, h2⟩ := this
    rw [List.getElem_range] at h2
    exact h2.symm
  subst hj
  simp only [Rep]
def seqOfD : Dt → R (List Dt)
  | .list ds => .ok ds
  | _ => .bad
def tupOfD : Dt → R (List Dt)
  | .tuple ds => .ok ds
  | _ => .bad
theorem calm_seq (d : Dt) : Calm (seqOfD d) := by cases d <;> first | exact ok_calm | exact bad_calm
theorem calm_tupO (d : Dt) : Calm (tupOfD d) := by cases d <;> first | exact ok_calm | exact bad_calm
def iLst (m : M EV) : M (List Dt) := fun ρ => (m ρ).bind fun a => (forceEV a.1 a.2).bind fun d => (seqOfD d.1).bind fun ds => .ok (ds, d.2)
def iTupM (m : M EV) : M (List Dt) := fun ρ => (m ρ).bind fun a => (forceEV a.1 a.2).bind fun d => (tupOfD d.1).bind fun ds => .ok (ds, d.2)
def iRange1 (m : M EV) : M (List Dt) := fun ρ => (m ρ).bind fun a => (lookEV a.1 a.2).bind fun d => (intD d).bind fun n => guardR (-16777216 ≤ n ∧ n ≤ 16777216) (.ok (rangeD 0 n.toNat, a.2))
def iRange2 (m m2 : M EV) : M (List Dt) := fun ρ => (m ρ).bind fun a => (m2 a.2).bind fun b => (lookEV a.1 b.2).bind fun d => (lookEV b.1 b.2).bind fun e => (intD d).bind fun lo => (intD e).bind fun hi => guardR (-16777216 ≤ lo ∧ lo ≤ 16777216 ∧ -16777216 ≤ hi ∧ hi ≤ 16777216 ∧ (hi - lo).toNat ≤ 16777216) (.ok (rangeD lo (hi - lo).toNat, b.2))
section
variable {X : Cx} {W : WX} {tg : Expr}
theorem guard_bindG {α β : Type} {K : PySem.W.Frag} {mg : Str → Option Value} {rep : Hp → L2.St → α → β → Prop} {F : Hp} {ρ : Rho} {σ : L2.St} {H : Hp} {Q : β → Hp → Prop} {c : Prop} [Decidable c] {r : R (α × Rho)} (h : PostG K mg W rep F ρ σ H (guardR c r) Q) : c ∧ PostG K mg W rep F ρ σ H r Q := by
  unfold guardR at h
  by_cases k : c
  · rw [if_pos k] at h; exact ⟨k, h⟩
  · rw [if_neg k] at h; exact False.elim h
theorem SI.lst {e : Expr} {m : M EV} (h : SE X W e m) : SI X W tg e (iLst m) := by
  refine ⟨piImp (pi_list h.v) fun σ H Rr q => ?_⟩
  obtain ⟨ρ, F, r, q⟩ := q
  refine rdV_bindG (rep := repI X.K) r q fun v ρ1 F1 H1 x r1 s1 e1 q => ?_
  obtain ⟨d, l, q⟩ := calm_bindG (calm_force v ρ1) q
  obtain ⟨F2, r2, s2, e2⟩ := force_ok r1 e1 l
  obtain ⟨d, ρ2⟩ := d
  obtain ⟨ds, l2, q⟩ := calm_bindG (calm_seq d) (q.shift s2)
  cases d <;> try (cases l2; done)
  cases l2
  simp only [Rep] at e2
  obtain ⟨a, xs, rfl, h1, h2, h3⟩ := e2
  exact ⟨a, rfl, ⟨xs, .inl (rd_leH r2.le h1)⟩, q.here r2 (Wk.list h1 h2 h3)⟩
theorem SI.tup {e : Expr} {m : M EV} (h : SE X W e m) : SI X W tg e (iTupM m) := by
  refine ⟨piImp (pi_tup h.v) fun σ H Rr q => ?_⟩
  obtain ⟨ρ, F, r, q⟩ := q
  refine rdV_bindG (rep := repI X.K) r q fun v ρ1 F1 H1 x r1 s1 e1 q => ?_
  obtain ⟨d, l, q⟩ := calm_bindG (calm_force v ρ1) q
  obtain ⟨F2, r2, s2, e2⟩ := force_ok r1 e1 l
  obtain ⟨d, ρ2⟩ := d
  obtain ⟨ds, l2, q⟩ := calm_bindG (calm_tupO d) (q.shift s2)
  cases d <;> try (cases l2; done)
  cases l2
  simp only [Rep] at e2
  obtain ⟨a, xs, rfl, h1, h2, h3⟩ := e2
  exact ⟨a, rfl, ⟨xs, (sqT_leH r2.le h1).sq⟩, q.here r2 (Wk.tup h1 h2 h3)⟩
/-- the signs of a text -/
def signsD (x : Str) : List Dt := x.cps.toList.map fun c => .str ⟨#[c]⟩
theorem Wk.text {K : PySem.W.Frag} {F : Hp} {x : Str} (z : x.length ≤ sizeLine) : Wk K F (Its x) (signsD x) where
  sz := by simp only [signsD, List.length_map, Array.length_toList]; exact z
  go := fun i F' H' h _ _ => by
    have h' : i < x.cps.size := by simpa [signsD] using h
    exact h'
  stop := fun F' H' _ _ => by simp [signsD, Its]
  yld := fun i F' H' v H'' d f le ⟨e, c, ec, ev⟩ ed => by
    subst e; subst ev
    have : d = .str ⟨#[c]⟩ := by
      simp only [signsD, List.getElem?_map, Array.getElem?_toList, ec, Option.map_some, Option.some.injEq] at ed
      exact ed.symm
    subst this
    exact ⟨F', LeF.refl _, fun a h h' => absurd h h', LeF.refl _, le, by simp only [Rep]⟩
def textOfD : Dt → R (List Dt)
  | .str x => guardR (x.length ≤ sizeLine) (.ok (signsD x))
  | _ => .bad
theorem calm_text (d : Dt) : Calm (textOfD d) := by cases d <;> first | exact guard_calm ok_calm | exact bad_calm
def iTextM (m : M EV) : M (List Dt) := fun ρ => (m ρ).bind fun a => (forceEV a.1 a.2).bind fun d => (textOfD d.1).bind fun ds => .ok (ds, d.2)
theorem SI.text {e : Expr} {m : M EV} (h : SE X W e m) : SI X W tg e (iTextM m) := by
  refine ⟨piImp (pi_str h.v) fun σ H Rr q => ?_⟩
  obtain ⟨ρ, F, r, q⟩ := q
  refine rdV_bindG (rep := repI X.K) r q fun v ρ1 F1 H1 x r1 s1 e1 q => ?_
  obtain ⟨d, l, q⟩ := calm_bindG (calm_force v ρ1) q
  obtain ⟨F2, r2, s2, e2⟩ := force_ok r1 e1 l
  obtain ⟨d, ρ2⟩ := d
  obtain ⟨ds, l2, q⟩ := calm_bindG (calm_text d) (q.shift s2)
  cases d <;> try (cases l2; done)
  obtain ⟨z, l2⟩ := guard_ok l2
  cases l2
  simp only [Rep] at e2
  subst e2
  exact ⟨_, rfl, q.here r2 (Wk.text z)⟩
/-- a list, a tuple, a text -/
def seqTupD : Dt → R (List Dt)
  | .list ds => .ok ds
  | .tuple ds => .ok ds
  | .str x => textOfD (.str x)
  | _ => .bad
theorem calm_seqTup (d : Dt) : Calm (seqTupD d) := by cases d <;> first | exact ok_calm | exact bad_calm | exact calm_text (.str _)
def iSeq (m : M EV) : M (List Dt) := fun ρ => (m ρ).bind fun a => (forceEV a.1 a.2).bind fun d => (seqTupD d.1).bind fun ds => .ok (ds, d.2)
theorem PI.or {X : Cx} {tg iter : Expr} {t t' : TI} (h : PI X tg iter t) (h' : PI X tg iter t') : PI X tg iter (fun σ H R => t σ H R ∨ t' σ H R) :=
  ⟨fun pins s σ H R I q => q.elim (h.run pins s σ H R I) (h'.run pins s σ H R I)⟩
theorem SI.seq {e : Expr} {m : M EV} (h : SE X W e m) : SI X W tg e (iSeq m) := by
  refine ⟨piImp (PI.or (SI.lst (tg := tg) h).pi (PI.or (SI.tup (tg := tg) h).pi (SI.text (tg := tg) h).pi)) fun σ H Rr q => ?_⟩
  obtain ⟨ρ, F, r, q⟩ := q
  unfold iSeq at q
  cases e1 : m ρ with
  | ok a =>
    rw [e1] at q
    simp only [R.bind] at q
    cases e2 : forceEV a.1 a.2 with
    | ok d =>
      rw [e2] at q
      simp only [R.bind] at q
      obtain ⟨d, ρ2⟩ := d
      cases d <;> try (exact False.elim q)
      case str x =>
        refine .inr (.inr ⟨ρ, F, r, ?_⟩)
        unfold iTextM
        rw [e1]
        simp only [R.bind]
        rw [e2]
        exact q
      case list ds =>
        refine .inl ⟨ρ, F, r, ?_⟩
        unfold iLst
        rw [e1]
        simp only [R.bind]
        rw [e2]
        exact q
      case tuple ds =>
        refine .inr (.inl ⟨ρ, F, r, ?_⟩)
        unfold iTupM
        rw [e1]
        simp only [R.bind]
        rw [e2]
        exact q
    | ex c => exact absurd e2 (calm_force _ _ c)
    | bad => rw [e2] at q; exact False.elim q
  | ex c =>
    rw [e1] at q
    refine .inl ⟨ρ, F, r, ?_⟩
    unfold iLst
    rw [e1]
    exact q
  | bad => rw [e1] at q; exact False.elim q
theorem intD_ok {d : Dt} {i : Int} (h : intD d = .ok i) : d = .int i := by cases d <;> first | (cases h; done) | (cases h; rfl)
theorem line24 : (sizeLine : Nat) = 16777216 := sizeLine_eq
theorem SI.range1 {e : Expr} {p pos : Pos} {m : M EV} (hm : X.mg "range" = none) (h : SE X W e m) (hg : Gl X "range" := by rfl) (hs : starEach [e] X.env = [(false, eval e X.env)] := by rfl) : SI X W tg (.Call (.Name "range" p) [e] [] pos) (iRange1 m) := by
  refine ⟨piImp (pi_range1 hg hm (pa_cons h.v pa_nil hs) hs) fun σ H Rr q => ?_⟩
  obtain ⟨ρ, F, r, q⟩ := q
  show rdV X.K X.mg W m σ H fun x H1 => tNil σ H1 fun vs H2 => _
  refine rdV_bindG (rep := repI X.K) r q fun v ρ1 F1 H1 x r1 s1 e1 q => ?_
  obtain ⟨d, l1, q⟩ := look_bindG q
  obtain ⟨n, l2, q⟩ := calm_bindG (calm_intD d) q
  have hd := intD_ok l2
  subst hd
  obtain ⟨c, q⟩ := guard_bindG q
  have hx := look_rep r1 e1 (by rw [look_settle]; exact l1)
  simp only [RepT] at hx
  subst hx
  exact ⟨n, rfl, by omega, by omega, q.here r1 (Wk.range (by rw [line24]; omega))⟩
theorem SI.range2 {e e2 : Expr} {p pos : Pos} {m m2 : M EV} (hm : X.mg "range" = none) (h : SE X W e m) (h2 : SE X W e2 m2) (hg : Gl X "range" := by rfl) (hs : starEach [e, e2] X.env = [(false, eval e X.env), (false, eval e2 X.env)] := by rfl) (hs2 : starEach [e2] X.env = [(false, eval e2 X.env)] := by rfl) :
    SI X W tg (.Call (.Name "range" p) [e, e2] [] pos) (iRange2 m m2) := by
  refine ⟨piImp (pi_range2 hg hm (pa_cons h.v (pa_cons h2.v pa_nil hs2) (by rw [hs, hs2])) hs hs2) fun σ H Rr q => ?_⟩
  obtain ⟨ρ, F, r, q⟩ := q
  show rdV X.K X.mg W m σ H fun x H1 => rdV X.K X.mg W m2 σ H1 fun y H2 => _
  refine rdV_bindG (rep := repI X.K) r q fun v ρ1 F1 H1 x r1 s1 e1 q => ?_
  refine rdV_bindG (rep := repI X.K) r1 q fun v2 ρ2 F2 H2 y r2 s2 e2 q => ?_
  obtain ⟨d, l1, q⟩ := look_bindG q
  obtain ⟨d2, l2, q⟩ := look_bindG q
  obtain ⟨lo, l3, q⟩ := calm_bindG (calm_intD d) q
  obtain ⟨hi, l4, q⟩ := calm_bindG (calm_intD d2) q
  have hd := intD_ok l3
  subst hd
  have hd2 := intD_ok l4
  subst hd2
  obtain ⟨c, q⟩ := guard_bindG q
  have hx := look_rep r2 (e1.mono s2.le) (by rw [look_settle]; exact l1)
  have hy := look_rep r2 e2 (by rw [look_settle]; exact l2)
  simp only [RepT] at hx hy
  subst hx; subst hy
  exact ⟨lo, hi, rfl, by omega, q.here r2 (Wk.range (by rw [line24]; omega))⟩
end

/-! ### for -/
def forLoop (g : Tgt) (body : Stm) : List Dt → Stm
  | [] => fun ρ => .ok (.nxt, ρ)
  | d :: ds => fun ρ => (g d ρ).bind fun ρ1 => (body ρ1).bind fun x => match x.1 with
    | .nxt => forLoop g body ds x.2
    | .cnt => forLoop g body ds x.2
    | .brk => .ok (.nxt, x.2)
    | .ret v => .ok (.ret v, x.2)
def mFor (mi : M (List Dt)) (g : Tgt) (body : Stm) : Stm := fun ρ => (mi ρ).bind fun a => forLoop g body a.1 a.2
section
variable {X : Cx} {W : WX} {B : Nat → Bool}
theorem drop_cons {α : Type} {l : List α} {i : Nat} (h : i < l.length) : ∃ d, l[i]? = some d ∧ l.drop i = d :: l.drop (i + 1) := ⟨l[i], List.getElem?_eq_getElem h, List.drop_eq_getElem_cons h⟩
theorem SS.fors {tg iter : Expr} {body : List Stmt} {pos : Pos} {mi : M (List Dt)} {g : Tgt} {b : Stm} (hp : PassesOwn (model X.prog X.w) X.A X.env X.xe) (hc : X.calm = true) (hi : SI X W tg iter mi) (hg : SG X W B tg g) (hb : SSs X W B body b)
    (hs : ∀ x, foldedSetIterable iter X.env x = pure x := by intro _; rfl) : SS X W B (.For tg iter body [] pos) (mFor mi g b) := by
  refine ⟨psImp (ps_for hp hc hi.pi hg.pg hb.ps hs) fun D σ H q => ?_⟩
  obtain ⟨ρ, F, r, q⟩ := q
  refine rdG_bindS (rep2 := repI X.K) r q fun ds ρ1 F1 H1 J r1 s1 wk q => ?_
  refine ⟨fun i m σ' H' => ∃ ρ' F', Rel X.K F' ρ' σ' H' ∧ LeF F1 F' ∧ m = ds.length - i ∧ i ≤ ds.length ∧ PostS X.K X.mg W B F' ρ' σ' H' (forLoop g b (ds.drop i) ρ') D,
    ⟨_, ρ1, F1, r1, LeF.refl _, rfl, Nat.zero_le _, q⟩, fun i m σ' H' hW => ?_⟩
  obtain ⟨ρ', F', r', f', rfl, hi', q'⟩ := hW
  by_cases c : i < ds.length
  · obtain ⟨d, ed, edr⟩ := drop_cons c
    rw [edr] at q'
    refine .inr ⟨wk.go i F' H' c f' r'.le, fun σ2 H2 => ∃ ρ2 F2, Rel X.K F2 ρ2 σ2 H2 ∧ LeF F1 F2 ∧ PostS X.K X.mg W B F2 ρ2 σ2 H2 (forLoop g b (ds.drop (i + 1)) ρ2) D, fun σ2 H2 ⟨ρ2, F2, a, f, z⟩ => ⟨ds.length - (i + 1), by omega, ρ2, F2, a, f, rfl, by omega, z⟩, fun x H'' y => ?_⟩
    obtain ⟨F'', f2, g2, h2, l2, rp⟩ := wk.yld i F' H' x H'' d f' r'.le y ed
    have r2 := r'.grown f2 g2 h2 l2
    have s2 : Step F' ρ' σ' H' F'' ρ' σ' H'' := Step.grown f2 g2 h2
    have q2 := PostS.shift s2 (Keeps.refl B σ') q'
    refine ⟨ρ', F'', d, r2, rp, ?_⟩
    simp only [forLoop] at q2
    cases eg : g d ρ' with
    | bad => rw [eg] at q2; exact q2
    | ex x => rw [eg] at q2; exact q2
    | ok ρ3 =>
      rw [eg] at q2
      simp only [R.bind] at q2
      intro F3 σ3 H3 r3 s3 k3
      have q3 := PostS.shift s3 k3 q2
      refine ⟨ρ3, F3, r3, ?_⟩
      cases eb : b ρ3 with
      | bad => rw [eb] at q3; exact q3
      | ex x => rw [eb] at q3; exact q3
      | ok y4 =>
        obtain ⟨fl, ρ4⟩ := y4
        rw [eb] at q3
        intro F4 σ4 H4 r4 s4 k4
        have ff : LeF F1 F4 := ((f'.trans f2).trans s3.le).trans s4.le
        cases fl with
        | nxt => exact ⟨ρ4, F4, r4, ff, PostS.shift s4 k4 q3⟩
        | cnt => exact ⟨ρ4, F4, r4, ff, PostS.shift s4 k4 q3⟩
        | brk => exact q3 F4 σ4 H4 r4 s4 k4
        | ret v => exact q3 F4 σ4 H4 r4 s4 k4
  · have e : i = ds.length := by omega
    subst e
    rw [List.drop_length] at q'
    exact .inl ⟨wk.stop F' H' f' r'.le, q'.next r'⟩
end
/-! ### while -/
def whileLoop (c : M Bool) (body : Stm) : Nat → Stm
  | 0 => fun _ => .bad
  | n + 1 => fun ρ => (c ρ).bind fun x => if x.1 = true then (body x.2).bind fun y => (match y.1 with
      | .nxt => whileLoop c body n y.2
      | .cnt => whileLoop c body n y.2
      | .brk => .ok (.nxt, y.2)
      | .ret v => .ok (.ret v, y.2))
    else .ok (.nxt, x.2)
section
variable {X : Cx} {W : WX} {B : Nat → Bool}
theorem SS.whiles (n : Nat) {c : Expr} {body : List Stmt} {pos : Pos} {mc : M Bool} {b : Stm} (hp : PassesOwn (model X.prog X.w) X.A X.env X.xe) (hc : ST X W c mc) (hb : SSs X W B body b) : SS X W B (.While c body [] pos) (whileLoop mc b n) := by
  refine ⟨psImp (ps_while hp hc.pt hb.ps) fun D σ H q => ?_⟩
  obtain ⟨ρ, F, r, q⟩ := q
  refine ⟨fun m σ' H' => ∃ ρ' F', Rel X.K F' ρ' σ' H' ∧ PostS X.K X.mg W B F' ρ' σ' H' (whileLoop mc b m ρ') D, ⟨n, ρ, F, r, q⟩, fun m σ' H' hW => ?_⟩
  obtain ⟨ρ', F', r', q'⟩ := hW
  cases m with
  | zero => exact False.elim q'
  | succ m =>
    simp only [whileLoop] at q'
    refine rdG_bindS (rep2 := repB) r' q' fun k ρ2 F2 H2 k' r2 s2 e2 q2 => ?_
    subst e2
    by_cases kk : k = true
    · rw [if_pos kk]
      rw [if_pos kk] at q2
      refine ⟨fun σ3 H3 => ∃ ρ3 F3, Rel X.K F3 ρ3 σ3 H3 ∧ PostS X.K X.mg W B F3 ρ3 σ3 H3 (whileLoop mc b m ρ3) D, fun σ3 H3 ⟨ρ3, F3, a, z⟩ => ⟨m, Nat.lt_succ_self m, ρ3, F3, a, z⟩, ρ2, F2, r2, ?_⟩
      cases eb : b ρ2 with
      | bad => rw [eb] at q2; exact q2
      | ex x => rw [eb] at q2; exact q2
      | ok y4 =>
        obtain ⟨fl, ρ4⟩ := y4
        rw [eb] at q2
        intro F4 σ4 H4 r4 s4 k4
        cases fl with
        | nxt => exact ⟨ρ4, F4, r4, PostS.shift s4 k4 q2⟩
        | cnt => exact ⟨ρ4, F4, r4, PostS.shift s4 k4 q2⟩
        | brk => exact q2 F4 σ4 H4 r4 s4 k4
        | ret v => exact q2 F4 σ4 H4 r4 s4 k4
    · rw [if_neg kk]
      rw [if_neg kk] at q2
      exact q2.next r2
end
/-! ### list comprehensions -/
def wipeR (ρ : Rho) : List Nat → Rho
  | [] => ρ
  | v :: vs => (wipeR ρ vs).set v none
def backR (ρ0 ρ : Rho) : List Nat → Rho
  | [] => ρ
  | v :: vs => match ρ0[v]? with
    | some x => (backR ρ0 ρ vs).set v x
    | none => backR ρ0 ρ vs
theorem wipeR_len (ρ : Rho) : ∀ vs, (wipeR ρ vs).length = ρ.length
  | [] => rfl
  | v :: vs => by simp [wipeR, wipeR_len ρ vs]
theorem backR_len (ρ0 ρ : Rho) : ∀ vs, (backR ρ0 ρ vs).length = ρ.length
  | [] => rfl
  | v :: vs => by
    simp only [backR]
    split <;> simp [backR_len ρ0 ρ vs]
theorem wipeR_in {ρ : Rho} {i : Nat} : ∀ {vs : List Nat}, i ∈ vs → ∀ x, (wipeR ρ vs)[i]? ≠ some (some x)
  | v :: vs, h, x, e => by
    rcases set_some (l := wipeR ρ vs) (i := v) (x := none) e with ⟨rfl, z⟩ | ⟨c, z⟩
    · cases z
    · rcases List.mem_cons.mp h with rfl | h
      · exact c rfl
      · exact wipeR_in h x z
theorem wipeR_out {ρ : Rho} {i : Nat} : ∀ {vs : List Nat}, i ∉ vs → (wipeR ρ vs)[i]? = ρ[i]?
  | [], _ => rfl
  | v :: vs, h => by
    have c : v ≠ i := fun e => h (e ▸ List.mem_cons_self)
    simp only [wipeR]
    rw [List.getElem?_set_ne c]
    exact wipeR_out fun z => h (List.mem_cons_of_mem _ z)
theorem backR_out {ρ0 ρ : Rho} {i : Nat} : ∀ {vs : List Nat}, i ∉ vs → (backR ρ0 ρ vs)[i]? = ρ[i]?
  | [], _ => rfl
  | v :: vs, h => by
    have c : v ≠ i := fun e => h (e ▸ List.mem_cons_self)
    have ih := backR_out (ρ0 := ρ0) (ρ := ρ) (i := i) (vs := vs) fun z => h (List.mem_cons_of_mem _ z)
    simp only [backR]
    split
    · rw [List.getElem?_set_ne c]; exact ih
    · exact ih
theorem backR_in {ρ0 ρ : Rho} {i : Nat} (hl : ρ0.length = ρ.length) : ∀ {vs : List Nat}, i ∈ vs → (backR ρ0 ρ vs)[i]? = ρ0[i]?
  | v :: vs, h => by
    simp only [backR]
    by_cases c : v = i
    · subst c
      split
      · rename_i x e
        have hi : v < (backR ρ0 ρ vs).length := by rw [backR_len, ← hl]; exact (List.getElem?_eq_some_iff.mp e).1
        rw [List.getElem?_set_self hi, e]
      · rename_i e
        rw [e]
        refine List.getElem?_eq_none ?_
        rw [backR_len, ← hl]
        exact List.getElem?_eq_none_iff.mp e
    · have h' : i ∈ vs := (List.mem_cons.mp h).resolve_left fun e => c e.symm
      split
      · rw [List.getElem?_set_ne c]; exact backR_in hl h'
      · exact backR_in hl h'
theorem wipe_in {σ : L2.St} {i : Nat} : ∀ {vs : List Nat}, i ∈ vs → i < σ.length → (wipe σ vs)[i]? = some none
  | v :: vs, h, hi => by
    simp only [wipe]
    by_cases c : v = i
    · subst c; exact List.getElem?_set_self (by rw [wipe_length]; exact hi)
    · rw [List.getElem?_set_ne c]
      exact wipe_in ((List.mem_cons.mp h).resolve_left fun e => c e.symm) hi
theorem wipe_eq {σ σ2 : L2.St} {vs : List Nat} (hl : σ2.length = σ.length) (h : ∀ i, i ∉ vs → σ2[i]? = (wipe σ vs)[i]?) : wipe σ2 vs = wipe σ vs := by
  refine List.ext_getElem? fun i => ?_
  by_cases c : i ∈ vs
  · by_cases k : i < σ.length
    · rw [wipe_in c k, wipe_in c (by rw [hl]; exact k)]
    · rw [List.getElem?_eq_none (by rw [wipe_length]; omega), List.getElem?_eq_none (by rw [wipe_length]; omega)]
  · rw [wipe_out c, h i c]
section
variable {K : PySem.W.Frag} {F F' : Hp} {ρ ρ' : Rho} {σ σ2 : L2.St} {H H' : Hp} {vs : List Nat}
theorem Rel.wipe (r : Rel K F ρ σ H) (vs : List Nat) : Rel K F (wipeR ρ vs) (L2.wipe σ vs) H where
  le := r.le
  len := by rw [wipeR_len, wipe_length]; exact r.len
  val := fun i d e => by
    by_cases c : i ∈ vs
    · exact absurd e (wipeR_in c _)
    · rw [wipeR_out c] at e; rw [wipe_out c]; exact r.val i d e
  own := fun i o e => by
    by_cases c : i ∈ vs
    · exact absurd e (wipeR_in c _)
    · rw [wipeR_out c] at e; rw [wipe_out c]; exact r.own i o e
  dis := fun i j p o o' e e' e1 e2 => by
    by_cases c : i ∈ vs
    · exact absurd e (wipeR_in c _)
    · by_cases c' : j ∈ vs
      · exact absurd e' (wipeR_in c' _)
      · rw [wipeR_out c] at e
        rw [wipeR_out c'] at e'
        rw [wipe_out c] at e1
        rw [wipe_out c'] at e2
        exact r.dis i j p o o' e e' e1 e2
theorem ownS_wipe {a : Addr} (h : OwnS (wipeR ρ vs) (L2.wipe σ vs) a) : ∃ i o, i ∉ vs ∧ ρ[i]? = some (some (.own o)) ∧ σ[i]? = some (some (.ref a)) := by
  obtain ⟨i, o, e, e2⟩ := h
  by_cases c : i ∈ vs
  · exact absurd e (wipeR_in c _)
  · rw [wipeR_out c] at e
    rw [wipe_out c] at e2
    exact ⟨i, o, c, e, e2⟩
/-- behind a block: the outer names are as they were -/
theorem Rel.back (r : Rel K F ρ σ H) (s : Step F (wipeR ρ vs) (L2.wipe σ vs) H F' ρ' σ2 H') (r' : Rel K F' ρ' σ2 H') (hw : L2.wipe σ2 vs = L2.wipe σ vs) : Rel K F' (backR ρ ρ' vs) σ H' ∧ Step F ρ σ H F' (backR ρ ρ' vs) σ H' := by
  have hl2 : σ2.length = σ.length := by
    have := congrArg List.length hw
    rwa [wipe_length, wipe_length] at this
  have hl : ρ.length = ρ'.length := by rw [r.len, r'.len, hl2]
  have so : ∀ i, i ∉ vs → σ2[i]? = σ[i]? := fun i c => by
    have z : (L2.wipe σ2 vs)[i]? = (L2.wipe σ vs)[i]? := by rw [hw]
    rwa [wipe_out c, wipe_out c] at z
  have inn : ∀ i, i ∈ vs → (backR ρ ρ' vs)[i]? = ρ[i]? := fun i c => backR_in hl c
  have out : ∀ i, i ∉ vs → (backR ρ ρ' vs)[i]? = ρ'[i]? := fun i c => backR_out c
  -- an own one that the block does not see
  have hid : ∀ i o p, i ∈ vs → ρ[i]? = some (some (.own o)) → σ[i]? = some (some (.ref p)) → ¬ OwnS (wipeR ρ vs) (L2.wipe σ vs) p := fun i o p c e e2 z => by
    obtain ⟨j, o', cj, ej, ej2⟩ := ownS_wipe z
    have := r.dis i j p o o' e ej e2 ej2
    subst this
    exact cj c
  refine ⟨⟨r'.le, by rw [backR_len, r'.len, hl2], fun i d e => ?_, fun i o e => ?_, fun i j p o o' e e' e1 e2 => ?_⟩, ⟨s.le, fun a h h' => ?_, fun a o h n => s.keep a o h fun z => ?_, s.dom, fun a h => ?_⟩⟩
  · by_cases c : i ∈ vs
    · rw [inn i c] at e
      obtain ⟨v, h1, h2⟩ := r.val i d e
      exact ⟨v, h1, h2.mono s.le⟩
    · rw [out i c] at e
      rw [← so i c]
      exact r'.val i d e
  · by_cases c : i ∈ vs
    · rw [inn i c] at e
      obtain ⟨p, h1, h2, h3⟩ := r.own i o e
      have nh := hid i o p c e h1
      obtain ⟨u, hu, _⟩ := h3.there
      refine ⟨p, h1, ?_, h3.mono s.le ((s.keep p u hu nh).trans hu.symm)⟩
      cases q : F' p with
      | none => rfl
      | some z =>
        rcases s.grow p h2 (by rw [q]; simp) with w | w
        · rw [hu] at w; cases w
        · exact absurd w nh
    · rw [out i c] at e
      rw [← so i c]
      exact r'.own i o e
  · by_cases c : i ∈ vs
    · by_cases c' : j ∈ vs
      · rw [inn i c] at e
        rw [inn j c'] at e'
        exact r.dis i j p o o' e e' e1 e2
      · exfalso
        rw [inn i c] at e
        rw [out j c'] at e'
        have nh := hid i o p c e e1
        obtain ⟨pp, h1, _, h3⟩ := r.own i o e
        rw [e1] at h1; cases h1
        obtain ⟨u, hu, _⟩ := h3.there
        rcases s.owns p ⟨j, o', e', by rw [so j c']; exact e2⟩ with w | w
        · exact nh w
        · rw [hu] at w; cases w
    · by_cases c' : j ∈ vs
      · exfalso
        rw [out i c] at e
        rw [inn j c'] at e'
        have nh := hid j o' p c' e' e2
        obtain ⟨pp, h1, _, h3⟩ := r.own j o' e'
        rw [e2] at h1; cases h1
        obtain ⟨u, hu, _⟩ := h3.there
        rcases s.owns p ⟨i, o, e, by rw [so i c]; exact e1⟩ with w | w
        · exact nh w
        · rw [hu] at w; cases w
      · rw [out i c] at e
        rw [out j c'] at e'
        exact r'.dis i j p o o' e e' (by rw [so i c]; exact e1) (by rw [so j c']; exact e2)
  · rcases s.grow a h h' with w | w
    · exact .inl w
    · obtain ⟨i, o, _, e, e2⟩ := ownS_wipe w
      exact .inr ⟨i, o, e, e2⟩
  · obtain ⟨i, o', _, e, e2⟩ := ownS_wipe z
    exact n ⟨i, o', e, e2⟩
  · obtain ⟨i, o, e, e2⟩ := h
    by_cases c : i ∈ vs
    · rw [inn i c] at e
      exact .inl ⟨i, o, e, e2⟩
    · rw [out i c] at e
      rcases s.owns a ⟨i, o, e, by rw [so i c]; exact e2⟩ with w | w
      · obtain ⟨i, o, _, e, e2⟩ := ownS_wipe w
        exact .inl ⟨i, o, e, e2⟩
      · exact .inr w
/-- an object that nobody tracks for us is changed -/
theorem Rel.other {p : Addr} {u : HO} (r : Rel K F ρ σ H) (hF : F p = none) (hn : ¬ OwnS ρ σ p) : Rel K F ρ σ (upd H p u) where
  le := fun a o e => by
    have c : a ≠ p := ne_of_none e hF
    rcases r.le a o e with z | ⟨m, od, z⟩
    · exact .inl (by rw [upd_ne c]; exact z)
    · exact .inr ⟨m, od, by rw [upd_ne c]; exact z⟩
  len := r.len
  val := r.val
  own := fun i o e => by
    obtain ⟨q, h1, h2, h3⟩ := r.own i o e
    have c : q ≠ p := fun z => hn ⟨i, o, e, z ▸ h1⟩
    exact ⟨q, h1, h2, h3.mono (LeF.refl _) (upd_ne c)⟩
  dis := r.dis
theorem Step.other {F0 : Hp} {ρ0 : Rho} {σ0 : L2.St} {H0 : Hp} {p : Addr} {u : HO} (s : Step F0 ρ0 σ0 H0 F ρ σ H) (h0 : H0 p = none) : Step F0 ρ0 σ0 H0 F ρ σ (upd H p u) where
  le := s.le
  grow := s.grow
  keep := fun a o h n => by
    have c : a ≠ p := fun z => by subst z; rw [h0] at h; cases h
    rw [upd_ne c]; exact s.keep a o h n
  dom := fun a h => by
    have c : a ≠ p := fun z => by subst z; exact h h0
    rw [upd_ne c]; exact s.dom a h
  owns := s.owns
end
def noEx {α : Type} : R α → R α
  | .ex _ => .bad
  | r => r
theorem noEx_ok {α : Type} {r : R α} {a : α} (h : noEx r = .ok a) : r = .ok a := by
  cases r with
  | ok b => exact h
  | ex c => cases h
  | bad => cases h
theorem noEx_calm {α : Type} (r : R α) : Calm (noEx r) := fun c h => by
  cases r <;> cases h
def lcLoop (g : Tgt) (tt : M Bool) (te : M EV) (vs : List Nat) : List Dt → Rho → R (List Dt × Rho)
  | [], ρ => .ok ([], ρ)
  | d :: ds, ρ => (g d (wipeR ρ vs)).bind fun ρ1 => (tt ρ1).bind fun b => if b.1 = true then
      (te b.2).bind fun v => (forceEV v.1 v.2).bind fun y => (lcLoop g tt te vs ds (backR ρ y.2 vs)).bind fun r => .ok (y.1 :: r.1, r.2)
    else lcLoop g tt te vs ds (backR ρ b.2 vs)
def mLc (mi : M (List Dt)) (g : Tgt) (tt : M Bool) (te : M EV) (vs : List Nat) : M EV := fun ρ => (mi ρ).bind fun a => (noEx (lcLoop g tt te vs a.1 a.2)).bind fun r => .ok (.new (.lst r.1), r.2)
theorem bind_ok {α β : Type} {r : R α} {f : α → R β} {b : β} (h : r.bind f = .ok b) : ∃ a, r = .ok a ∧ f a = .ok b := by
  cases r with
  | ok a => exact ⟨a, rfl, h⟩
  | ex c => cases h
  | bad => cases h
abbrev W0 : WX := fun _ _ _ _ => False
abbrev Bvs (vs : List Nat) : Nat → Bool := fun i => !vs.contains i
theorem lc_rd {K : PySem.W.Frag} {mg : Str → Option Value} {W : WX} {mi : M (List Dt)} {g : Tgt} {tt : M Bool} {te : M EV} {vs : List Nat} {σ : L2.St} {H : Hp} {Q : VK} (h : rdE K mg W (mLc mi g tt te vs) σ H Q) :
    tLc (rdG K mg W (repI K) mi) (rdTg K mg W0 (Bvs vs) g) (rdT K mg W0 tt) (rdE K mg W0 (mForce te)) vs σ H Q := by
  obtain ⟨ρ, F, r, q⟩ := h
  refine rdG_bindE (rep2 := repI K) r q fun ds ρ1 F1 H1 J r1 s1 wk q => ?_
  obtain ⟨fin, el, q⟩ := calm_bind (noEx_calm _) q
  have el := noEx_ok el
  intro Dl hD
  have hFD : F1 Dl = none := leH_fresh r1.le hD
  have hnD : ¬ OwnS ρ1 σ Dl := fun z => by
    obtain ⟨_, u, hu⟩ := OwnS.there r1 z
    rw [hD] at hu; cases hu
  refine ⟨fun i m H' => ∃ ρ' F' acc accV, Rel K F' ρ' σ H' ∧ Step F1 ρ1 σ H1 F' ρ' σ H' ∧ F' Dl = none ∧ ¬ OwnS ρ' σ Dl ∧ H' Dl = some (.lst accV) ∧ accV.length ≤ i ∧ RepAll K F' acc accV ∧ m = ds.length - i ∧ i ≤ ds.length ∧
      ∃ fin', lcLoop g tt te vs (ds.drop i) ρ' = .ok fin' ∧ fin.1 = acc ++ fin'.1 ∧ fin.2 = fin'.2,
    ⟨_, ρ1, F1, [], [], r1.other hFD hnD, (Step.refl F1 ρ1 σ H1).other hD, hFD, hnD, upd_same, Nat.zero_le _, RepAll.nil, rfl, Nat.zero_le _, fin, el, rfl, rfl⟩, fun i m H' hW => ?_⟩
  obtain ⟨ρ', F', acc, accV, r', s', fD, nD, eD, lD, rA, rfl, hi, fin', el', ef1, ef2⟩ := hW
  by_cases c : i < ds.length
  · obtain ⟨d, ed, edr⟩ := drop_cons c
    rw [edr] at el'
    simp only [lcLoop] at el'
    obtain ⟨ρ2, eg, el'⟩ := bind_ok el'
    obtain ⟨b, et, el'⟩ := bind_ok el'
    refine .inr ⟨wk.go i F' H' c s'.le r'.le, fun H2 => ∃ ρ' F' acc accV, Rel K F' ρ' σ H2 ∧ Step F1 ρ1 σ H1 F' ρ' σ H2 ∧ F' Dl = none ∧ ¬ OwnS ρ' σ Dl ∧ H2 Dl = some (.lst accV) ∧ accV.length ≤ i + 1 ∧ RepAll K F' acc accV ∧
      ∃ fin', lcLoop g tt te vs (ds.drop (i + 1)) ρ' = .ok fin' ∧ fin.1 = acc ++ fin'.1 ∧ fin.2 = fin'.2, fun H2 ⟨a1, a2, a3, a4, a5, a6, a7, a8, a9, a10, a11, a12⟩ => ⟨ds.length - (i + 1), by omega, a1, a2, a3, a4, a5, a6, a7, a8, a9, a10, a11, rfl, by omega, a12⟩, fun x H'' y => ?_⟩
    obtain ⟨F2, f2, g2, h2, l2, rp⟩ := wk.yld i F' H' x H'' d s'.le r'.le y ed
    have r2 := r'.grown f2 g2 h2 l2
    have s2 : Step F' ρ' σ H' F2 ρ' σ H'' := Step.grown f2 g2 h2
    have rw2 := r2.wipe vs
    refine ⟨wipeR ρ' vs, F2, d, rw2, rp, ?_⟩
    rw [eg]
    intro F3 σ3 H3 r3 s3 k3
    have hw : L2.wipe σ3 vs = L2.wipe σ vs := wipe_eq (by rw [k3.1, wipe_length]) fun i ci => k3.2 i (by
      simp only [Bvs, Bool.not_eq_true', List.contains_eq_mem, decide_eq_false_iff_not]
      exact ci)
    refine ⟨hw, ρ2, F3, r3, ?_⟩
    rw [et]
    intro F4 H4 b' r4 s4 eb
    subst eb
    have s34 := s3.trans s4
    have e4D : H4 Dl = some (.lst accV) := by
      have nw : ¬ OwnS (wipeR ρ' vs) (L2.wipe σ vs) Dl := fun z => by
        obtain ⟨j, o, _, ej, ej2⟩ := ownS_wipe z
        exact nD ⟨j, o, ej, ej2⟩
      exact s34.keep Dl _ (h2 _ _ eD) nw
    have done : ∀ {F5 : Hp} {ρ5 : Rho} {H5 : Hp}, Step F2 (wipeR ρ' vs) (L2.wipe σ vs) H'' F5 ρ5 σ3 H5 → Rel K F5 ρ5 σ3 H5 →
        Rel K F5 (backR ρ' ρ5 vs) σ H5 ∧ Step F1 ρ1 σ H1 F5 (backR ρ' ρ5 vs) σ H5 ∧ F5 Dl = none ∧ ¬ OwnS (backR ρ' ρ5 vs) σ Dl ∧ H5 Dl = some (.lst accV) := fun {F5 ρ5 H5} sx rx => by
      obtain ⟨rb, sb⟩ := Rel.back r2 sx rx hw
      have st := (s'.trans s2).trans sb
      have e5 : H5 Dl = some (.lst accV) := sb.keep Dl _ (h2 _ _ eD) nD
      refine ⟨rb, st, ?_, fun z => ?_, e5⟩
      · cases q5 : F5 Dl with
        | none => rfl
        | some z =>
          exfalso
          cases q2 : F2 Dl with
          | some z2 =>
            have := g2 Dl fD (by rw [q2]; simp)
            rw [eD] at this; cases this
          | none =>
            rcases sb.grow Dl q2 (by rw [q5]; simp) with w | w
            · have := h2 _ _ eD
              rw [this] at w; cases w
            · exact nD w
      · rcases sb.owns Dl z with w | w
        · exact nD w
        · have := h2 _ _ eD
          rw [this] at w; cases w
    by_cases kb : b.1 = true
    · rw [if_pos kb]
      rw [if_pos kb] at el'
      obtain ⟨v, ev, el'⟩ := bind_ok el'
      obtain ⟨yd, ey, el'⟩ := bind_ok el'
      obtain ⟨fin2, el2, ef⟩ := bind_ok el'
      cases ef
      refine ⟨b.2, F4, r4, ?_⟩
      have em : mForce te b.2 = .ok (.val yd.1, yd.2) := by
        unfold mForce
        rw [ev]
        simp only [R.bind]
        rw [ey]
      rw [em]
      intro F5 H5 yv r5 s5 e5
      obtain ⟨rb, st, f5, n5, e5D⟩ := done (s34.trans s5) r5
      have e5' : Rep K F5 yd.1 yv := e5
      refine ⟨accV, e5D, Nat.lt_of_lt_of_le (Nat.lt_of_le_of_lt lD c) wk.sz, _, F5, acc ++ [yd.1], accV ++ [yv], rb.other f5 n5, st.other hD, f5, n5, upd_same, by rw [List.length_append, List.length_singleton]; omega, ?_, fin2, el2, ?_, ef2⟩
      · refine (rA.mono ?_).append (RepAll.cons e5' RepAll.nil)
        exact f2.trans (s34.trans s5).le
      · rw [ef1, List.append_assoc]; rfl
    · rw [if_neg kb]
      rw [if_neg kb] at el'
      obtain ⟨rb, st, f5, n5, e5D⟩ := done s34 r4
      exact ⟨_, F4, acc, accV, rb, st, f5, n5, e5D, by omega, rA.mono (f2.trans s34.le), fin', el', ef1, ef2⟩
  · have e : i = ds.length := by omega
    subst e
    rw [List.drop_length] at el'
    simp only [lcLoop, R.ok.injEq] at el'
    subst el'
    refine .inl ⟨wk.stop F' H' s'.le r'.le, ?_⟩
    have e2 : fin = (acc, ρ') := Prod.ext (by rw [ef1]; exact List.append_nil _) ef2
    subst e2
    exact q F' H' (.ref Dl) r' s' ⟨Dl, rfl, fD, hD, nD, accV, eD, Nat.le_trans lD wk.sz, rA⟩
section
variable {X : Cx} {W : WX} {B : Nat → Bool}
structure STs (X : Cx) (W : WX) (ifs : List Expr) (m : M Bool) : Prop where
  pts : PTs X ifs (rdT X.K X.mg W m)
def mYes : M Bool := fun ρ => .ok (true, ρ)
theorem STs.nil : STs X W [] mYes := ⟨⟨fun pins s σ H Q I q => pts_nil.run pins s σ H Q I (by
  obtain ⟨ρ, F, r, q⟩ := q
  exact PostG.here (rep := repB) q r rfl)⟩⟩
theorem STs.one {c : Expr} {m : M Bool} (h : ST X W c m) : STs X W [c] m := ⟨pts_one h.pt⟩
theorem SE.lc (own : List (Str × Nat)) {elt tg iter : Expr} {ifs : List Expr} {scope : Scope} {pos : Pos} {mi : M (List Dt)} {g : Tgt} {tt : M Bool} {te : M EV} (hc : X.calm = true) (hN : X.N.Nodup) (hi : SI X W tg iter mi) (ok : BlkOk X.N X.env.scope scope own)
    (hg : ∀ (s : Shared) (H : Hp) (C : Addr) (cl : List (Str × Addr)) (fp : List Addr), SG (X.blk s H scope (compEnvC scope cl C X.env) fp) W0 (Bvs (own.map (·.2))) tg g)
    (ht : ∀ (s : Shared) (H : Hp) (C : Addr) (cl : List (Str × Addr)) (fp : List Addr), STs (X.blk s H scope (compEnvC scope cl C X.env) fp) W0 ifs tt)
    (he : ∀ (s : Shared) (H : Hp) (C : Addr) (cl : List (Str × Addr)) (fp : List Addr), SE (X.blk s H scope (compEnvC scope cl C X.env) fp) W0 elt te) (hs : ∀ x, foldedSetIterable iter X.env x = pure x := by intro _; rfl) :
    SE X W (.ListComp elt [⟨tg, iter, ifs, 0⟩] scope pos) (mLc mi g tt te (own.map (·.2))) :=
  ⟨peImp (pe_lc (te := rdE X.K X.mg W0 (mForce te)) (tt := rdT X.K X.mg W0 tt) (g := rdTg X.K X.mg W0 (Bvs (own.map (·.2))) g) (wi := rdG X.K X.mg W (repI X.K) mi) hc hN hi.pi ok (fun s H C cl fp => (hg s H C cl fp).pg) (fun s H C cl fp => (ht s H C cl fp).pts) (fun s H C cl fp => (he s H C cl fp).force.pe) hs) fun _ _ _ h => lc_rd h⟩
/-- name = [..] -/
theorem SS.setLc (i : Nat) (own : List (Str × Nat)) {y : Str} {py : Pos} {elt tg iter : Expr} {ifs : List Expr} {scope : Scope} {pos spos : Pos} {mi : M (List Dt)} {g : Tgt} {tt : M Bool} {te : M EV} (hc : X.calm = true) (hN : X.N.Nodup) (hi : SI X W tg iter mi) (ok : BlkOk X.N X.env.scope scope own)
    (hg : ∀ (s : Shared) (H : Hp) (C : Addr) (cl : List (Str × Addr)) (fp : List Addr), SG (X.blk s H scope (compEnvC scope cl C X.env) fp) W0 (Bvs (own.map (·.2))) tg g)
    (ht : ∀ (s : Shared) (H : Hp) (C : Addr) (cl : List (Str × Addr)) (fp : List Addr), STs (X.blk s H scope (compEnvC scope cl C X.env) fp) W0 ifs tt)
    (he : ∀ (s : Shared) (H : Hp) (C : Addr) (cl : List (Str × Addr)) (fp : List Addr), SE (X.blk s H scope (compEnvC scope cl C X.env) fp) W0 elt te) (hB : B i = false := by rfl) (hy : X.N[i]? = some y := by rfl) (hyl : X.env.scope.names.lookup y = some .local := by rfl)
    (hsw : swapsWith (.ListComp elt [⟨tg, iter, ifs, 0⟩] scope pos) (some (.Name y py)) spos.line X.env = pure true := by exact sw_true rfl rfl rfl (by decide +kernel)) (hs : ∀ x, foldedSetIterable iter X.env x = pure x := by intro _; rfl) :
    SS X W B (.Assign [.Name y py] (.ListComp elt [⟨tg, iter, ifs, 0⟩] scope pos) spos) (mSet i (mLc mi g tt te (own.map (·.2)))) := by
  refine ⟨psImp (ps_setLc (te := rdE X.K X.mg W0 (mForce te)) (tt := rdT X.K X.mg W0 tt) (g := rdTg X.K X.mg W0 (Bvs (own.map (·.2))) g) (wi := rdG X.K X.mg W (repI X.K) mi) hc hN hy hyl hsw hi.pi ok (fun s H C cl fp => (hg s H C cl fp).pg) (fun s H C cl fp => (ht s H C cl fp).pts) (fun s H C cl fp => (he s H C cl fp).force.pe) hs) fun D σ H q => ?_⟩
  obtain ⟨ρ, F, r, q⟩ := q
  refine lc_rd (rdE_bindS r q fun v ρ1 F1 H1 x r1 s1 e1 q0 _ => ?_)
  obtain ⟨ρ2, l, q0⟩ := calm_bindS (calm_store i v ρ1) q0
  obtain ⟨F2, r2, s2⟩ := store_ok' r1 s1 e1 l
  exact q0 F2 _ H1 r2 s2 (keeps_set hB)
end
end Mv
set_option Elab.async false
set_option linter.all false
set_option maxRecDepth 100000
set_option maxHeartbeats 4000000
namespace Mv
open PySem PySem.Spec PyProof.Rows L2

/-! ### promises of defs -/
structure FnG (P : Program) (w : World) (K : PySem.W.Frag) (mg : Str → Option Value) (base : Heap) (CX : CXT) (k : Nat) (f : Addr) (fd : FuncData) (ps : List Str) (sp : Sp) : Prop where
  len : ∀ vs H Q E, sp vs H Q E → vs.length = ps.length
  run : ∀ (A : Around) (outer : List Env) (s : Shared) (H : Hp) (args : Args) (us : List Value) (vs : List V) (Q : VK) (E : XK), Room k A → A.guards = some [] → Env0 P w K mg base A outer s H → BindsTo s fd args (ps.zip us) → Vals vs us → sp vs H Q E →
    codeAny (model P w) A (.call (.ref f) args) (CR CX outer P w H s Q E) s
theorem FnG.mono {P : Program} {w : World} {K : PySem.W.Frag} {mg : Str → Option Value} {base : Heap} {CX : CXT} {j k : Nat} {f : Addr} {fd : FuncData} {ps : List Str} {sp : Sp} (F : FnG P w K mg base CX j f fd ps sp) (h : j ≤ k) :
    FnG P w K mg base CX k f fd ps sp := ⟨F.len, fun A outer s H args us vs Q E hr => F.run A outer s H args us vs Q E (hr.mono h)⟩
theorem fn_ofG {CX : CXT} {P : Program} {w : World} {K : PySem.W.Frag} {mg : Str → Option Value} {base : Heap} {k : Nat} {f : Addr} {name qual : Str} {params : Arguments} {body : List Stmt} {scope : Scope} {dV kV doc pm cdv ct oc : Value} {an od : Option Addr}
    {osl : Array (Option Value)} {N ps : List Str} {sp : Sp} (lk : K.lookup f = some ⟨oc, od, .func (PySem.W.fnOf name qual params body scope dV kV doc pm an cdv ct), osl⟩) (hcd : PySem.W.codeIn K cdv qual = true) (S : FnScope N ps scope)
    (len : ∀ vs H Q E, sp vs H Q E → vs.length = ps.length)
    (hbody : ∀ (A : Around) (outer : List Env) (s : Shared) (H : Hp) (vs : List V) (Q : VK) (E : XK), Room k (A.deeper (envOfC qual scope s.heap.objs.size f cdv)) → A.guards = some [] → sp vs H Q E →
      ∃ t, PSs (cxOf CX P w K mg base N qual scope f cdv A outer s H E) body t ∧ t { nx := fun _ H' => Q .non H', rt := Q } (L2.start N vs) H) :
    FnG P w K mg base CX (k + 1) f (PySem.W.fnOf name qual params body scope dV kV doc pm an cdv ct) ps sp := by
  refine ⟨len, fun A outer s H args us vs Q E hr hgd e0 hb r hsp => ?_⟩
  have hl := len _ _ _ _ hsp
  have KX : K.In s.heap := e0.mod.kin.keeps fun b o e => (e0.bs b o e).1
  have lim : s.heap.NoLimit := e0.mod.nolimit.keeps fun b o e => (e0.bs b o e).1
  have hkind : ∀ y ∈ ps.zip us, scope.names.lookup y.1 = some .local ∨ (scope.names.lookup y.1 = some .cell ∧ ((cellsFrom (s.heap.objs.size + 1) scope.names []).lookup y.1).isSome = true) := fun ⟨n, v⟩ hy => by
    rcases S.par n (List.of_mem_zip hy).1 with q | q
    · exact .inl q
    · exact .inr ⟨q, PySem.W.cellsFrom_some _ _ _ (.inl q)⟩
  refine codeAny_call_function hr.depth (KX _ _ lk) rfl S.co S.gen rfl (PySem.W.codeRec_of KX hcd) (hb _ _ _ _ ?_)
  refine wpAny_newFunctionEnv_cells S.kind hkind fun env he s1 x => ?_
  subst he
  refine ⟨lim.keeps x.toInCall.keep, codeAny_func ?_⟩
  obtain ⟨t, ht, hq⟩ := hbody A outer s H vs Q E (hr.deeper _) hgd hsp
  have I : Inv (cxOf CX P w K mg base N qual scope f cdv A outer s H E) [] (L2.start N vs) H s1 := inv_start S hr.hd e0 hl r x
  refine wpAny_mono (ht.run [] s1 (L2.start N vs) H _ I hq) (fun fl s' hs => ?_) fun e s' hs => hs
  have fin : ∀ {σ' : L2.St} {H' : Hp} {v : V} {u : Value}, Inv (cxOf CX P w K mg base N qual scope f cdv A outer s H E) [] σ' H' s' → RelV v u → Q v H' → CE outer P w H s Q u s' :=
    fun {σ' H' v u} J rv q => ⟨v, H', J.os, J.bare, J.base, J.hok, rv, q⟩
  cases fl with
  | ret u =>
    obtain ⟨v, σ', H', J, rv, q⟩ := hs
    exact fin J rv q
  | next =>
    obtain ⟨σ', H', J, q⟩ := hs
    exact fin (v := V.non) (u := Value.none) J rfl q
  | brk =>
    obtain ⟨_, _, _, q⟩ := hs
    exact False.elim q
  | cont =>
    obtain ⟨_, _, _, q⟩ := hs
    exact False.elim q
theorem run_fnG {X : Cx} {CX : CXT} {k : Nat} {f : Addr} {fd : FuncData} {ps : List Str} {sp : Sp} {E : XK} {pins : List (Addr × Obj)} {σ : L2.St} {H : Hp} {s : Shared} {Q : VK} {us : List Value} {vs : List V} (F : FnG X.prog X.w X.K X.mg X.base CX k f fd ps sp) (hr : Room k X.A) (hgd : X.A.guards = some []) (hb : Binds X.K fd ps []) (hx : PassesAt CX X σ E)
    (I : Inv X pins σ H s) (r : Vals vs us) (h : sp vs H Q E) : wpAny (model X.prog X.w) X.A (call (.ref f) us) (EP X pins σ Q) X.xe s := by
  have hl : us.length = ps.length := by rw [← r.length]; exact F.len _ _ _ _ h
  have hb' := hb s us I.kIn (by rw [List.append_nil]; exact hl)
  rw [List.append_nil] at hb'
  refine wpAny_call (codeAny_mono (F.run X.A X.stack s H ⟨us, []⟩ us vs Q E hr hgd I.env0 hb' r h) fun r s' hq => ?_)
  cases r with
  | error e => exact hx pins H s e s' I hq
  | ok fl =>
    cases fl with
    | ret u => exact I.after hq
    | next => exact False.elim hq
    | brk => exact False.elim hq
    | cont => exact False.elim hq

abbrev Fn := List SV → R (EV × List SV)
abbrev rA (as : List SV) : Rho := as.map some
abbrev sA (vs : List V) : L2.St := vs.map some
/-- a def's promise by its mirror -/
def spG (K : PySem.W.Frag) (mg : Str → Option Value) (np : Nat) (fn : Fn) : Sp := fun vs H Q E => ∃ F as, Rel K F (rA as) (sA vs) H ∧ as.length = np ∧
  match fn as with
  | .ok (v, as') => ∀ F' H' x, Rel K F' (rA as') (sA vs) H' → Step F (rA as) (sA vs) H F' (rA as') (sA vs) H' → RepE K F' (rA as') (sA vs) H H' v x → Q x H'
  | .ex c => ∀ F' H' C, Air F (rA as) (sA vs) H F' H' → mg c = some (.ref C) → E (.ref C) none H'
  | .bad => False
def retV (br : Nat → Bool) (v : EV) (ρ : Rho) : R (EV × Rho) :=
  match v with
  | .slot i => match ρ[i]? with
    | some (some (.own o)) => if br i = true then .ok (.val o.d, ρ.set i (some (.val o.d))) else .ok (.new o, ρ)
    | some (some (.val d)) => .ok (.val d, ρ)
    | _ => .bad
  | v => .ok (v, ρ)
def finA : List SV → Rho → R (List SV)
  | [], _ => .ok []
  | .val d :: as, _ :: ρ => (finA as ρ).bind fun r => .ok (.val d :: r)
  | .own _ :: as, some (.own o) :: ρ => (finA as ρ).bind fun r => .ok (.own o :: r)
  | .own _ :: as, some (.val (.list l)) :: ρ => (finA as ρ).bind fun r => .ok (.val (.list l) :: r)
  | .own _ :: as, some (.val (.dict l)) :: ρ => (finA as ρ).bind fun r => .ok (.val (.dict l) :: r)
  | _, _ => .bad
def ownOk (br : Nat → Bool) : Nat → List SV → Bool
  | _, [] => true
  | j, .own _ :: r => br j && ownOk br (j + 1) r
  | j, .val _ :: r => ownOk br (j + 1) r
def finF (br : Nat → Bool) (as : List SV) (v : EV) (ρ : Rho) : R (EV × List SV) := (retV br v ρ).bind fun y => (finA as y.2).bind fun as' => .ok (y.1, as')
/-- a def: np parameters, n names; br: parameters that may come as variables of the caller's own -/
def mkF (np n : Nat) (br : Nat → Bool) (body : Stm) : Fn := fun as =>
  if as.length = np ∧ ownOk br 0 as = true then (body (rA as ++ List.replicate (n - np) none)).bind fun x => match x.1 with
    | .nxt => finF br as (.val .none) x.2
    | .ret v => finF br as v x.2
    | _ => .bad
  else .bad
theorem ownOk_at {br : Nat → Bool} : ∀ {as : List SV} {k : Nat}, ownOk br k as = true → ∀ (j : Nat) o, as[j]? = some (.own o) → br (k + j) = true
  | [], k, _, j, o, e => by simp at e
  | .own o' :: as, k, h, j, o, e => by
    simp only [ownOk, Bool.and_eq_true] at h
    cases j with
    | zero => exact h.1
    | succ j =>
      have := ownOk_at h.2 j o (by simpa using e)
      rwa [Nat.add_assoc, Nat.add_comm 1 j] at this
  | .val d :: as, k, h, j, o, e => by
    simp only [ownOk] at h
    cases j with
    | zero => simp at e
    | succ j =>
      have := ownOk_at h j o (by simpa using e)
      rwa [Nat.add_assoc, Nat.add_comm 1 j] at this
theorem finA_at : ∀ {as : List SV} {ρ : Rho} {as' : List SV}, finA as ρ = .ok as' → as'.length = as.length ∧ ∀ (j : Nat) s, as[j]? = some s → (∃ d, s = .val d ∧ as'[j]? = some (.val d)) ∨ ((∃ o, s = .own o) ∧ ∃ s', as'[j]? = some s' ∧ ρ[j]? = some (some s') ∧ ((∃ o, s' = .own o) ∨ (∃ l, s' = .val (.list l)) ∨ ∃ l, s' = .val (.dict l)))
  | [], ρ, as', h => by
    simp only [finA, R.ok.injEq] at h
    subst h
    exact ⟨rfl, fun j s e => by simp at e⟩
  | a :: as, ρ, as', h => by
    have go : ∀ {x : SV} {ρ' : Rho} {y : Option SV}, ρ = y :: ρ' → ((finA as ρ').bind fun r => R.ok (x :: r)) = .ok as' → ((∃ d, a = .val d ∧ x = .val d) ∨ ((∃ o, a = .own o) ∧ y = some x ∧ ((∃ o, x = .own o) ∨ (∃ l, x = .val (.list l)) ∨ ∃ l, x = .val (.dict l)))) →
        as'.length = (a :: as).length ∧ ∀ (j : Nat) s, (a :: as)[j]? = some s → (∃ d, s = .val d ∧ as'[j]? = some (.val d)) ∨ ((∃ o, s = .own o) ∧ ∃ s', as'[j]? = some s' ∧ ρ[j]? = some (some s') ∧ ((∃ o, s' = .own o) ∨ (∃ l, s' = .val (.list l)) ∨ ∃ l, s' = .val (.dict l))) := fun {x ρ' y} e hq hx => by
      clear h
      subst e
      obtain ⟨r, h1, h2⟩ := bind_ok hq
      clear hq
      cases h2
      obtain ⟨g1, g2⟩ := finA_at h1
      refine ⟨by simp [g1], fun j s ej => ?_⟩
      cases j with
      | zero =>
        simp only [List.getElem?_cons_zero, Option.some.injEq] at ej
        subst ej
        rcases hx with ⟨d, rfl, rfl⟩ | ⟨ho, rfl, hk⟩
        · exact .inl ⟨d, rfl, rfl⟩
        · exact .inr ⟨ho, x, rfl, rfl, hk⟩
      | succ j => exact g2 j s (by simpa using ej)
    cases a with
    | val d =>
      cases ρ with
      | nil => cases h
      | cons y ρ => exact go rfl h (.inl ⟨d, rfl, rfl⟩)
    | own o =>
      cases ρ with
      | nil => cases h
      | cons y ρ =>
        cases y with
        | none => cases h
        | some s =>
          cases s with
          | own o' => exact go rfl h (.inr ⟨⟨o, rfl⟩, rfl, .inl ⟨o', rfl⟩⟩)
          | val d =>
            cases d <;> try (cases h; done)
            · exact go rfl h (.inr ⟨⟨o, rfl⟩, rfl, .inr (.inl ⟨_, rfl⟩)⟩)
            · exact go rfl h (.inr ⟨⟨o, rfl⟩, rfl, .inr (.inr ⟨_, rfl⟩)⟩)
section
variable {K : PySem.W.Frag} {mg : Str → Option Value}
theorem rA_get {as : List SV} {i : Nat} {s : SV} (h : (rA as)[i]? = some (some s)) : as[i]? = some s := by
  simp only [rA, List.getElem?_map, Option.map_eq_some_iff] at h
  obtain ⟨a, h1, h2⟩ := h
  cases h2; exact h1
theorem rA_of {as : List SV} {i : Nat} {s : SV} (h : as[i]? = some s) : (rA as)[i]? = some (some s) := by simp [rA, h]
theorem pad_get {α : Type} {as : List (Option α)} {n i : Nat} {s : α} (h : (as ++ List.replicate n none)[i]? = some (some s)) : as[i]? = some (some s) := by
  rw [List.getElem?_append] at h
  split at h
  · exact h
  · rw [List.getElem?_replicate] at h
    split at h <;> cases h
theorem pad_of {α : Type} {as : List (Option α)} {n i : Nat} {s : Option α} (h : as[i]? = some s) : (as ++ List.replicate n none)[i]? = some s := by
  have hi := (List.getElem?_eq_some_iff.mp h).1
  rw [List.getElem?_append_left hi]; exact h
/-- the state at a body's start -/
theorem Rel.pad {F H : Hp} {as : List SV} {vs : List V} {n m : Nat} (r : Rel K F (rA as) (sA vs) H) (h : n = m) : Rel K F (rA as ++ List.replicate n none) (sA vs ++ List.replicate m none) H where
  le := r.le
  len := by
    have := r.len
    rw [List.length_append, List.length_append, this, List.length_replicate, List.length_replicate, h]
  val := fun i d e => by
    obtain ⟨v, h1, h2⟩ := r.val i d (pad_get e)
    exact ⟨v, pad_of h1, h2⟩
  own := fun i o e => by
    obtain ⟨p, h1, h2⟩ := r.own i o (pad_get e)
    exact ⟨p, pad_of h1, h2⟩
  dis := fun i j p o o' e e' e1 e2 => r.dis i j p o o' (pad_get e) (pad_get e') (pad_get e1) (pad_get e2)
theorem ownS_pad {as : List SV} {vs : List V} {n m : Nat} {a : Addr} : OwnS (rA as ++ List.replicate n none) (sA vs ++ List.replicate m none) a ↔ OwnS (rA as) (sA vs) a :=
  ⟨fun ⟨i, o, e, e2⟩ => ⟨i, o, pad_get e, pad_get e2⟩, fun ⟨i, o, e, e2⟩ => ⟨i, o, pad_of e, pad_of e2⟩⟩
/-- a body's end -/
theorem fin_rel {br : Nat → Bool} {F H F' H' : Hp} {as as' : List SV} {vs : List V} {ρ' : Rho} {σ' : L2.St} {n m : Nat} (r0 : Rel K F (rA as) (sA vs) H) (hown : ownOk br 0 as = true) (r : Rel K F' ρ' σ' H') (s : Step F (rA as ++ List.replicate n none) (sA vs ++ List.replicate m none) H F' ρ' σ' H')
    (kp : Keeps br (sA vs ++ List.replicate m none) σ') (h : finA as ρ' = .ok as') :
    Rel K F' (rA as') (sA vs) H' ∧ Step F (rA as) (sA vs) H F' (rA as') (sA vs) H' ∧ (∀ a, OwnS (rA as') (sA vs) a → ∃ i o, br i = true ∧ ρ'[i]? = some (some (.own o)) ∧ σ'[i]? = some (some (.ref a))) ∧
      ∀ a, OwnS (rA as) (sA vs) a → F' a ≠ none ∨ ∃ i o, br i = true ∧ ρ'[i]? = some (some (.own o)) ∧ σ'[i]? = some (some (.ref a)) := by
  obtain ⟨hl, hat⟩ := finA_at h
  have hlen : as.length = vs.length := by have := r0.len; simpa using this
  have back : ∀ (j : Nat) s', as'[j]? = some s' → (∃ d, s' = .val d ∧ as[j]? = some (.val d)) ∨ ((∃ o, as[j]? = some (.own o)) ∧ ρ'[j]? = some (some s')) := fun j s' e => by
    have hj : j < as.length := by rw [← hl]; exact (List.getElem?_eq_some_iff.mp e).1
    have ea : as[j]? = some as[j] := List.getElem?_eq_getElem hj
    rcases hat j _ ea with ⟨d, h1, h2⟩ | ⟨⟨o, h1⟩, s2, h2, h3, _⟩
    · rw [e] at h2; cases h2
      exact .inl ⟨d, rfl, by rw [ea, h1]⟩
    · rw [e] at h2; cases h2
      exact .inr ⟨⟨o, by rw [ea, h1]⟩, h3⟩
  have same : ∀ (j : Nat) o, as[j]? = some (.own o) → σ'[j]? = (sA vs)[j]? := fun j o e => by
    have hb := ownOk_at hown j o e
    rw [Nat.zero_add] at hb
    have hj : j < vs.length := by rw [← hlen]; exact (List.getElem?_eq_some_iff.mp e).1
    rw [kp.2 j hb, List.getElem?_append_left (by simpa using hj)]
  have brj : ∀ (j : Nat) o, as[j]? = some (.own o) → br j = true := fun j o e => by
    have hb := ownOk_at hown j o e
    rwa [Nat.zero_add] at hb
  have ow : ∀ a, OwnS (rA as') (sA vs) a → ∃ i o, br i = true ∧ ρ'[i]? = some (some (.own o)) ∧ σ'[i]? = some (some (.ref a)) := fun a ⟨i, o, e, e2⟩ => by
    rcases back i _ (rA_get e) with ⟨d, h1, _⟩ | ⟨⟨o2, h1⟩, h2⟩
    · cases h1
    · exact ⟨i, o, brj i o2 h1, h2, by rw [same i o2 h1]; exact e2⟩
  refine ⟨⟨r.le, by simp [hl, hlen], fun i d e => ?_, fun i o e => ?_, fun i j p o o' e e' e1 e2 => ?_⟩, ⟨s.le, fun a h h' => ?_, fun a o h n => s.keep a o h fun z => n (ownS_pad.mp z), s.dom, fun a h => ?_⟩, ow, fun a ⟨i, o, e, e2⟩ => ?_⟩
  · rcases back i _ (rA_get e) with ⟨d', h1, h2⟩ | ⟨⟨o2, h1⟩, h2⟩
    · cases h1
      obtain ⟨v, g1, g2⟩ := r0.val i _ (rA_of h2)
      exact ⟨v, g1, g2.mono s.le⟩
    · rw [← same i o2 h1]
      exact r.val i d h2
  · rcases back i _ (rA_get e) with ⟨d', h1, h2⟩ | ⟨⟨o2, h1⟩, h2⟩
    · cases h1
    · rw [← same i o2 h1]
      exact r.own i o h2
  · rcases back i _ (rA_get e) with ⟨d', h1, h2⟩ | ⟨⟨o2, h1⟩, h2⟩
    · cases h1
    · rcases back j _ (rA_get e') with ⟨d', h3, h4⟩ | ⟨⟨o3, h3⟩, h4⟩
      · cases h3
      · exact r.dis i j p o o' h2 h4 (by rw [same i o2 h1]; exact e1) (by rw [same j o3 h3]; exact e2)
  · rcases s.grow a h h' with w | w
    · exact .inl w
    · exact .inr (ownS_pad.mp w)
  · obtain ⟨i, o, _, h2, h3⟩ := ow a h
    rcases s.owns a ⟨i, o, h2, h3⟩ with w | w
    · exact .inl (ownS_pad.mp w)
    · exact .inr w
  · have ea := rA_get e
    rcases hat i _ ea with ⟨d, h1, _⟩ | ⟨_, s', h1, h2, hk⟩
    · cases h1
    · have e3 : σ'[i]? = some (some (.ref a)) := by rw [same i o ea]; exact e2
      rcases hk with ⟨o', rfl⟩ | ⟨l, rfl⟩ | ⟨l, rfl⟩
      · exact .inr ⟨i, o', brj i o ea, h2, e3⟩
      · refine .inl ?_
        obtain ⟨v, g1, g2⟩ := r.val i _ h2
        rw [e3] at g1; cases g1
        simp only [Rep] at g2
        obtain ⟨q, xs, z, g3, _⟩ := g2
        cases z
        rcases g3 with g3 | ⟨_, g3⟩ <;> rw [g3] <;> simp
      · refine .inl ?_
        obtain ⟨v, g1, g2⟩ := r.val i _ h2
        rw [e3] at g1; cases g1
        simp only [Rep] at g2
        obtain ⟨q, z, _, ⟨ks, g3, _⟩ | ⟨ks, g3, _⟩⟩ := g2
        · cases z; rw [g3]; simp
        · cases z; rw [g3]; simp
theorem fin_ok {br : Nat → Bool} {F H F' H' : Hp} {as as' : List SV} {vs : List V} {ρ' : Rho} {σ' : L2.St} {n m : Nat} {v v' : EV} {x : V} (r0 : Rel K F (rA as) (sA vs) H) (hown : ownOk br 0 as = true) (r : Rel K F' ρ' σ' H') (s : Step F (rA as ++ List.replicate n none) (sA vs ++ List.replicate m none) H F' ρ' σ' H')
    (kp : Keeps br (sA vs ++ List.replicate m none) σ') (e : RepE K F' ρ' σ' H H' v x) (h : finF br as v ρ' = .ok (v', as')) :
    ∃ F2, Rel K F2 (rA as') (sA vs) H' ∧ Step F (rA as) (sA vs) H F2 (rA as') (sA vs) H' ∧ RepE K F2 (rA as') (sA vs) H H' v' x ∧ ∀ i, v' ≠ .slot i := by
  unfold finF at h
  obtain ⟨⟨w, ρ2⟩, h1, h⟩ := bind_ok h
  obtain ⟨as2, h2, h⟩ := bind_ok h
  cases h
  cases v with
  | val d =>
    cases h1
    obtain ⟨g1, g2, _⟩ := fin_rel r0 hown r s kp h2
    exact ⟨F', g1, g2, e, fun i z => by cases z⟩
  | new o =>
    cases h1
    obtain ⟨g1, g2, g3, _⟩ := fin_rel r0 hown r s kp h2
    obtain ⟨p, e1, e2, e3, e4, e5⟩ := e
    refine ⟨F', g1, g2, ⟨p, e1, e2, e3, fun z => ?_, e5⟩, fun i z => by cases z⟩
    obtain ⟨i, o, _, z2, z3⟩ := g3 p z
    exact e4 ⟨i, o, z2, z3⟩
  | slot i =>
    obtain ⟨⟨o, eo⟩, ex⟩ := e
    simp only [retV, eo] at h1
    by_cases hb : br i = true
    · rw [if_pos hb] at h1
      cases h1
      obtain ⟨F2, r2, s2, e2⟩ := r.fzSlot eo ex
      obtain ⟨g1, g2, _⟩ := fin_rel r0 hown r2 (s.trans s2) kp h2
      exact ⟨F2, g1, g2, e2, fun i z => by cases z⟩
    · rw [if_neg hb] at h1
      cases h1
      obtain ⟨g1, g2, g3, g4⟩ := fin_rel r0 hown r s kp h2
      obtain ⟨p, e1, e2, e3⟩ := r.own i o eo
      rw [ex] at e1; cases e1
      refine ⟨F', g1, g2, ⟨p, rfl, e2, ?_, fun z => ?_, e3⟩, fun i z => by cases z⟩
      · rcases s.owns p ⟨i, o, eo, ex⟩ with w | w
        · exfalso
          rcases g4 p (ownS_pad.mp w) with z | ⟨j, o', z1, z2, z3⟩
          · exact z e2
          · have := r.dis i j p o o' eo z2 ex z3
            subst this
            exact hb z1
        · exact w
      · obtain ⟨j, o', z1, z2, z3⟩ := g3 p z
        have := r.dis i j p o o' eo z2 ex z3
        subst this
        exact hb z1
end
/-- a def of the text keeps the promise of its mirror -/
structure DefG (P : Program) (w : World) (K : PySem.W.Frag) (mg : Str → Option Value) (base : Heap) (k : Nat) (x : Str) (np : Nat) (fn : Fn) : Prop where
  ex : ∃ f fd ps, mg x = some (.ref f) ∧ PySem.W.keepIn K (.ref f) = true ∧ Binds K fd ps [] ∧ FnG P w K mg base (L2N.CX P w) k f fd ps (spG K mg np fn)
theorem DefG.mono {P : Program} {w : World} {K : PySem.W.Frag} {mg : Str → Option Value} {base : Heap} {j k : Nat} {x : Str} {np : Nat} {fn : Fn} (D : DefG P w K mg base j x np fn) (h : j ≤ k) : DefG P w K mg base k x np fn := by
  obtain ⟨f, fd, ps, a, b, c, d⟩ := D.ex
  exact ⟨f, fd, ps, a, b, c, d.mono h⟩
abbrev WOf (E : XK) : WX := fun cls d _ H => E cls d H
abbrev cxD (P : Program) (w : World) (K : PySem.W.Frag) (mg : Str → Option Value) (base : Heap) (N : List Str) (x : Str) (st : Stmt) (f : Addr) (cdv : Value) (A : Around) (outer : List Env) (s : Shared) (H : Hp) (E : XK) : Cx :=
  cxOf (L2N.CX P w) P w K mg base N x (defScope st) f cdv A outer s H E
theorem DefG.mk' {P : Program} {w : World} {K : PySem.W.Frag} {mg : Str → Option Value} {base : Heap} {k : Nat} {x : Str} {st : Stmt} {f : Addr} {fd : FuncData} {N ps : List Str} (np n : Nat) (br : Nat → Bool) (m : Stm) (F : Fun K x x st f fd) (hm : mg x = some (.ref f)) (S : FnScope N ps (defScope st)) (hb : Binds K fd ps [])
    (hnp : ps.length = np) (hn : N.length = n) (hbr : ∀ i, br i = true → i < np)
    (body : ∀ (cdv : Value) (A : Around) (outer : List Env) (s : Shared) (H : Hp) (E : XK), Room k (A.deeper (envOfC x (defScope st) s.heap.objs.size f cdv)) → A.guards = some [] → SSs (cxD P w K mg base N x st f cdv A outer s H E) (WOf E) br (defBody st) m) :
    DefG P w K mg base (k + 1) x np (mkF np n br m) := by
  obtain ⟨oc, od, kV, doc, pm, an, cdv, ct, osl, rfl, lk, hcd⟩ := F.ex
  refine ⟨f, _, ps, hm, F.kp, hb, fn_ofG lk hcd S (fun vs H Q E h => ?_) (fun A outer s H vs Q E hr hgd hsp => ?_)⟩
  · obtain ⟨F, as, r, hl, _⟩ := h
    have := r.len
    simp only [rA, sA, List.length_map] at this
    omega
  · refine ⟨_, (body cdv A outer s H E hr hgd).ps, ?_⟩
    obtain ⟨F, as, r, hl, h⟩ := hsp
    have hvs : as.length = vs.length := by have := r.len; simpa using this
    have hpad : n - np = N.length - vs.length := by omega
    have est : L2.start N vs = sA vs ++ List.replicate (N.length - vs.length) none := rfl
    rw [est]
    refine ⟨rA as ++ List.replicate (n - np) none, F, r.pad hpad, ?_⟩
    unfold mkF at h
    by_cases c : as.length = np ∧ ownOk br 0 as = true
    · rw [if_pos c] at h
      cases e : m (rA as ++ List.replicate (n - np) none) with
      | bad => rw [e] at h; exact h
      | ex x =>
        rw [e] at h
        intro F' H' C σ' _ a hc
        refine h F' H' C ⟨a.le, a.leH, fun y h1 h2 => ?_, fun y o h1 h2 => a.keep y o h1 fun z => h2 (ownS_pad.mp z), a.dom⟩ hc
        rcases a.grow y h1 h2 with w | w
        · exact .inl w
        · exact .inr (ownS_pad.mp w)
      | ok y =>
        obtain ⟨fl, ρ'⟩ := y
        rw [e] at h
        simp only [R.bind] at h
        intro F' σ' H' r' s' k'
        have done : ∀ v y, RepE K F' ρ' σ' H H' v y → (match finF br as v ρ' with
            | .ok (v, as') => ∀ F' H' x, Rel K F' (rA as') (sA vs) H' → Step F (rA as) (sA vs) H F' (rA as') (sA vs) H' → RepE K F' (rA as') (sA vs) H H' v x → Q x H'
            | .ex c => ∀ F' H' C, Air F (rA as) (sA vs) H F' H' → mg c = some (.ref C) → E (.ref C) none H'
            | .bad => False) → Q y H' := fun v y ey hq => by
          cases ef : finF br as v ρ' with
          | ok z =>
            obtain ⟨v', as'⟩ := z
            rw [ef] at hq
            obtain ⟨F2, g1, g2, g3, _⟩ := fin_ok r c.2 r' s' k' ey ef
            exact hq F2 H' y g1 g2 g3
          | ex x =>
            exfalso
            unfold finF at ef
            cases e1 : retV br v ρ' with
            | ok q =>
              rw [e1] at ef
              simp only [R.bind] at ef
              cases e2 : finA as q.2 with
              | ok q2 => rw [e2] at ef; cases ef
              | ex q2 => exact finA_calm as q.2 q2 e2
              | bad => rw [e2] at ef; cases ef
            | ex q => exact retV_calm br v ρ' q e1
            | bad => rw [e1] at ef; cases ef
          | bad => rw [ef] at hq; exact False.elim hq
        cases fl with
        | nxt => exact done (.val .none) .non (by show Rep _ _ _ _; simp only [Rep]) h
        | ret v => exact fun y ey => done v y ey h
        | brk => exact False.elim h
        | cnt => exact False.elim h
    · rw [if_neg c] at h; exact False.elim h
where
  retV_calm (br : Nat → Bool) (v : EV) (ρ : Rho) : Calm (retV br v ρ) := fun c h => by
    cases v with
    | val d => cases h
    | new o => cases h
    | slot i =>
      simp only [retV] at h
      split at h
      · split at h <;> cases h
      · cases h
      · cases h
  finA_calm : ∀ (as : List SV) (ρ : Rho), Calm (finA as ρ)
    | [], ρ => ok_calm
    | a :: as, ρ => fun c h => by
      have go : ∀ {x : SV} {ρ' : Rho}, ((finA as ρ').bind fun r => R.ok (x :: r)) = .ex c → False := fun {x ρ'} h => by
        cases e : finA as ρ' with
        | ok q => rw [e] at h; cases h
        | ex q => exact finA_calm as ρ' q e
        | bad => rw [e] at h; cases h
      cases a with
      | val d =>
        cases ρ with
        | nil => cases h
        | cons y ρ => exact go h
      | own o =>
        cases ρ with
        | nil => cases h
        | cons y ρ =>
          cases y with
          | none => cases h
          | some s =>
            cases s with
            | own o' => exact go h
            | val d =>
              cases d <;> try (cases h; done)
              · exact go h
              · exact go h
end Mv
set_option Elab.async false
set_option linter.all false
set_option maxRecDepth 100000
set_option maxHeartbeats 4000000
namespace Mv
open PySem PySem.Spec PyProof.Rows L2

/-! ### a call of a def -/
def argSV : List EV → List Nat → Rho → R (List SV)
  | [], _, _ => .ok []
  | .val d :: vs, u, ρ => (argSV vs u ρ).bind fun r => .ok (.val d :: r)
  | .slot i :: vs, u, ρ => match ρ[i]? with
    | some (some (.own o)) => if i ∈ u then .bad else (argSV vs (i :: u) ρ).bind fun r => .ok (.own o :: r)
    | some (some (.val d)) => (argSV vs u ρ).bind fun r => .ok (.val d :: r)
    | _ => .bad
  | .new _ :: _, _, _ => .bad
def putBack : List EV → List SV → List SV → Rho → Rho
  | .slot i :: vs, .own _ :: as, s :: ss, ρ => putBack vs as ss (ρ.set i (some s))
  | _ :: vs, _ :: as, _ :: ss, ρ => putBack vs as ss ρ
  | _, _, _, ρ => ρ
def noSlot : EV → R EV
  | .slot _ => .bad
  | v => .ok v
def mCall (fn : Fn) (ms : List (M EV)) : M EV := fun ρ => (mArgs ms ρ).bind fun a => (argSV a.1 [] a.2).bind fun as => (fn as).bind fun r => (noSlot r.1).bind fun v => .ok (v, putBack a.1 as r.2 a.2)
theorem putBack_len : ∀ (vs : List EV) (as ss : List SV) (ρ : Rho), (putBack vs as ss ρ).length = ρ.length
  | [], _, _, ρ => by simp [putBack]
  | .slot i :: vs, .own _ :: as, s :: ss, ρ => by simp only [putBack]; rw [putBack_len vs as ss]; simp
  | .slot i :: vs, .val _ :: as, s :: ss, ρ => by simp only [putBack]; rw [putBack_len vs as ss]
  | .val _ :: vs, _ :: as, s :: ss, ρ => by simp only [putBack]; rw [putBack_len vs as ss]
  | .new _ :: vs, _ :: as, s :: ss, ρ => by simp only [putBack]; rw [putBack_len vs as ss]
  | .slot _ :: _, [], _, ρ => by simp [putBack]
  | .val _ :: _, [], _, ρ => by simp [putBack]
  | .new _ :: _, [], _, ρ => by simp [putBack]
  | .slot _ :: _, .own _ :: _, [], ρ => by simp [putBack]
  | .slot _ :: _, .val _ :: _, [], ρ => by simp [putBack]
  | .val _ :: _, _ :: _, [], ρ => by simp [putBack]
  | .new _ :: _, _ :: _, [], ρ => by simp [putBack]
def PBAt (vs : List EV) (as ss : List SV) (ρ : Rho) (i : Nat) : Prop :=
    ((putBack vs as ss ρ)[i]? = ρ[i]? ∧ ∀ (j : Nat) o, vs[j]? = some (.slot i) → as[j]? = some (.own o) → ρ.length ≤ i) ∨ ∃ (j : Nat) (o : O) (s : SV), vs[j]? = some (.slot i) ∧ as[j]? = some (.own o) ∧ ss[j]? = some s ∧ (putBack vs as ss ρ)[i]? = some (some s)
/-- what putBack leaves at i -/
theorem putBack_at : ∀ (vs : List EV) (as ss : List SV) (ρ : Rho) (i : Nat), as.length = vs.length → ss.length = vs.length → PBAt vs as ss ρ i
  | [], _, _, ρ, i, _, _ => .inl ⟨by simp [putBack], fun j o e => by simp at e⟩
  | v :: vs, [], _, ρ, i, h, _ => by simp at h
  | v :: vs, _ :: _, [], ρ, i, _, h => by simp at h
  | v :: vs, a :: as, s :: ss, ρ, i, h, h2 => by
    have h' : as.length = vs.length := by simpa using h
    have h2' : ss.length = vs.length := by simpa using h2
    have skip : putBack (v :: vs) (a :: as) (s :: ss) ρ = putBack vs as ss ρ → (∀ o, v = .slot i → a ≠ .own o) → PBAt (v :: vs) (a :: as) (s :: ss) ρ i := fun e n => by
      have ih := putBack_at vs as ss ρ i h' h2'
      rcases ih with ⟨e1, e2⟩ | ⟨j, o, s', e1, e2, e3, e4⟩
      · refine .inl ⟨by rw [e]; exact e1, fun j o ej ea => ?_⟩
        cases j with
        | zero =>
          simp only [List.getElem?_cons_zero, Option.some.injEq] at ej ea
          exact absurd ea (n o ej)
        | succ j => exact e2 j o (by simpa using ej) (by simpa using ea)
      · exact .inr ⟨j + 1, o, s', by simpa using e1, by simpa using e2, by simpa using e3, by rw [e]; exact e4⟩
    cases v with
    | val d => exact skip (by cases a <;> rfl) fun o z => by cases z
    | new o => exact skip (by cases a <;> rfl) fun o z => by cases z
    | slot k =>
      cases a with
      | val d => exact skip rfl fun o _ z => by cases z
      | own o =>
        have e : putBack (.slot k :: vs) (.own o :: as) (s :: ss) ρ = putBack vs as ss (ρ.set k (some s)) := rfl
        rcases putBack_at vs as ss (ρ.set k (some s)) i h' h2' with ⟨e1, e2⟩ | ⟨j, o', s', e1, e2, e3, e4⟩
        · by_cases c : k = i
          · subst c
            by_cases hk : k < ρ.length
            · exact .inr ⟨0, o, s, rfl, rfl, rfl, by rw [e, e1]; exact List.getElem?_set_self hk⟩
            · refine .inl ⟨by rw [e, e1, List.getElem?_eq_none (by simp; omega), List.getElem?_eq_none (by omega)], fun _ _ _ _ => by omega⟩
          · refine .inl ⟨by rw [e, e1, List.getElem?_set_ne c], fun j o ej ea => ?_⟩
            cases j with
            | zero =>
              simp only [List.getElem?_cons_zero, Option.some.injEq, EV.slot.injEq] at ej
              exact absurd ej c
            | succ j => have := e2 j o (by simpa using ej) (by simpa using ea); simpa using this
        · exact .inr ⟨j + 1, o', s', by simpa using e1, by simpa using e2, by simpa using e3, by rw [e]; exact e4⟩
theorem calm_argSV : ∀ (vs : List EV) (u : List Nat) (ρ : Rho), Calm (argSV vs u ρ)
  | [], u, ρ => ok_calm
  | .val d :: vs, u, ρ => fun c h => by
    simp only [argSV] at h
    cases e : argSV vs u ρ with
    | ok q => rw [e] at h; cases h
    | ex q => exact calm_argSV vs u ρ q e
    | bad => rw [e] at h; cases h
  | .slot i :: vs, u, ρ => fun c h => by
    simp only [argSV] at h
    split at h
    · split at h
      · cases h
      · cases e : argSV vs (i :: u) ρ with
        | ok q => rw [e] at h; cases h
        | ex q => exact calm_argSV vs _ ρ q e
        | bad => rw [e] at h; cases h
    · cases e : argSV vs u ρ with
      | ok q => rw [e] at h; cases h
      | ex q => exact calm_argSV vs u ρ q e
      | bad => rw [e] at h; cases h
    · cases h
  | .new _ :: _, u, ρ => bad_calm
section
variable {K : PySem.W.Frag} {F : Hp} {ρ : Rho} {σ : L2.St} {H : Hp}
def ArgAt (K : PySem.W.Frag) (F : Hp) (ρ : Rho) (σ : L2.St) (vs : List EV) (u : List Nat) (as : List SV) (xs : List V) : Prop :=
  as.length = vs.length ∧ xs.length = vs.length ∧
    (∀ (j : Nat) d, as[j]? = some (.val d) → ∃ x, xs[j]? = some x ∧ Rep K F d x) ∧
    (∀ (j : Nat) o, as[j]? = some (.own o) → ∃ i x, vs[j]? = some (.slot i) ∧ i ∉ u ∧ ρ[i]? = some (some (.own o)) ∧ xs[j]? = some x ∧ σ[i]? = some (some x)) ∧
    ∀ (j k : Nat) i o o', as[j]? = some (.own o) → as[k]? = some (.own o') → vs[j]? = some (.slot i) → vs[k]? = some (.slot i) → j = k
/-- the arguments, one by one -/
theorem argSV_at (r : Rel K F ρ σ H) : ∀ {vs : List EV} {u : List Nat} {as : List SV} {xs : List V}, RepSs K F σ vs xs → argSV vs u ρ = .ok as → ArgAt K F ρ σ vs u as xs
  | _, u, as, _, .nil, h => by
    simp only [argSV, R.ok.injEq] at h; subst h
    exact ⟨rfl, rfl, fun j d e => by simp at e, fun j o e => by simp at e, fun j k i o o' e => by simp at e⟩
  | v :: vs, u, as, x :: xs, .cons a b, h => by
    have valc : ∀ d, Rep K F d x → ((argSV vs u ρ).bind fun r => R.ok (SV.val d :: r)) = .ok as → ArgAt K F ρ σ (v :: vs) u as (x :: xs) := fun d rd h => by
      obtain ⟨as', h1, h2⟩ := bind_ok h
      cases h2
      obtain ⟨g1, g2, g3, g4, g5⟩ := argSV_at r b h1
      refine ⟨by simp [g1], by simp [g2], fun j d' e => ?_, fun j o e => ?_, fun j k i o o' ej ek e1 e2 => ?_⟩
      · cases j with
        | zero => simp at e; subst e; exact ⟨x, rfl, rd⟩
        | succ j => exact g3 j d' (by simpa using e)
      · cases j with
        | zero => simp at e
        | succ j => exact g4 j o (by simpa using e)
      · cases j with
        | zero => simp at ej
        | succ j =>
          cases k with
          | zero => simp at ek
          | succ k => rw [g5 j k i o o' (by simpa using ej) (by simpa using ek) (by simpa using e1) (by simpa using e2)]
    cases v with
    | val d => exact valc d a h
    | new o => exact False.elim a
    | slot i =>
      have a' : σ[i]? = some (some x) := a
      simp only [argSV] at h
      split at h
      · rename_i o eo
        split at h
        · cases h
        · rename_i hu
          obtain ⟨as', h1, h2⟩ := bind_ok h
          cases h2
          obtain ⟨g1, g2, g3, g4, g5⟩ := argSV_at r b h1
          refine ⟨by simp [g1], by simp [g2], fun j d' e => ?_, fun j q e => ?_, fun j k i' o1 o2 ej ek e1 e2 => ?_⟩
          · cases j with
            | zero => simp at e
            | succ j => exact g3 j d' (by simpa using e)
          · cases j with
            | zero => simp at e; subst e; exact ⟨i, x, rfl, hu, eo, rfl, a'⟩
            | succ j =>
              obtain ⟨i', y, z1, z2, z3⟩ := g4 j q (by simpa using e)
              exact ⟨i', y, by simpa using z1, fun z => z2 (List.mem_cons_of_mem _ z), by simpa using z3⟩
          · cases j with
            | zero =>
              cases k with
              | zero => rfl
              | succ k =>
                exfalso
                obtain ⟨i2, y, z1, z2, _⟩ := g4 k o2 (by simpa using ek)
                simp at e1 e2
                rw [e2] at z1
                cases z1
                exact z2 (by rw [e1]; exact List.mem_cons_self)
            | succ j =>
              cases k with
              | zero =>
                exfalso
                obtain ⟨i2, y, z1, z2, _⟩ := g4 j o1 (by simpa using ej)
                simp at e1 e2
                rw [e1] at z1
                cases z1
                exact z2 (by rw [e2]; exact List.mem_cons_self)
              | succ k => rw [g5 j k i' o1 o2 (by simpa using ej) (by simpa using ek) (by simpa using e1) (by simpa using e2)]
      · rename_i d ed
        obtain ⟨y, e1, e2⟩ := r.val i d ed
        rw [a'] at e1; cases e1
        exact valc d e2 h
      · cases h
theorem sA_get {xs : List V} {j : Nat} {x : V} (h : xs[j]? = some x) : (sA xs)[j]? = some (some x) := by simp [sA, h]
theorem of_sA {xs : List V} {j : Nat} {x : V} (h : (sA xs)[j]? = some (some x)) : xs[j]? = some x := by
  simp only [sA, List.getElem?_map, Option.map_eq_some_iff] at h
  obtain ⟨a, h1, h2⟩ := h
  cases h2; exact h1
/-- the callee's view -/
theorem Rel.args {vs : List EV} {as : List SV} {xs : List V} (r : Rel K F ρ σ H) (e : RepSs K F σ vs xs) (h : argSV vs [] ρ = .ok as) : Rel K F (rA as) (sA xs) H ∧ ∀ a, OwnS (rA as) (sA xs) a → OwnS ρ σ a := by
  obtain ⟨g1, g2, g3, g4, g5⟩ := argSV_at r e h
  refine ⟨⟨r.le, by simp [g1, g2], fun j d ej => ?_, fun j o ej => ?_, fun j k p o o' ej ek e1 e2 => ?_⟩, fun a ⟨j, o, ej, e2⟩ => ?_⟩
  · obtain ⟨x, h1, h2⟩ := g3 j d (rA_get ej)
    exact ⟨x, sA_get h1, h2⟩
  · obtain ⟨i, x, _, _, h3, h4, h5⟩ := g4 j o (rA_get ej)
    obtain ⟨p, z1, z2, z3⟩ := r.own i o h3
    rw [h5] at z1; cases z1
    exact ⟨p, sA_get h4, z2, z3⟩
  · obtain ⟨i, x, v1, _, h3, h4, h5⟩ := g4 j o (rA_get ej)
    obtain ⟨i', x', v1', _, h3', h4', h5'⟩ := g4 k o' (rA_get ek)
    have q1 := of_sA e1
    have q2 := of_sA e2
    rw [h4] at q1; cases q1
    rw [h4'] at q2; cases q2
    have := r.dis i i' p o o' h3 h3' h5 h5'
    subst this
    exact g5 j k i o o' (rA_get ej) (rA_get ek) v1 v1'
  · obtain ⟨i, x, _, _, h3, h4, h5⟩ := g4 j o (rA_get ej)
    have q1 := of_sA e2
    rw [h4] at q1; cases q1
    exact ⟨i, o, h3, h5⟩
/-- back in the caller -/
theorem Rel.after {vs : List EV} {as as' : List SV} {xs : List V} {F' H' : Hp} (r : Rel K F ρ σ H) (e : RepSs K F σ vs xs) (h : argSV vs [] ρ = .ok as) (r' : Rel K F' (rA as') (sA xs) H') (s : Step F (rA as) (sA xs) H F' (rA as') (sA xs) H') :
    Rel K F' (putBack vs as as' ρ) σ H' ∧ Step F ρ σ H F' (putBack vs as as' ρ) σ H' := by
  obtain ⟨g1, g2, g3, g4, g5⟩ := argSV_at r e h
  obtain ⟨_, hown⟩ := r.args e h
  have hl : as'.length = vs.length := by have := r'.len; simp at this; omega
  have cases_ : ∀ (i : Nat) sv, (putBack vs as as' ρ)[i]? = some (some sv) → (ρ[i]? = some (some sv) ∧ ∀ (j : Nat) o, vs[j]? = some (.slot i) → as[j]? ≠ some (.own o)) ∨
      ∃ (j : Nat) (o : O) (x : V), as[j]? = some (.own o) ∧ ρ[i]? = some (some (.own o)) ∧ as'[j]? = some sv ∧ xs[j]? = some x ∧ σ[i]? = some (some x) := fun i sv ei => by
    rcases putBack_at vs as as' ρ i g1 hl with ⟨e1, e2⟩ | ⟨j, o, s', e1, e2, e3, e4⟩
    · rw [e1] at ei
      refine .inl ⟨ei, fun j o ej ea => ?_⟩
      have := e2 j o ej ea
      have := (List.getElem?_eq_some_iff.mp ei).1
      omega
    · rw [e4] at ei
      cases ei
      obtain ⟨i', x, v1, _, h3, h4, h5⟩ := g4 j o e2
      rw [e1] at v1; cases v1
      exact .inr ⟨j, o, x, e2, h3, e3, h4, h5⟩
  -- an own variable that was not handed over
  have hid : ∀ (i : Nat) o p, ρ[i]? = some (some (.own o)) → σ[i]? = some (some (.ref p)) → (∀ (j : Nat) o, vs[j]? = some (.slot i) → as[j]? ≠ some (.own o)) → ¬ OwnS (rA as) (sA xs) p := fun i o p e1 e2 n ⟨j, o', ej, ej2⟩ => by
    obtain ⟨i', x, v1, _, h3, h4, h5⟩ := g4 j o' (rA_get ej)
    have q1 := of_sA ej2
    rw [h4] at q1; cases q1
    have := r.dis i i' p o o' e1 h3 e2 h5
    subst this
    exact n j o' v1 (rA_get ej)
  have wasown : ∀ (i : Nat) o, (putBack vs as as' ρ)[i]? = some (some (.own o)) → ∃ o', ρ[i]? = some (some (.own o')) := fun i o ei => by
    rcases cases_ i _ ei with ⟨e1, _⟩ | ⟨j, o', x, _, e2, _⟩
    · exact ⟨o, e1⟩
    · exact ⟨o', e2⟩
  refine ⟨⟨r'.le, by rw [putBack_len]; exact r.len, fun i d ei => ?_, fun i o ei => ?_, fun i j p o o' ei ej e1 e2 => ?_⟩, ⟨s.le, fun a h1 h2 => ?_, fun a o h1 n => s.keep a o h1 fun z => n (hown a z), s.dom, fun a ⟨i, o, ei, e2⟩ => ?_⟩⟩
  · rcases cases_ i _ ei with ⟨e1, _⟩ | ⟨j, o', x, _, _, e3, e4, e5⟩
    · obtain ⟨v, z1, z2⟩ := r.val i d e1
      exact ⟨v, z1, z2.mono s.le⟩
    · obtain ⟨v, z1, z2⟩ := r'.val j d (rA_of e3)
      have := of_sA z1
      rw [e4] at this; cases this
      exact ⟨x, e5, z2⟩
  · rcases cases_ i _ ei with ⟨e1, n⟩ | ⟨j, o', x, _, _, e3, e4, e5⟩
    · obtain ⟨p, z1, z2, z3⟩ := r.own i o e1
      have nh := hid i o p e1 z1 n
      obtain ⟨u, hu, _⟩ := z3.there
      refine ⟨p, z1, ?_, z3.mono s.le ((s.keep p u hu nh).trans hu.symm)⟩
      cases q : F' p with
      | none => rfl
      | some z =>
        rcases s.grow p z2 (by rw [q]; simp) with w | w
        · rw [hu] at w; cases w
        · exact absurd w nh
    · obtain ⟨p, z1, z2, z3⟩ := r'.own j o (rA_of e3)
      have := of_sA z1
      rw [e4] at this; cases this
      exact ⟨p, e5, z2, z3⟩
  · obtain ⟨o1, h1⟩ := wasown i o ei
    obtain ⟨o2, h2⟩ := wasown j o' ej
    exact r.dis i j p o1 o2 h1 h2 e1 e2
  · rcases s.grow a h1 h2 with w | w
    · exact .inl w
    · exact .inr (hown a w)
  · obtain ⟨o', h1⟩ := wasown i o ei
    exact .inl ⟨i, o', h1, e2⟩
end
theorem calm_noSlot (v : EV) : Calm (noSlot v) := fun c h => by cases v <;> cases h
section
variable {X : Cx} {W : WX}
theorem call_any {k np : Nat} {x : Str} {fn : Fn} {f : Addr} {fd : FuncData} {ps : List Str} (G : FnG X.prog X.w X.K X.mg X.base (L2N.CX X.prog X.w) k f fd ps (spG X.K X.mg np fn)) (hb : Binds X.K fd ps []) (hr : Room k X.A) (hgd : X.A.guards = some []) (tk : L2N.Takes X W)
    {ρ : Rho} {F : Hp} {σ : L2.St} {H : Hp} {Q : VK} {vs : List EV} {xs : List V} {pins : List (Addr × Obj)} {s : Shared} {us : List Value} (I : Inv X pins σ H s) (rv : Vals xs us) (r : Rel X.K F ρ σ H) (e : RepSs X.K F σ vs xs)
    (q : PostE X.K X.mg W F ρ σ H ((argSV vs [] ρ).bind fun as => (fn as).bind fun r => (noSlot r.1).bind fun v => .ok (v, putBack vs as r.2 ρ)) Q) (hnp : vs.length = np) : wpAny (model X.prog X.w) X.A (call (.ref f) us) (EP X pins σ Q) X.xe s := by
  obtain ⟨as, l1, q⟩ := calm_bind (calm_argSV vs [] ρ) q
  obtain ⟨ra, hown⟩ := r.args e l1
  obtain ⟨g1, _⟩ := argSV_at r e l1
  refine run_fnG G hr hgd hb (L2N.passAt tk σ) I rv ⟨F, as, ra, g1.trans hnp, ?_⟩
  cases ef : fn as with
  | bad => rw [ef] at q; exact q
  | ex c =>
    rw [ef] at q
    intro F' H' C a hc
    refine q F' H' C ⟨a.le, a.leH, fun y h1 h2 => ?_, fun y o h1 n => a.keep y o h1 fun z => n (hown y z), a.dom⟩ hc
    rcases a.grow y h1 h2 with w | w
    · exact .inl w
    · exact .inr (hown y w)
  | ok y =>
    obtain ⟨v, as'⟩ := y
    rw [ef] at q
    simp only [R.bind] at q
    intro F' H' x' r' s' e'
    obtain ⟨r2, s2⟩ := r.after e l1 r' s'
    cases v with
    | slot i => exact False.elim q
    | val d => exact q F' H' x' r2 s2 e'
    | new o =>
      obtain ⟨p, z1, z2, z3, z4, z5⟩ := e'
      refine q F' H' x' r2 s2 ⟨p, z1, z2, z3, fun z => ?_, z5⟩
      rcases s2.owns p z with w | w
      · obtain ⟨_, u, hu⟩ := OwnS.there r w
        rw [z3] at hu; cases hu
      · obtain ⟨i, o', c1, c2⟩ := z
        obtain ⟨p', d1, d2, d3⟩ := r2.own i o' c1
        rw [c2] at d1; cases d1
        -- an own variable of ours stood ahead
        have hs : OwnS (putBack vs as as' ρ) σ p := ⟨i, o', c1, c2⟩
        have := putBack_at vs as as' ρ i g1 (by have := r'.len; have h2 := ra.len; simp at this h2; omega)
        rcases this with ⟨y1, _⟩ | ⟨j, o2, s2', y1, y2, y3, y4⟩
        · rw [y1] at c1
          obtain ⟨_, u, hu⟩ := OwnS.there r ⟨i, o', c1, c2⟩
          rw [z3] at hu; cases hu
        · obtain ⟨_, _, _, h4, _⟩ := argSV_at r e l1
          obtain ⟨i', x2, v1, _, h5, _, h7⟩ := h4 j o2 y2
          rw [y1] at v1; cases v1
          obtain ⟨_, u, hu⟩ := OwnS.there r ⟨i, o2, h5, c2⟩
          rw [z3] at hu; cases hu
theorem SE.call {k np : Nat} {x : Str} {fn : Fn} {p pos : Pos} {e : Expr} {es : List Expr} {ms : List (M EV)} (D : DefG X.prog X.w X.K X.mg X.base k x np fn) (hr : Room k X.A) (hgd : X.A.guards = some []) (tk : L2N.Takes X W) (ha : SA X W (e :: es) (mArgs ms)) (hms : ms.length = np := by rfl)
    (hg : Gl X x := by rfl) (hdb : (x == ("__debug__" : Str)) = false := by decide) (he : starEach (e :: es) X.env = (false, eval e X.env) :: starEach es X.env := by rfl) (hpl : (backTo pos (starEach es X.env)).any (·.1) = false := by rfl) :
    SE X W (.Call (.Name x p) (e :: es) [] pos) (mCall fn ms) := by
  obtain ⟨f, fd, ps, hm, hk, hb, G⟩ := D.ex
  refine ⟨⟨fun pins s σ H Q I h => ?_⟩⟩
  obtain ⟨ρ, F, r, q⟩ := h
  refine wpAny_Call_Name_kw (ld_glob I hg hm ?_ hdb)
  have hlen : ∀ vs ρ', mArgs ms ρ = .ok (vs, ρ') → vs.length = np := fun vs ρ' e => by rw [mArgs_len ms ρ vs ρ' e]; exact hms
  have hrd : rdG X.K X.mg W (repSs X.K) (mArgs ms) σ H fun xs H1 => ∃ ρ1 F1 vs, Rel X.K F1 ρ1 σ H1 ∧ RepSs X.K F1 σ vs xs ∧ vs.length = np ∧ PostE X.K X.mg W F1 ρ1 σ H1 ((argSV vs [] ρ1).bind fun as => (fn as).bind fun r => (noSlot r.1).bind fun v => .ok (v, putBack vs as r.2 ρ1)) Q := by
    refine ⟨ρ, F, r, ?_⟩
    unfold mCall at q
    cases em : mArgs ms ρ with
    | ok y =>
      obtain ⟨vs, ρ1⟩ := y
      rw [em] at q
      intro F1 H1 xs r1 s1 e1
      exact ⟨ρ1, F1, vs, r1, e1, hlen _ _ em, q.shift s1⟩
    | ex c => rw [em] at q; exact q
    | bad => rw [em] at q; exact q
  refine PySem.W.callWith_K (h₀ := X.base) I.ok.mod.kin hk (thn (ha.pa.run pos pins s σ H _ I hrd) fun us s1 ⟨xs, H1, I1, rv, ρ1, F1, vs, r1, e1, hn, q1⟩ => ⟨I1.kIn, ?_⟩) he hpl
  exact call_any (x := x) G hb hr hgd tk I1 rv r1 e1 q1 hn
theorem SE.call0 {k : Nat} {x : Str} {fn : Fn} {p pos : Pos} (D : DefG X.prog X.w X.K X.mg X.base k x 0 fn) (hr : Room k X.A) (hgd : X.A.guards = some []) (tk : L2N.Takes X W)
    (hg : Gl X x := by rfl) (hdb : (x == ("__debug__" : Str)) = false := by decide) : SE X W (.Call (.Name x p) [] [] pos) (mCall fn []) := by
  obtain ⟨f, fd, ps, hm, hk, hb, G⟩ := D.ex
  refine ⟨⟨fun pins s σ H Q I h => ?_⟩⟩
  obtain ⟨ρ, F, r, q⟩ := h
  refine wpAny_Call_Name_kw (ld_glob I hg hm ?_ hdb)
  refine PySem.W.callWith_K0 I.kIn hk ?_
  exact call_any (x := x) G hb hr hgd tk I .nil r .nil q rfl
theorem takesW0 {X : Cx} : L2N.Takes X W0 := fun _ _ ⟨_, _, _, _, _, _, _, _, _, _, _, _, _, _, _, _, w⟩ => w.elim
/-! ### raise -/
def mRaise (c : Str) : Stm := fun _ => .ex c
/-- a class of the program's own whose instances are raised with a text -/
structure ExcOk (X : Cx) (x : Str) : Prop where
  ex : ∃ (C : Addr) (bmB : List Value) (b newId initId : String), ExcBaseFacts b newId initId bmB ∧ PySem.W.excIn X.K C bmB newId = true ∧ X.mg x = some (.ref C) ∧ PySem.W.keepIn X.K (.ref C) = true ∧ Raises X (.ref C)
theorem Air.refl {K : PySem.W.Frag} {F : Hp} {ρ : Rho} {σ : L2.St} {H : Hp} (r : Rel K F ρ σ H) : Air F ρ σ H F H := ⟨LeF.refl _, r.le, fun a h h' => absurd h h', fun _ _ h _ => h, fun _ h => h⟩
theorem SS.raise {B : Nat → Bool} {x m : Str} {j : Nat} {p p2 pos pos2 : Pos} (E : ExcOk X x) (hc : X.calm = true) (tk : L2N.Takes X W) (hg : Gl X x := by rfl) (hdb : (x == ("__debug__" : Str)) = false := by decide) :
    SS X W B (.Raise (some (.Call (.Name x p) [.Constant (.str m) j p2] [] pos)) none pos2) (mRaise x) := by
  obtain ⟨C, bmB, b, newId, initId, hF, hq, gC, kC, hr⟩ := E.ex
  refine ⟨psImp (L2N.ps_raise hc tk (L2N.pmk_own hF hq gC kC hr hg hdb)) fun D σ H q => ?_⟩
  obtain ⟨ρ, F, r, q⟩ := q
  exact q F H C σ (Keeps.refl B σ) (Air.refl r) gC
end
end Mv
set_option Elab.async false
set_option linter.all false
set_option maxRecDepth 100000
set_option maxHeartbeats 4000000
namespace Mv
open PySem PySem.Spec PyProof.Rows L2

/-! ### one's own list is changed -/
def ownL (i : Nat) (ρ : Rho) : R (List Dt) :=
  match ρ[i]? with
  | some (some (.own (.lst ds))) => .ok ds
  | _ => .bad
theorem ownL_ok {i : Nat} {ρ : Rho} {ds : List Dt} (h : ownL i ρ = .ok ds) : ρ[i]? = some (some (.own (.lst ds))) := by
  unfold ownL at h
  split at h
  · rename_i e; cases h; exact e
  · cases h
theorem calm_ownL (i : Nat) (ρ : Rho) : Calm (ownL i ρ) := fun c h => by
  unfold ownL at h
  split at h <;> cases h
def setL (i : Nat) (ds : List Dt) (ρ : Rho) : Rho := ρ.set i (some (.own (.lst ds)))
section
variable {K : PySem.W.Frag} {F : Hp} {ρ : Rho} {σ : L2.St} {H : Hp}
theorem Rel.upd {i : Nat} {o o' : O} {p : Addr} {u : HO} (r : Rel K F ρ σ H) (e : ρ[i]? = some (some (.own o))) (e2 : σ[i]? = some (some (.ref p))) (h : OwnAt K F (L2.upd H p u) p o') :
    Rel K F (ρ.set i (some (.own o'))) σ (L2.upd H p u) ∧ Step F ρ σ H F (ρ.set i (some (.own o'))) σ (L2.upd H p u) := by
  obtain ⟨p', h1, h2, h3⟩ := r.own i o e
  rw [e2] at h1; cases h1
  have was : ∀ (j : Nat) q, (ρ.set i (some (.own o')))[j]? = some (some (.own q)) → ∃ q', ρ[j]? = some (some (.own q')) := fun j q ej => by
    rcases set_some ej with ⟨rfl, _⟩ | ⟨_, z⟩
    · exact ⟨o, e⟩
    · exact ⟨q, z⟩
  obtain ⟨u0, hu0, _⟩ := h3.there
  refine ⟨⟨fun a x ea => ?_, by rw [List.length_set]; exact r.len, fun j d ej => ?_, fun j q ej => ?_, fun j k a q q' ej ek g1 g2 => ?_⟩, ⟨LeF.refl _, fun a z z' => absurd z z', fun a x ea n => ?_, fun a z => ?_, fun a ⟨j, q, ej, g⟩ => ?_⟩⟩
  · have c : a ≠ p := ne_of_none ea h2
    rcases r.le a x ea with z | ⟨m, od, z⟩
    · exact .inl (by rw [upd_ne c]; exact z)
    · exact .inr ⟨m, od, by rw [upd_ne c]; exact z⟩
  · rcases set_some ej with ⟨_, z⟩ | ⟨_, z⟩
    · cases z
    · exact r.val j d z
  · rcases set_some ej with ⟨rfl, z⟩ | ⟨c, z⟩
    · cases z; exact ⟨p, e2, h2, h⟩
    · obtain ⟨b, g1, g2, g3⟩ := r.own j q z
      have nb : b ≠ p := fun y => c (r.dis i j p o q e z e2 (y ▸ g1))
      exact ⟨b, g1, g2, g3.mono (LeF.refl _) (upd_ne nb)⟩
  · obtain ⟨q1, h1⟩ := was j q ej
    obtain ⟨q2, h2⟩ := was k q' ek
    exact r.dis j k a q1 q2 h1 h2 g1 g2
  · have c : a ≠ p := fun z => n ⟨i, o, e, z ▸ e2⟩
    rw [upd_ne c]; exact ea
  · by_cases c : a = p
    · subst c; rw [upd_same]; simp
    · rw [upd_ne c]; exact z
  · obtain ⟨q', z⟩ := was j q ej
    exact .inl ⟨j, q', z, g⟩
end
def dEV : EV → R Dt
  | .val d => .ok d
  | _ => .bad
theorem calm_dEV (v : EV) : Calm (dEV v) := by cases v <;> first | exact ok_calm | exact bad_calm
theorem dEV_ok {v : EV} {d : Dt} (h : dEV v = .ok d) : v = .val d := by cases v <;> first | (cases h; done) | (cases h; rfl)
def mAppend (i : Nat) (m : M EV) : M EV := fun ρ => (ownL i ρ).bind fun _ => (m ρ).bind fun a => (forceEV a.1 a.2).bind fun d => (ownL i d.2).bind fun ds => guardR (ds.length < sizeLine) (.ok (.val .none, setL i (ds ++ [d.1]) d.2))
def mExtend (i : Nat) (m : M EV) : M EV := fun ρ => (ownL i ρ).bind fun _ => (m ρ).bind fun a => (forceEV a.1 a.2).bind fun d => (seqOfD d.1).bind fun es => (ownL i d.2).bind fun ds => guardR (ds.length + es.length ≤ sizeLine) (.ok (.val .none, setL i (ds ++ es) d.2))
def mPop (i : Nat) : M EV := fun ρ => (ownL i ρ).bind fun ds => someR (ds[ds.length - 1]?) fun d => .ok (.val d, setL i ds.dropLast ρ)
def mReverse (i : Nat) : M EV := fun ρ => (ownL i ρ).bind fun ds => .ok (.val .none, setL i ds.reverse ρ)
theorem guard_bindE {K : PySem.W.Frag} {mg : Str → Option Value} {W : WX} {F : Hp} {ρ : Rho} {σ : L2.St} {H : Hp} {Q : VK} {c : Prop} [Decidable c] {r : R (EV × Rho)} (h : PostE K mg W F ρ σ H (guardR c r) Q) : c ∧ PostE K mg W F ρ σ H r Q := by
  unfold guardR at h
  by_cases k : c
  · rw [if_pos k] at h; exact ⟨k, h⟩
  · rw [if_neg k] at h; exact False.elim h
section
variable {X : Cx} {W : WX}
theorem rep_none {K : PySem.W.Frag} {F : Hp} {ρ : Rho} {σ : L2.St} {H0 H : Hp} : RepE K F ρ σ H0 H (.val .none) .non := by
  show Rep K F .none .non
  simp only [Rep]
/-- the receiver, a variable with a list of one's own -/
theorem own_at {K : PySem.W.Frag} {F : Hp} {ρ : Rho} {σ : L2.St} {H : Hp} {i : Nat} {ds : List Dt} (r : Rel K F ρ σ H) (h : ownL i ρ = .ok ds) : ∃ p xs, σ[i]? = some (some (.ref p)) ∧ H p = some (.lst xs) ∧ xs.length ≤ sizeLine ∧ RepAll K F ds xs := by
  obtain ⟨p, h1, h2, xs, h3, h4, h5⟩ := r.own i _ (ownL_ok h)
  exact ⟨p, xs, h1, h3, h4, h5⟩
theorem SE.append (i : Nat) {x : Str} {e : Expr} {p apos cpos : Pos} {m : M EV} (he : SE X W e m) (hN : X.N[i]? = some x := by rfl) (hv : Vis X.env.scope x := by first | exact Or.inl rfl | exact Or.inr (Or.inl rfl) | exact Or.inr (Or.inr rfl)) (hd : (x == ("__debug__" : Str)) = false := by decide)
    (hcd : (x == ("__classdict__" : Str)) = false := by decide) (hbase : attributeBase (.Name x p) "append" X.env (eval (.Name x p) X.env) = eval (.Name x p) X.env := by rfl)
    (hfew : ((backTo cpos (starEach [e] X.env)).all (fun x => !x.1) && (backToKw cpos (keywordEach [] X.env)).all (fun x => x.1.isSome) && decide ([e].length + ([] : List Keyword).length + (if ([] : List Keyword).isEmpty then 0 else 1) < 30)) = true := by rfl)
    (hline : (apos.endLine == cpos.line) = true := by rfl) (hs : starEach [e] X.env = (false, eval e X.env) :: starEach [] X.env := by rfl) (hplain : (backTo cpos (starEach [] X.env)).any (·.1) = false := by rfl) :
    SE X W (.Call (.Attribute (.Name x p) "append" apos) [e] [] cpos) (mAppend i m) := by
  refine ⟨peImp (pe_bm PySem.F.plainAttrs_list PySem.F.slot_list_append PySem.F.type_list_append mt_append (pe_var hN hv hd hcd) (pa_cons he.v pa_nil hs) hbase hfew hline hs hplain) fun σ H Q q => ?_⟩
  obtain ⟨ρ, F, r, q⟩ := q
  obtain ⟨ds0, l0, q⟩ := calm_bind (calm_ownL i ρ) q
  obtain ⟨p, xs, e1, e2, _, _⟩ := own_at r l0
  refine ⟨.ref p, e1, .inl ⟨rfl, xs, .inl (.inl e2)⟩, ?_⟩
  show rdV X.K X.mg W m σ H fun y H1 => tNil σ H1 fun vs H2 => _
  refine rdV_bind r q fun v ρ1 F1 H1 y r1 s1 ev q => ?_
  obtain ⟨⟨d, ρ2⟩, l1, q⟩ := calm_bind (calm_force v ρ1) q
  obtain ⟨F2, r2, s2, e3⟩ := force_ok r1 ev l1
  obtain ⟨ds, l2, q⟩ := calm_bind (calm_ownL i ρ2) (q.shift s2)
  obtain ⟨c, q⟩ := guard_bindE q
  obtain ⟨p', xs', g1, g2, g3, g4⟩ := own_at r2 l2
  rw [e1] at g1; cases g1
  have gl := g4.length
  obtain ⟨r3, s3⟩ := r2.upd (o' := .lst (ds ++ [d])) (u := .lst (xs' ++ [y])) (ownL_ok l2) e1 ⟨_, upd_same, by rw [List.length_append, List.length_singleton]; omega, g4.append (RepAll.cons e3 RepAll.nil)⟩
  exact ⟨p, xs', y, rfl, rfl, g2, by omega, q _ _ _ r3 s3 rep_none⟩
def rExtR : V → List V → Hp → VK → Prop := fun x vs H Q => ∃ l b xs zs, x = .ref l ∧ vs = [.ref b] ∧ H l = some (.lst xs) ∧ Rd H b (.lst zs) ∧ xs.length + zs.length ≤ sizeLine ∧ Q .non (upd H l (.lst (xs ++ zs)))
theorem mt_extR : MtM X "list.extend" rExtR := by
  intro pins s σ H x vs v us Q I rx rv h
  obtain ⟨l, b, xs, zs, rfl, rfl, hH, hB, hz, q⟩ := h
  cases rx
  obtain ⟨u, rfl, ru⟩ := rv.one
  cases ru
  obtain ⟨z, its, n, r, hl, e⟩ := I.lstM hH
  obtain ⟨z2, its2, n2, r2, e2⟩ := hB.ok I.hok
  have hl2 := r2.length
  have hsz : its.toArray.size + its2.toArray.size ≤ sizeLine := by rw [List.size_toArray, List.size_toArray]; omega
  have hlong : ¬ (!its.toArray.isEmpty && Builtin.List.listTooLong (its.toArray.size + its2.toArray.size)) = true := by
    rw [notLongL hsz, Bool.and_false]
    exact Bool.false_ne_true
  refine call_meets F.slot_list_extend ⟨_, e, rfl⟩ F.entry_list_extend (F.args_list_extend_2 _ _)
    (AutoSeq1.list_extend_list_list_0 l its.toArray n b its2.toArray n2 hlong (by rw [List.size_toArray]; omega) (by omega)) ⟨e, e2, ?_⟩
  refine ⟨.non, _, I.lset (its' := its ++ its2) hH e (by simp) (r.append r2) ?_, rfl, q⟩
  rw [List.length_append]
  omega
theorem seqOfD_ok {d : Dt} {es : List Dt} (h : seqOfD d = .ok es) : d = .list es := by cases d <;> first | (cases h; done) | (cases h; rfl)
theorem SE.extend (i : Nat) {x : Str} {e : Expr} {p apos cpos : Pos} {m : M EV} (he : SE X W e m) (hN : X.N[i]? = some x := by rfl) (hv : Vis X.env.scope x := by first | exact Or.inl rfl | exact Or.inr (Or.inl rfl) | exact Or.inr (Or.inr rfl)) (hd : (x == ("__debug__" : Str)) = false := by decide)
    (hcd : (x == ("__classdict__" : Str)) = false := by decide) (hbase : attributeBase (.Name x p) "extend" X.env (eval (.Name x p) X.env) = eval (.Name x p) X.env := by rfl)
    (hfew : ((backTo cpos (starEach [e] X.env)).all (fun x => !x.1) && (backToKw cpos (keywordEach [] X.env)).all (fun x => x.1.isSome) && decide ([e].length + ([] : List Keyword).length + (if ([] : List Keyword).isEmpty then 0 else 1) < 30)) = true := by rfl)
    (hline : (apos.endLine == cpos.line) = true := by rfl) (hs : starEach [e] X.env = (false, eval e X.env) :: starEach [] X.env := by rfl) (hplain : (backTo cpos (starEach [] X.env)).any (·.1) = false := by rfl) :
    SE X W (.Call (.Attribute (.Name x p) "extend" apos) [e] [] cpos) (mExtend i m) := by
  refine ⟨peImp (pe_bm PySem.F.plainAttrs_list PySem.F.slot_list_extend PySem.F.type_list_extend mt_extR (pe_var hN hv hd hcd) (pa_cons he.v pa_nil hs) hbase hfew hline hs hplain) fun σ H Q q => ?_⟩
  obtain ⟨ρ, F, r, q⟩ := q
  obtain ⟨ds0, l0, q⟩ := calm_bind (calm_ownL i ρ) q
  obtain ⟨p, xs, e1, e2, _, _⟩ := own_at r l0
  refine ⟨.ref p, e1, .inl ⟨rfl, xs, .inl (.inl e2)⟩, ?_⟩
  show rdV X.K X.mg W m σ H fun y H1 => tNil σ H1 fun vs H2 => _
  refine rdV_bind r q fun v ρ1 F1 H1 y r1 s1 ev q => ?_
  obtain ⟨⟨d, ρ2⟩, l1, q⟩ := calm_bind (calm_force v ρ1) q
  obtain ⟨F2, r2, s2, e3⟩ := force_ok r1 ev l1
  obtain ⟨es, l3, q⟩ := calm_bind (calm_seq d) (q.shift s2)
  have hd := seqOfD_ok l3
  subst hd
  obtain ⟨ds, l2, q⟩ := calm_bind (calm_ownL i ρ2) q
  obtain ⟨c, q⟩ := guard_bindE q
  obtain ⟨p', xs', g1, g2, g3, g4⟩ := own_at r2 l2
  rw [e1] at g1; cases g1
  simp only [Rep] at e3
  obtain ⟨b, zs, rfl, b1, b2, b3⟩ := e3
  have gl := g4.length
  have bl := b3.length
  obtain ⟨r3, s3⟩ := r2.upd (o' := .lst (ds ++ es)) (u := .lst (xs' ++ zs)) (ownL_ok l2) e1 ⟨_, upd_same, by rw [List.length_append]; omega, g4.append b3⟩
  exact ⟨p, b, xs', zs, rfl, rfl, g2, rd_leH r2.le b1, by omega, q _ _ _ r3 s3 rep_none⟩
theorem RepAll.dropLast {K : PySem.W.Frag} {F : Hp} {ds : List Dt} {xs : List V} (h : RepAll K F ds xs) : RepAll K F ds.dropLast xs.dropLast := by
  rw [List.dropLast_eq_take, List.dropLast_eq_take, h.length]
  exact h.take _
theorem SE.pop (i : Nat) {x : Str} {p apos cpos : Pos} (hN : X.N[i]? = some x := by rfl) (hv : Vis X.env.scope x := by first | exact Or.inl rfl | exact Or.inr (Or.inl rfl) | exact Or.inr (Or.inr rfl)) (hd : (x == ("__debug__" : Str)) = false := by decide)
    (hcd : (x == ("__classdict__" : Str)) = false := by decide) (hbase : attributeBase (.Name x p) "pop" X.env (eval (.Name x p) X.env) = eval (.Name x p) X.env := by rfl) (hline : (apos.endLine == cpos.line) = true := by rfl) :
    SE X W (.Call (.Attribute (.Name x p) "pop" apos) [] [] cpos) (mPop i) := by
  refine ⟨peImp (pe_bm0 PySem.F.plainAttrs_list PySem.F.slot_list_pop PySem.F.type_list_pop mt_pop (pe_var hN hv hd hcd) hbase hline) fun σ H Q q => ?_⟩
  obtain ⟨ρ, F, r, q⟩ := q
  obtain ⟨ds, l0, q⟩ := calm_bind (calm_ownL i ρ) q
  obtain ⟨p, xs, e1, e2, e3, e4⟩ := own_at r l0
  refine ⟨.ref p, e1, .inl ⟨rfl, xs, .inl (.inl e2)⟩, ?_⟩
  cases ed : ds[ds.length - 1]? with
  | none => rw [ed] at q; exact False.elim q
  | some d =>
    rw [ed] at q
    obtain ⟨v, g1, g2⟩ := e4.get ed
    rw [e4.length] at g1
    have hz : xs.dropLast.length ≤ sizeLine := by rw [List.length_dropLast]; omega
    obtain ⟨r3, s3⟩ := r.upd (o' := .lst ds.dropLast) (u := .lst xs.dropLast) (ownL_ok l0) e1 ⟨_, upd_same, hz, e4.dropLast⟩
    exact ⟨p, xs, v, rfl, rfl, e2, g1, q _ _ _ r3 s3 g2⟩
theorem SE.reverse (i : Nat) {x : Str} {p apos cpos : Pos} (hN : X.N[i]? = some x := by rfl) (hv : Vis X.env.scope x := by first | exact Or.inl rfl | exact Or.inr (Or.inl rfl) | exact Or.inr (Or.inr rfl)) (hd : (x == ("__debug__" : Str)) = false := by decide)
    (hcd : (x == ("__classdict__" : Str)) = false := by decide) (hbase : attributeBase (.Name x p) "reverse" X.env (eval (.Name x p) X.env) = eval (.Name x p) X.env := by rfl) (hline : (apos.endLine == cpos.line) = true := by rfl) :
    SE X W (.Call (.Attribute (.Name x p) "reverse" apos) [] [] cpos) (mReverse i) := by
  refine ⟨peImp (pe_bm0 PySem.F.plainAttrs_list PySem.F.slot_list_reverse PySem.F.type_list_reverse mt_reverse (pe_var hN hv hd hcd) hbase hline) fun σ H Q q => ?_⟩
  obtain ⟨ρ, F, r, q⟩ := q
  obtain ⟨ds, l0, q⟩ := calm_bind (calm_ownL i ρ) q
  obtain ⟨p, xs, e1, e2, e3, e4⟩ := own_at r l0
  refine ⟨.ref p, e1, .inl ⟨rfl, xs, .inl (.inl e2)⟩, ?_⟩
  obtain ⟨r3, s3⟩ := r.upd (o' := .lst ds.reverse) (u := .lst xs.reverse) (ownL_ok l0) e1 ⟨_, upd_same, by rw [List.length_reverse]; exact e3, e4.reverse⟩
  exact ⟨p, xs, rfl, rfl, e2, q _ _ _ r3 s3 rep_none⟩
end
/-! ### x[k] = v, x[k] op= v -/
def tSub (i : Nat) (mk : M EV) : Tgt := fun d ρ => (ownL i ρ).bind fun _ => (mk ρ).bind fun a => (lookEV a.1 a.2).bind fun k => (intD k).bind fun k => (ownL i a.2).bind fun ds => someR (ixN ds.length k) fun j => .ok (setL i (ds.set j d) a.2)
section
variable {X : Cx} {W : WX} {B : Nat → Bool}
theorem calm_bindR {K : PySem.W.Frag} {mg : Str → Option Value} {F : Hp} {ρ : Rho} {σ : L2.St} {H : Hp} {Q : L2.St → Hp → Prop} {γ : Type} {r : R γ} {f : γ → R Rho} (c : Calm r) (h : PostR K mg W B F ρ σ H (r.bind f) Q) : ∃ d, r = .ok d ∧ PostR K mg W B F ρ σ H (f d) Q := by
  cases r with
  | ok d => exact ⟨d, rfl, h⟩
  | ex x => exact absurd rfl (c x)
  | bad => exact False.elim h
theorem rdV_bindR {K : PySem.W.Frag} {mg : Str → Option Value} {F : Hp} {ρ : Rho} {σ : L2.St} {H : Hp} {Q : L2.St → Hp → Prop} {ma : M EV} {f : EV × Rho → R Rho} {Q1 : VK} (r : Rel K F ρ σ H) (h : PostR K mg W B F ρ σ H ((ma ρ).bind f) Q)
    (k : ∀ v ρ1 F1 H1 x, Rel K F1 ρ1 σ H1 → Step F ρ σ H F1 ρ1 σ H1 → RepS K F1 σ (settle v) x → PostR K mg W B F1 ρ1 σ H1 (f (v, ρ1)) Q → Q1 x H1) : rdV K mg W ma σ H Q1 := by
  refine ⟨ρ, F, r, ?_⟩
  cases e : ma ρ with
  | ok p =>
    obtain ⟨v, ρ1⟩ := p
    rw [e] at h
    intro F1 H1 x r1 s1 e1
    exact k v ρ1 F1 H1 x r1 s1 e1 (h.shift s1 (Keeps.refl B σ))
  | ex c => rw [e] at h; exact fun F' H' C a e => h F' H' C σ (Keeps.refl B σ) a e
  | bad => rw [e] at h; exact h
theorem SG.sub (i : Nat) {x : Str} {k : Expr} {p pos : Pos} {mk : M EV} (hk : SE X W k mk) (hN : X.N[i]? = some x := by rfl) (hv : Vis X.env.scope x := by first | exact Or.inl rfl | exact Or.inr (Or.inl rfl) | exact Or.inr (Or.inr rfl)) (hd : (x == ("__debug__" : Str)) = false := by decide)
    (hcd : (x == ("__classdict__" : Str)) = false := by decide)
    (ha : ∀ v, assign (.Subscript (.Name x p) k pos) X.env v = (do
      let ov ← holding [v] (eval (.Name x p) X.env)
      let iv ← holding [v, ov] (eval k X.env)
      standAt pos
      holding [v, ov, iv] (setItem ov iv v)
      release [v, ov, iv] []) := by intro _; rfl) : SG X W B (.Subscript (.Name x p) k pos) (tSub i mk) := by
  refine ⟨pgImp (pg_sub (pe_var hN hv hd hcd) hk.v set_list ha) fun v σ H Q q => ?_⟩
  obtain ⟨ρ, F, d, r, e, q⟩ := q
  obtain ⟨ds0, l0, q⟩ := calm_bindR (calm_ownL i ρ) q
  obtain ⟨p, xs, e1, e2, _, _⟩ := own_at r l0
  refine ⟨.ref p, e1, ?_⟩
  refine rdV_bindR r q fun w ρ1 F1 H1 y r1 s1 ev q => ?_
  obtain ⟨kd, l1, q⟩ := calm_bindR (calm_look w ρ1) q
  obtain ⟨kk, l2, q⟩ := calm_bindR (calm_intD kd) q
  have hkd := intD_ok l2
  subst hkd
  obtain ⟨ds, l3, q⟩ := calm_bindR (calm_ownL i ρ1) q
  obtain ⟨p', xs', g1, g2, g3, g4⟩ := own_at r1 l3
  rw [e1] at g1; cases g1
  cases ej : ixN ds.length kk with
  | none => rw [ej] at q; exact False.elim q
  | some j =>
    rw [ej] at q
    have hx := look_rep r1 ev (by rw [look_settle]; exact l1)
    simp only [RepT] at hx
    subst hx
    obtain ⟨r3, s3⟩ := r1.upd (o' := .lst (ds.set j d)) (u := .lst (xs'.set j v)) (ownL_ok l3) e1 ⟨_, upd_same, by rw [List.length_set]; exact g3, g4.set j (e.mono s1.le)⟩
    exact ⟨p, xs', kk, j, rfl, rfl, g2, by rw [← g4.length]; exact ej, q _ _ _ r3 s3 (Keeps.refl B σ)⟩
theorem getL : PGet X (rIxL X.K) := by
  intro pins s σ H x y v u Q I rx ry h
  obtain ⟨p, xs, i, z, rfl, rfl, hq, he, q⟩ := h
  cases rx
  obtain ⟨t, rfl⟩ := ry
  obtain ⟨its, r, pl, hz⟩ := I.list hq
  obtain ⟨j, h1, h2, h3, h4, h5⟩ := atI_get he
  obtain ⟨w, ew, rw'⟩ := r.get h2
  have hl := r.length
  have hn := line63
  have fin : EP X pins σ Q w s := ⟨z, H, I, rw', q⟩
  by_cases h0 : 0 ≤ i
  · have hj : i.toNat = j := by
      rw [seqIndex_of h0 h5] at h1
      exact Option.some.inj h1
    exact wpAny_getItem_list pl.isList h0 (by omega) (by rw [hj]; simpa using ew) fin
  · have hj : (i + (its.toArray.size : Int)).toNat = j := by
      unfold seqIndex? at h1
      rw [List.size_toArray, ← hl]
      simp only [show i < 0 from by omega, if_true] at h1
      split at h1
      · exact Option.some.inj h1
      · cases h1
    exact wpAny_getItem_list_neg pl.isList (by omega) (by rw [List.size_toArray, ← hl]; omega) (by omega) (by rw [hj]; simpa using ew) fin
def opAddI : Dt → Dt → R EV
  | .int i, .int j => iV (i + j)
  | _, _ => .bad
def opMulI : Dt → Dt → R EV
  | .int i, .int j => guardR (i.natAbs < 2 ^ 64 ∨ j.natAbs < 2 ^ 64) (iV (i * j))
  | _, _ => .bad
theorem calm_AddI : ∀ a b, Calm (opAddI a b) := fun a b => by cases a <;> cases b <;> first | exact ok_calm | exact bad_calm
theorem calm_MulI : ∀ a b, Calm (opMulI a b) := fun a b => by cases a <;> cases b <;> first | exact bad_calm | exact guard_calm ok_calm
theorem i_add : OpR X (inplaceOp .Add) (rd2 X.K opAddI) := okv_int (g := fun i j => i + j) (fun a b v e => by
  cases a <;> cases b <;> first | (cases e; done) | (cases e; exact ⟨_, _, rfl, rfl, rfl⟩)) (fun i j v H Q e q => ⟨i, j, rfl, rfl, q⟩) iop_add
theorem i_sub : OpR X (inplaceOp .Sub) (rd2 X.K opSub) := okv_int (g := fun i j => i - j) (fun a b v e => by
  cases a <;> cases b <;> first | (cases e; done) | (cases e; exact ⟨_, _, rfl, rfl, rfl⟩)) (fun i j v H Q e q => ⟨i, j, rfl, rfl, q⟩) iop_sub
theorem i_or : OpR X (inplaceOp .BitOr) (rd2 X.K opOr) := okv_int (g := fun i j => Builtin.bitOr i j) (fun a b v e => by
  cases a <;> cases b <;> first | (cases e; done) | (cases e; exact ⟨_, _, rfl, rfl, rfl⟩)) (fun i j v H Q e q => ⟨i, j, rfl, rfl, q⟩) iop_or
theorem i_and : OpR X (inplaceOp .BitAnd) (rd2 X.K opAnd) := okv_int (g := fun i j => Builtin.bitAnd i j) (fun a b v e => by
  cases a <;> cases b <;> first | (cases e; done) | (cases e; exact ⟨_, _, rfl, rfl, rfl⟩)) (fun i j v H Q e q => ⟨i, j, rfl, rfl, q⟩) iop_and
theorem i_xor : OpR X (inplaceOp .BitXor) (rd2 X.K opXor) := okv_int (g := fun i j => Builtin.bitXor i j) (fun a b v e => by
  cases a <;> cases b <;> first | (cases e; done) | (cases e; exact ⟨_, _, rfl, rfl, rfl⟩)) (fun i j v H Q e q => ⟨i, j, rfl, rfl, q⟩) iop_xor
theorem i_mul : OpR X (inplaceOp .Mult) (rd2 X.K opMulI) := guard_two (c := fun i j => i.natAbs < 2 ^ 64 ∨ j.natAbs < 2 ^ 64) (g := fun i j => i * j) (fun a b v e => by
  cases a <;> cases b <;> first | (cases e; done) | exact ⟨_, _, rfl, rfl⟩) (fun _ _ => rfl) (fun i j H Q c q => ⟨i, j, rfl, rfl, by rcases c with c | c <;> first | exact .inl (by omega) | exact .inr (by omega) | exact .inl ⟨by omega, by omega⟩ | exact .inr ⟨by omega, by omega⟩, q⟩) iop_mul
/-- x op= e -/
def mAug (i : Nat) (op : Dt → Dt → R EV) (m : M EV) : Stm := fun ρ => (mVar i ρ).bind fun a => (dEV a.1).bind fun d => (m ρ).bind fun b => (lookEV b.1 b.2).bind fun e => (op d e).bind fun v => (dEV v).bind fun z => .ok (.nxt, b.2.set i (some (.val z)))
theorem SS.aug (i : Nat) {x : Str} {e : Expr} {o : Operator} {op : Dt → Dt → R EV} {pos pos' : Pos} {m : M EV} (hN : X.N.Nodup) (he : SE X W e m) (ho : OpR X (inplaceOp o) (rd2 X.K op)) (hc : ∀ a b, Calm (op a b)) (hB : B i = false := by rfl) (hi : X.N[i]? = some x := by rfl) (hx : Loc X.env.scope x := by first | exact Or.inl rfl | exact Or.inr rfl)
    (hf : X.fn x = true ∨ X.env.scope.names.lookup x = some .local := by first | exact .inl rfl | exact .inr rfl) : SS X W B (.AugAssign (.Name x pos') o e pos) (mAug i op m) := by
  refine ⟨psImp (ps_aug (ti := rd2 X.K op) hN hi hx he.v ho hf) fun D σ H q => ?_⟩
  obtain ⟨ρ, F, r, q⟩ := q
  unfold mAug at q
  cases ev : mVar i ρ with
  | bad => rw [ev] at q; exact False.elim q
  | ex c =>
    exfalso
    unfold mVar at ev
    split at ev <;> cases ev
  | ok a =>
    rw [ev] at q
    obtain ⟨d, l0, q⟩ := calm_bindS (r := dEV a.1) (calm_dEV _) q
    have hv := dEV_ok l0
    unfold mVar at ev
    split at ev
    · rename_i d' ed
      cases ev
      cases hv
      obtain ⟨x, e1, e2⟩ := r.val i _ ed
      refine ⟨x, e1, ?_⟩
      refine rdV_bindS r q fun w ρ1 F1 H1 y r1 s1 ew q => ?_
      obtain ⟨e, l1, q⟩ := look_bindS q
      obtain ⟨v, l2, q⟩ := calm_bindS (hc _ e) q
      obtain ⟨z, l3, q⟩ := calm_bindS (calm_dEV v) q
      have hz := dEV_ok l3
      subst hz
      refine ⟨F1, d, e, _, l2, r1.le, (e2.mono s1.le).top r1.le, look_rep r1 ew (by rw [look_settle]; exact l1), fun F' H' z' f g hh l rz => ?_⟩
      have r2 := r1.grown f g hh l
      have s2 : Step F1 ρ1 σ H1 F' ρ1 σ H' := Step.grown f g hh
      exact q F' _ H' (r2.setVal rz) s2.setVal (keeps_set hB)
    · cases ev
      cases hv
    · cases ev
/-- x[k] op= e, x a list of one's own -/
def mAugIx (i : Nat) (mk : M EV) (op : Dt → Dt → R EV) (m : M EV) : Stm := fun ρ => (ownL i ρ).bind fun _ => (mk ρ).bind fun a => (lookEV a.1 a.2).bind fun k => (intD k).bind fun k => (ownL i a.2).bind fun ds => someR (atI ds k) fun d =>
  (m a.2).bind fun b => (lookEV b.1 b.2).bind fun e => (op d e).bind fun v => (dEV v).bind fun z => (ownL i b.2).bind fun ds2 => someR (ixN ds2.length k) fun j => .ok (.nxt, setL i (ds2.set j z) b.2)
theorem SS.augIx (i : Nat) {x : Str} {k e : Expr} {o : Operator} {op : Dt → Dt → R EV} {p pos tpos : Pos} {mk m : M EV} (hk : SE X W k mk) (he : SE X W e m) (ho : OpR X (inplaceOp o) (rd2 X.K op)) (hc : ∀ a b, Calm (op a b)) (hN : X.N[i]? = some x := by rfl) (hv : Vis X.env.scope x := by first | exact Or.inl rfl | exact Or.inr (Or.inl rfl) | exact Or.inr (Or.inr rfl)) (hd : (x == ("__debug__" : Str)) = false := by decide)
    (hcd : (x == ("__classdict__" : Str)) = false := by decide) (ha : ∀ ov iv new, augStore k ov iv new = (do holding [new, ov, iv] (setItem ov iv new); release [new, ov, iv] []; pure .next) := by intros; rfl) : SS X W B (.AugAssign (.Subscript (.Name x p) k tpos) o e pos) (mAugIx i mk op m) := by
  refine ⟨psImp (ps_augS (pe_var hN hv hd hcd) hk.v getL he.v (tip := rd2 X.K op) ho set_list ha) fun D σ H q => ?_⟩
  obtain ⟨ρ, F, r, q⟩ := q
  obtain ⟨ds0, l0, q⟩ := calm_bindS (calm_ownL i ρ) q
  obtain ⟨p, xs, e1, e2, _, _⟩ := own_at r l0
  refine ⟨.ref p, e1, ?_⟩
  refine rdV_bindS r q fun w ρ1 F1 H1 y r1 s1 ev q => ?_
  obtain ⟨kd, l1, q⟩ := calm_bindS (calm_look w ρ1) q
  obtain ⟨kk, l2, q⟩ := calm_bindS (calm_intD kd) q
  have hkd := intD_ok l2
  subst hkd
  obtain ⟨ds, l3, q⟩ := calm_bindS (calm_ownL i ρ1) q
  obtain ⟨p', xs', g1, g2, g3, g4⟩ := own_at r1 l3
  rw [e1] at g1; cases g1
  have hx := look_rep r1 ev (by rw [look_settle]; exact l1)
  simp only [RepT] at hx
  subst hx
  cases ed : atI ds kk with
  | none => rw [ed] at q; exact False.elim q
  | some d =>
    rw [ed] at q
    obtain ⟨z, z1, z2⟩ := atI_rep g4 ed
    refine ⟨p, xs', kk, z, rfl, rfl, .inl (.inl g2), z1, ?_⟩
    have q : PostS X.K X.mg W B F1 ρ1 σ H1 ((m ρ1).bind fun b => (lookEV b.1 b.2).bind fun e => (op d e).bind fun v => (dEV v).bind fun z => (ownL i b.2).bind fun ds2 => someR (ixN ds2.length kk) fun j => .ok (.nxt, setL i (ds2.set j z) b.2)) D := q
    refine rdV_bindS r1 q fun w2 ρ2 F2 H2 y2 r2 s2 ev2 q => ?_
    obtain ⟨e, l4, q⟩ := look_bindS q
    obtain ⟨v, l5, q⟩ := calm_bindS (hc _ e) q
    obtain ⟨zd, l6, q⟩ := calm_bindS (calm_dEV v) q
    have hz := dEV_ok l6
    subst hz
    obtain ⟨ds2, l7, q⟩ := calm_bindS (calm_ownL i ρ2) q
    refine ⟨F2, d, e, _, l5, r2.le, (z2.mono s2.le).top r2.le, look_rep r2 ev2 (by rw [look_settle]; exact l4), fun F' H' z' f g hh l rz => ?_⟩
    have r3 := r2.grown f g hh l
    have s3 : Step F2 ρ2 σ H2 F' ρ2 σ H' := Step.grown f g hh
    obtain ⟨p', xs2, h1, h2, h3, h4⟩ := own_at r3 l7
    rw [e1] at h1; cases h1
    cases ej : ixN ds2.length kk with
    | none => rw [ej] at q; exact False.elim q
    | some j =>
      rw [ej] at q
      obtain ⟨r4, s4⟩ := r3.upd (o' := .lst (ds2.set j zd)) (u := .lst (xs2.set j z')) (ownL_ok l7) e1 ⟨_, upd_same, by rw [List.length_set]; exact h3, h4.set j rz⟩
      exact ⟨p, xs2, kk, j, rfl, rfl, h2, by rw [← h4.length]; exact ej, q _ _ _ r4 (s3.trans s4) (Keeps.refl B σ)⟩
end
/-! ### is True -/
def opIsB : Dt → Dt → R EV
  | .bool a, .bool b => bV (decide (a = b))
  | _, _ => .bad
def opNotB : Dt → Dt → R EV
  | .bool a, .bool b => bV (!decide (a = b))
  | _, _ => .bad
theorem calm_IsB : ∀ a b, Calm (opIsB a b) := fun a b => by cases a <;> cases b <;> first | exact ok_calm | exact bad_calm
theorem calm_NotB : ∀ a b, Calm (opNotB a b) := fun a b => by cases a <;> cases b <;> first | exact ok_calm | exact bad_calm
section
variable {X : Cx} {W : WX}
theorem o_isB : OpR X (compareOp .Is) (rd2 X.K opIsB) := OpR.any fun x y H Q q => by
  obtain ⟨F, a, b, ev, e, le, ra, rb, q⟩ := q
  cases a <;> cases b <;> try (cases e; done)
  cases e
  simp only [RepT] at ra rb
  subst ra; subst rb
  exact ⟨_, op_isBl, _, _, rfl, rfl, q.val le (by simp only [Rep])⟩
theorem o_notB : OpR X (compareOp .IsNot) (rd2 X.K opNotB) := OpR.any fun x y H Q q => by
  obtain ⟨F, a, b, ev, e, le, ra, rb, q⟩ := q
  cases a <;> cases b <;> try (cases e; done)
  cases e
  simp only [RepT] at ra rb
  subst ra; subst rb
  exact ⟨_, op_notBl, _, _, rfl, rfl, q.val le (by simp only [Rep])⟩
end
end Mv
set_option Elab.async false
set_option linter.all false
set_option maxRecDepth 100000
set_option maxHeartbeats 4000000
namespace Mv
open PySem PySem.Spec PyProof.Rows L2

/-! ### the end: from the law's mirror to the row -/
section
variable {P : Program} {w : World} {K : PySem.W.Frag} {mg mb : Str → Option Value} {k : Nat} {fa a : Addr} {x : Str} {fn : Fn} {s1 : Shared} {vs : List Value} {ns : List Int}
/-- the call of the law, at a heap H that tracks at most the script -/
theorem end_at {H : Hp} {as' : List SV} (KX : K.In s1.heap) (hns : s1.heap.Ns mainGlobals mg) (hb : s1.heap.Ns builtinsNs mb) (hbb : ∀ y : Str, y ≠ "__name__" → mb y = bootBuiltins y) (hlim : s1.heap.NoLimit) (hg : s1.gens = #[])
    (ha : s1.heap.get? a = some { cls := .type "list", data := .seq vs.toArray }) (hr : Room k callerA) (hgd : callerA.guards = some [])
    (D : ∀ base : Heap, K.In base → base.Ns mainGlobals mg → DefG P w K mg base k x 1 fn) (hx : mg x = some (.ref fa))
    (law : fn [.val (.list (ns.map .int))] = .ok (.val (.bool true), as'))
    (hO : ∀ b, H b = none ∨ (b = a ∧ K.lookup a = none ∧ ∃ o xs, H b = some (.frz o (.lst xs)))) (hok : HOk P w H s1.heap) (hrep : Rep K H (.list (ns.map .int)) (.ref a)) :
    codeAny (model P w) callerA (.call (.ref fa) ⟨[.ref a], []⟩) (fun r s' => r = .ok (.ret (.bool true)) ∧ OldK s1.heap s'.heap ∧ s'.os = s1.os ∧ AllBare s'.gens) s1 := by
  have free : ∀ {b : Addr} {o : Obj}, (∀ z w, o.data ≠ .seq z w) → s1.heap.get? b = some o → H b = none := fun {b o} n e => by
    rcases hO b with z | ⟨rfl, _⟩
    · exact z
    · rw [ha] at e; cases e
      exact absurd rfl (n _ _)
  have under : ∀ {b : Addr} {m : Str → Option Value}, s1.heap.Ns b m → (hidT s1.heap H).Ns b m := fun {b m} ⟨o, es, ep, e, d, r⟩ =>
    ⟨o, es, ep, hidT_get e (free (fun z w q => by rw [d] at q; cases q) e), d, r⟩
  have hKb : K.In (hidT s1.heap H) := fun b o e => hidT_get (KX b o e) (by
    rcases hO b with z | ⟨rfl, z, _⟩
    · exact z
    · rw [z] at e; cases e)
  obtain ⟨mc, l1, l2⟩ := hlim
  have hM : Mod K mg (hidT s1.heap H) := ⟨hKb, under hns, ⟨mb, under hb, hbb⟩, ⟨mc, under l1, l2⟩⟩
  have e0 : Env0 P w K mg (hidT s1.heap H) callerA [] s1 H := ⟨rfl, hM, fun b o e => of_hidT e, Nat.le_of_eq (hidT_size _ _), trivial, fun b hb => absurd (show b ∈ ([] : List Addr) from hb) (by simp), hok, .of_eq hg⟩
  obtain ⟨f, fd, ps, h1, _, hbi, G⟩ := (D _ hKb (under hns)).ex
  rw [hx] at h1; cases h1
  have rel : Rel K H (rA [.val (.list (ns.map .int))]) (sA [.ref a]) H := ⟨LeH.of (LeF.refl _), rfl, fun i d e => by
      cases i with
      | zero => cases e; exact ⟨_, rfl, hrep⟩
      | succ i => simp at e, fun i o e => by
      cases i with
      | zero => cases e
      | succ i => simp at e, fun i j p o o' e => by
      cases i with
      | zero => cases e
      | succ i => simp at e⟩
  have hsp : spG K mg 1 fn [.ref a] H (fun v H' => v = .bl true) (fun _ _ _ => False) := ⟨H, _, rel, rfl, by
    rw [law]
    intro F' H' y _ _ e
    have e' : Rep K F' (.bool true) y := e
    simpa only [Rep] using e'⟩
  have hl := G.len _ _ _ _ hsp
  have hbt := hbi s1 [.ref a] KX hl
  refine codeAny_mono (G.run callerA [] s1 H ⟨[.ref a], []⟩ [.ref a] [.ref a] _ _ hr hgd e0 hbt (.cons rfl .nil) hsp) fun r s' h => ?_
  cases r with
  | error e =>
    obtain ⟨_, _, _, _, _, _, _, _, _, _, _, _, z⟩ := h
    exact z.elim
  | ok fl =>
    cases fl with
    | next => exact False.elim h
    | brk => exact False.elim h
    | cont => exact False.elim h
    | ret u =>
      obtain ⟨v, H', os, bare, un, hok', r', q⟩ := h
      have q' : v = .bl true := q
      subst q'
      obtain rfl : u = Value.bool true := r'
      refine ⟨rfl, OldK.of_keep fun b o e => ?_, os, bare⟩
      rcases hO b with z | ⟨rfl, _, ob, xs, z⟩
      · exact un.keep b o e z (fun q => absurd (show b ∈ ([] : List Addr) from q) (by simp)) (by simp)
      · obtain ⟨e1, _⟩ := hok _ _ z
        obtain ⟨e2, _⟩ := hok' _ _ (un.frzs _ ob _ z)
        rw [e] at e1; cases e1
        exact e2
end
/-- no list stands in the written part -/
def noLists (K : PySem.W.Frag) : Bool := K.all fun p => match p.2.cls with
  | .type t => t != "list"
  | _ => true
theorem noLists_at {K : PySem.W.Frag} (h : noLists K = true) {a : Addr} {o : Obj} (e : K.lookup a = some o) : o.cls ≠ .type "list" := by
  have hm : (a, o) ∈ K := by
    induction K with
    | nil => cases e
    | cons p K ih =>
      obtain ⟨b, q⟩ := p
      rw [List.lookup_cons] at e
      have h' := h
      simp only [noLists, List.all_cons, Bool.and_eq_true] at h'
      cases c : a == b with
      | true =>
        rw [c] at e
        cases e
        rw [beq_iff_eq.mp c]
        exact List.mem_cons_self
      | false =>
        rw [c] at e
        exact List.mem_cons_of_mem _ (ih h'.2 e)
  intro z
  have := List.all_eq_true.mp h _ hm
  simp [z] at this
theorem walk_ofG {l : PySem.W.OpenLaw} {n k : Nat} {q : Program} {loose : List Str} {XP : (Str → Option Value) → Heap → Prop} {YP : World → Heap → Prop} {d : DefRec} {K : Params → PySem.W.Frag} {fn : Fn}
    (hn : l.most = some n) (hn2 : n ≤ sizeLine) (hdf : d.params.defaults = []) (hr : Room k callerA) (hgd : callerA.guards = some [])
    (hY : ∀ (w : World) (h : Heap), YP w h → (K w.params).In h) (hL : ∀ w : World, noLists (K w.params) = true)
    (F : ∀ (w : World) (mg : Str → Option Value) (h : Heap), (K w.params).In h → h.Ns mainGlobals mg → ∀ base : Heap, (K w.params).In base → base.Ns mainGlobals mg → DefG l.prog w (K w.params) mg base k d.name 1 fn)
    (law : ∀ ns : List Int, ns.length ≤ n → ∃ as, fn [.val (.list (ns.map .int))] = .ok (.val (.bool true), as)) :
    PySem.W.WalkO q loose XP YP l.row.toRowW d [] (fun f vs => PySem.call f vs) := by
  refine Att.attach_call hn hdf fun w s0 s1 mg mb fa o pm cd doc a vs ns G Y ho hd hcd hmg hobj hints hlen hg => ?_
  have KX := hY w _ Y
  have rv := vals_ints hints
  obtain ⟨as, e⟩ := law ns hlen
  have kn : (K w.params).lookup a = none := by
    cases c : (K w.params).lookup a with
    | none => rfl
    | some ob =>
      exfalso
      have e1 := KX a ob c
      rw [hobj] at e1; cases e1
      exact noLists_at (hL w) c rfl
  have sz : (ns.map V.int).length ≤ sizeLine := by rw [List.length_map]; omega
  let ob : Obj := { cls := .type "list", data := .seq vs.toArray }
  let H : Hp := fun b => if b = a then some (.frz ob (.lst (ns.map V.int))) else none
  have hH : H a = some (.frz ob (.lst (ns.map V.int))) := if_pos rfl
  refine end_at (H := H) (ns := ns) KX G.T.g G.T.b G.T.builtins G.T.nolimit hg hobj hr hgd (fun base h1 h2 => F w mg _ KX G.T.g base h1 h2) hmg e (fun b => ?_) (fun b u z => ?_) ?_
  · by_cases hb : b = a
    · exact .inr ⟨hb, kn, ob, _, if_pos hb⟩
    · exact .inl (if_neg hb)
  · by_cases hb : b = a
    · subst hb
      rw [hH] at z
      cases z
      exact ⟨hobj, sz, vs, _, rv, hobj⟩
    · have z' : (none : Option HO) = some u := (if_neg hb).symm.trans z
      cases z'
  · simp only [Rep]
    exact ⟨a, _, rfl, .inr ⟨ob, hH⟩, sz, rep_ints ns⟩
end Mv
set_option Elab.async false
set_option linter.all false
set_option maxRecDepth 100000
set_option maxHeartbeats 4000000
namespace Mv
open PySem PySem.Spec PyProof.Rows L2

section
variable {P : Program} {w : World} {K : PySem.W.Frag} {mg : Str → Option Value} {base : Heap} {N : List Str} {x : Str} {st : Stmt} {f : Addr} {cdv : Value} {A : Around} {outer : List Env} {s : Shared} {H : Hp} {E : XK}
theorem takesD : L2N.Takes (cxD P w K mg base N x st f cdv A outer s H E) (WOf E) := L2N.takes_of rfl rfl rfl rfl
theorem passD : PassesOwn (model P w) (cxD P w K mg base N x st f cdv A outer s H E).A (cxD P w K mg base N x st f cdv A outer s H E).env (cxD P w K mg base N x st f cdv A outer s H E).xe := passes_of rfl
end
/-- a class of the program's own, raised with a text -/
structure ExcK (K : PySem.W.Frag) (mg : Str → Option Value) (x : Str) : Prop where
  ex : ∃ (C : Addr) (bmB : List Value) (b newId initId : String), ExcBaseFacts b newId initId bmB ∧ PySem.W.excIn K C bmB newId = true ∧ mg x = some (.ref C) ∧ PySem.W.keepIn K (.ref C) = true ∧
    PySem.W.subIn K (.ref C) (.type "BaseException") = some true ∧ PySem.W.typeIn K (.ref C) = some (.type "type")
theorem ExcK.ok {X : Cx} {x : Str} (h : ExcK X.K X.mg x) : ExcOk X x := by
  obtain ⟨C, bmB, b, n, i, h1, h2, h3, h4, h5, h6⟩ := h.ex
  exact ⟨C, bmB, b, n, i, h1, h2, h3, h4, raises_own h5 h6⟩
theorem bt_len : bootBuiltins "len" = some (.builtin "len") := by decide +kernel
theorem bt_sum : bootBuiltins "sum" = some (.builtin "sum") := by decide +kernel
theorem bt_abs : bootBuiltins "abs" = some (.builtin "abs") := by decide +kernel
theorem bt_max : bootBuiltins "max" = some (.builtin "max") := by decide +kernel
theorem bt_min : bootBuiltins "min" = some (.builtin "min") := by decide +kernel
theorem bt_any : bootBuiltins "any" = some (.builtin "any") := by decide +kernel
theorem bt_all : bootBuiltins "all" = some (.builtin "all") := by decide +kernel
theorem bt_repr : bootBuiltins "repr" = some (.builtin "repr") := by decide +kernel
theorem bt_sorted : bootBuiltins "sorted" = some (.builtin "sorted") := by decide +kernel
theorem bt_divmod : bootBuiltins "divmod" = some (.builtin "divmod") := by decide +kernel
theorem bt_pow : bootBuiltins "pow" = some (.builtin "pow") := by decide +kernel
theorem bt_isinstance : bootBuiltins "isinstance" = some (.builtin "isinstance") := by decide +kernel
theorem bt_int : bootBuiltins "int" = some (.type "int") := by decide +kernel
theorem bt_list : bootBuiltins "list" = some (.type "list") := by decide +kernel
theorem bt_tuple : bootBuiltins "tuple" = some (.type "tuple") := by decide +kernel
theorem bt_dict : bootBuiltins "dict" = some (.type "dict") := by decide +kernel
theorem bt_str : bootBuiltins "str" = some (.type "str") := by decide +kernel
theorem bt_range : bootBuiltins "range" = some (.type "range") := by decide +kernel
theorem bt_zip : bootBuiltins "zip" = some (.type "zip") := by decide +kernel
theorem bt_enumerate : bootBuiltins "enumerate" = some (.type "enumerate") := by decide +kernel
theorem bt_bool : bootBuiltins "bool" = some (.type "bool") := by decide +kernel
theorem bt_set : bootBuiltins "set" = some (.type "set") := by decide +kernel
/-- a def that the top has written -/
structure FunT (K : PySem.W.Frag) (mg : Str → Option Value) (x : Str) (st : Stmt) (ps : List Str) : Prop where
  ex : ∃ f fd, Fun K x x st f fd ∧ mg x = some (.ref f) ∧ Binds K fd ps []
theorem funT_mk {K : PySem.W.Frag} {h : Heap} {mg : Str → Option Value} {x : Str} {st : Stmt} {ps : List Str} {f : Addr} {oc : Value} {od an : Option Addr} {osl : Array (Option Value)} {kV doc pm cdv ct : Value} (X : K.In h) (G : h.Ns mainGlobals mg)
    (a : PySem.W.nsIn K mainGlobals x = some (some (.ref f))) (l : K.lookup f = some ⟨oc, od, .func (PySem.W.fnOf x x (defArgs st) (defBody st) (defScope st) .none kV doc pm an cdv ct), osl⟩) (c : PySem.W.codeIn K cdv x = true) (k : PySem.W.keepIn K (.ref f) = true)
    (b : ∀ (kV doc pm : Value) (an : Option Addr) (cdv ct : Value) (us : List Value), us.length = ps.length → bindArgs (PySem.W.fnOf x x (defArgs st) (defBody st) (defScope st) .none kV doc pm an cdv ct) ⟨us, []⟩ = pure (ps.zip us)) : FunT K mg x st ps := by
  have F := fun_mk (st := st) l c k
  exact ⟨_, _, F, PySem.W.mg_of X G a, F.binds b⟩
theorem ru64 {A : Around} {k : Nat} (hr : Room k A) : A.units + 64 < cLine := by have := hr.un; omega
theorem ru65 {A : Around} {k : Nat} (hr : Room k A) : A.units + 65 < cLine := by have := hr.un; omega
section
variable {X : Cx} {W : WX}
theorem SE.globS {x y : Str} {pos : Pos} (h : ∃ t, X.mg x = some (.str y t)) (hg : Gl X x := by rfl) (hd : (x == ("__debug__" : Str)) = false := by decide) : SE X W (.Name x pos) (mC (.str y)) := by
  obtain ⟨t, h⟩ := h
  exact SE.glob (v := .str y) h ⟨t, rfl⟩ (fun F => by simp only [Rep]) hg hd
theorem SE.globI {x : Str} {i : Int} {pos : Pos} (h : ∃ t, X.mg x = some (.int i t)) (hg : Gl X x := by rfl) (hd : (x == ("__debug__" : Str)) = false := by decide) : SE X W (.Name x pos) (mC (.int i)) := by
  obtain ⟨t, h⟩ := h
  exact SE.glob (v := .int i) h ⟨t, rfl⟩ (fun F => by simp only [Rep]) hg hd
/-- not x, as a value -/
def mNotX (m : M EV) : M EV := fun ρ => (m ρ).bind fun a => (lookEV a.1 a.2).bind fun d => (truthD d).bind fun b => .ok (.val (.bool (!b)), a.2)
theorem SE.notx {a : Expr} {pos : Pos} {m : M EV} (h : SE X W a m) : SE X W (.UnaryOp .Not a pos) (mNotX m) := by
  refine ⟨peImp (pe_notT h.v) fun σ H Q q => ?_⟩
  obtain ⟨ρ, F, r, q⟩ := q
  refine rdV_bind r q fun v ρ1 F1 H1 x r1 s1 e1 q => ?_
  obtain ⟨d, l, q⟩ := look_bind q
  obtain ⟨b, l2, q⟩ := calm_bind (calm_truth d) q
  exact ⟨b, truth_rep r1.le (look_rep r1 e1 (by rw [look_settle]; exact l)) l2, q.here r1 (by show Rep _ _ _ _; simp only [Rep])⟩
end
end Mv
set_option Elab.async false
set_option linter.all false
set_option maxRecDepth 100000
set_option maxHeartbeats 4000000
namespace Mv
open PySem PySem.Spec PyProof.Rows L2

/-! ### isinstance -/
def tyD : Dt → Option String
  | .none => some "NoneType"
  | .bool _ => some "bool"
  | .int _ => some "int"
  | .str _ => some "str"
  | .list _ => some "list"
  | .tuple _ => some "tuple"
  | .dict _ => none
def opIsi (T : String) (d : Dt) : R EV := match tyD d with
  | some n => match kitB n T with
    | some b => bV b
    | none => .bad
  | none => .bad
theorem calm_Isi (T : String) : ∀ d, Calm (opIsi T d) := fun d => by
  unfold opIsi
  split
  · split
    · exact ok_calm
    · exact bad_calm
  · exact bad_calm
theorem kit_int : kitB "NoneType" "int" = some false ∧ kitB "bool" "int" = some true ∧ kitB "int" "int" = some true ∧ kitB "str" "int" = some false ∧ kitB "list" "int" = some false ∧ kitB "tuple" "int" = some false := by decide +kernel
theorem kit_tuple : kitB "NoneType" "tuple" = some false ∧ kitB "bool" "tuple" = some false ∧ kitB "int" "tuple" = some false ∧ kitB "str" "tuple" = some false ∧ kitB "list" "tuple" = some false ∧ kitB "tuple" "tuple" = some true := by decide +kernel
theorem kit_str : kitB "NoneType" "str" = some false ∧ kitB "bool" "str" = some false ∧ kitB "int" "str" = some false ∧ kitB "str" "str" = some true ∧ kitB "list" "str" = some false ∧ kitB "tuple" "str" = some false := by decide +kernel
theorem kit_list : kitB "NoneType" "list" = some false ∧ kitB "bool" "list" = some false ∧ kitB "int" "list" = some false ∧ kitB "str" "list" = some false ∧ kitB "list" "list" = some true ∧ kitB "tuple" "list" = some false := by decide +kernel
section
variable {X : Cx} {W : WX}
theorem ty_rep {K : PySem.W.Frag} {F H : Hp} {d : Dt} {x : V} {n : String} (le : LeH F H) (r : RepT K F H d x) (h : tyD d = some n) : TyX K H x (.type n) := by
  cases d <;> simp only [tyD, Option.some.injEq, reduceCtorEq] at h <;> subst h <;> simp only [RepT] at r
  · subst r; exact .base .non
  · subst r; exact .base (.bl _)
  · subst r; exact .base (.int _)
  · subst r; exact .base (.str _)
  · obtain ⟨a, xs, rfl, h1, _⟩ := r
    rcases h1 with h1 | ⟨o, h1⟩
    · exact .base (.lst h1)
    · exact .base (.frz h1)
  · obtain ⟨a, xs, rfl, h1, _⟩ := r
    rcases sqT_leH le h1 with h1 | ⟨_, o, its, n, h1, h2, _⟩
    · exact .base (.tup h1)
    · exact .kTuple h1 h2
theorem SE.isi (T : String) {e : Expr} {x : Str} {p p2 pos : Pos} {m : M EV} (hm : X.mg "isinstance" = none) (hx : X.mg x = none) (hv : bootBuiltins x = some (.type T)) (he : SE X W e m) (hg : Gl X "isinstance" := by rfl) (hgx : Gl X x := by rfl) (hn : x ≠ "__name__" := by decide) (hdb : (x == ("__debug__" : Str)) = false := by decide)
    (h1 : starEach [e, .Name x p2] X.env = (false, eval e X.env) :: starEach [.Name x p2] X.env := by rfl) (h2 : starEach [.Name x p2] X.env = (false, eval (.Name x p2) X.env) :: starEach [] X.env := by rfl) (hpl : (backTo pos (starEach [.Name x p2] X.env)).any (·.1) = false := by rfl) :
    SE X W (.Call (.Name "isinstance" p) [e, .Name x p2] [] pos) (mUn (opIsi T) m) := by
  refine ⟨peImp (pe_callB call_isi hg hm bt_isinstance (pa_cons he.v (pa_cons (pe_bltn (v := .ty T) hgx hx hv rfl hn hdb) pa_nil h2) h1) (by decide) (by decide) h1 hpl) fun σ H Q q => ?_⟩
  obtain ⟨ρ, F, r, q⟩ := q
  show rdV X.K X.mg W m σ H fun y H1 => _
  refine rdV_bind r q fun v ρ1 F1 H1 y r1 s1 ev q => ?_
  obtain ⟨d, l, q⟩ := look_bind q
  have hy := look_rep r1 ev (by rw [look_settle]; exact l)
  obtain ⟨v2, l2, q⟩ := calm_bind (calm_Isi T d) q
  unfold opIsi at l2
  cases e1 : tyD d with
  | none => rw [e1] at l2; cases l2
  | some n =>
    rw [e1] at l2
    simp only at l2
    cases e2 : kitB n T with
    | none => rw [e2] at l2; cases l2
    | some b =>
      rw [e2] at l2
      cases l2
      exact ⟨y, .ty T, .type n, .type T, b, rfl, .ty T, ty_rep r1.le hy e1, kit_ty e2, q.here r1 (by show Rep _ _ _ _; simp only [Rep])⟩
end
/-! ### texts -/
def strD : Dt → R Str
  | .str a => .ok a
  | _ => .bad
theorem calm_strD (d : Dt) : Calm (strD d) := by cases d <;> first | exact ok_calm | exact bad_calm
theorem strD_ok {d : Dt} {a : Str} (h : strD d = .ok a) : d = .str a := by cases d <;> first | (cases h; done) | (cases h; rfl)
/-- text.method(e) -/
def mTxt1 (op : Str → Dt → R EV) (mo m : M EV) : M EV := fun ρ => (mo ρ).bind fun a => (lookEV a.1 a.2).bind fun d => (strD d).bind fun s => (m a.2).bind fun b => (lookEV b.1 b.2).bind fun e => (op s e).bind fun v => .ok (v, b.2)
def opSplit (a : Str) : Dt → R EV
  | .str b => guardR ((b.length == 0) = false ∧ a.length + 2 ≤ sizeLine ∧ (Txt.split a b).length ≤ sizeLine) (.ok (.new (.lst ((Txt.split a b).map .str))))
  | _ => .bad
def strsD : List Dt → Option (List Str)
  | [] => some []
  | .str x :: r => (strsD r).map (x :: ·)
  | _ :: _ => none
theorem strs_map : ∀ {ds : List Dt} {ys : List Str}, strsD ds = some ys → ds = ys.map PyData.str
  | [], ys, h => by cases h; rfl
  | .str x :: r, ys, h => by
    simp only [strsD, Option.map_eq_some_iff] at h
    obtain ⟨zs, h1, rfl⟩ := h
    rw [strs_map h1]; rfl
  | .none :: _, _, h => by cases h
  | .bool _ :: _, _, h => by cases h
  | .int _ :: _, _, h => by cases h
  | .list _ :: _, _, h => by cases h
  | .tuple _ :: _, _, h => by cases h
  | .dict _ :: _, _, h => by cases h
theorem strs_of : ∀ ys : List Str, strsD (ys.map PyData.str) = some ys
  | [] => rfl
  | y :: ys => by simp only [List.map_cons, strsD, strs_of ys, Option.map_some]
theorem strs_rep {K : PySem.W.Frag} {F : Hp} : ∀ {ys : List Str} {xs : List V}, RepAll K F (ys.map PyData.str) xs → xs = ys.map V.str
  | [], xs, h => by simpa only [List.map_nil, RepAll] using h
  | y :: ys, xs, h => by
    simp only [List.map_cons, RepAll, Rep] at h
    obtain ⟨v, vs, rfl, rfl, h2⟩ := h
    rw [strs_rep h2]; rfl
theorem rep_strs {K : PySem.W.Frag} {F : Hp} : ∀ (ys : List Str), RepAll K F (ys.map PyData.str) (ys.map V.str)
  | [] => by simp only [List.map_nil, RepAll]
  | y :: ys => by
    simp only [List.map_cons, RepAll, Rep]
    exact ⟨_, _, rfl, rfl, rep_strs ys⟩
def opJoin (a : Str) : Dt → R EV
  | .list ds => match strsD ds with
    | some ys => guardR ((ys.map (·.length)).sum + ys.length * a.length ≤ 16777216) (.ok (.val (.str (Txt.join a ys))))
    | none => .bad
  | _ => .bad
def opStr : Dt → R EV
  | .int i => guardR (i.natAbs.log2 < 1920) (.ok (.val (.str (toString i))))
  | .str a => .ok (.val (.str a))
  | _ => .bad
def opRepr (d : Dt) : R EV := guardR (d.showable = true ∧ d.canLay0 = true ∧ d.depth ≤ 40 ∧ d.shown.length ≤ sizeLine) (.ok (.val (.str d.shown)))
theorem calm_Split : ∀ a b, Calm (opSplit a b) := fun a b => by cases b <;> first | exact bad_calm | exact guard_calm ok_calm
theorem calm_Join : ∀ a b, Calm (opJoin a b) := fun a b => by
  cases b <;> first | exact bad_calm | skip
  simp only [opJoin]
  split
  · exact guard_calm ok_calm
  · exact bad_calm
theorem calm_Str : ∀ ds, Calm (on1 opStr ds) := calm_on1 fun d => by cases d <;> first | exact bad_calm | exact ok_calm | exact guard_calm ok_calm
theorem calm_Repr : ∀ ds, Calm (on1 opRepr ds) := calm_on1 fun d => guard_calm ok_calm
section
variable {X : Cx} {W : WX}
theorem txt_rd {K : PySem.W.Frag} {mg : Str → Option Value} {op : Str → Dt → R EV} {mo m : M EV} {σ : L2.St} {H : Hp} {Q : VK} {rr : V → List V → Hp → VK → Prop} (hc : ∀ a b, Calm (op a b)) (h : rdE K mg W (mTxt1 op mo m) σ H Q)
    (hr : ∀ F a d x v H, op a d = .ok v → LeH F H → RepT K F H d x → ∀ Q, PostP K F H v Q → rr (.str a) [x] H Q) : tM1 rr (rdV K mg W mo) (rdV K mg W m) σ H Q := by
  obtain ⟨ρ, F, r, q⟩ := h
  refine rdV_bind r q fun v ρ1 F1 H1 x r1 s1 e1 q => ?_
  obtain ⟨d, l, q⟩ := look_bind q
  obtain ⟨a, l2, q⟩ := calm_bind (calm_strD d) q
  have hd := strD_ok l2
  subst hd
  have hx := look_rep r1 e1 (by rw [look_settle]; exact l)
  simp only [RepT] at hx
  subst hx
  refine ⟨⟨a, rfl⟩, ?_⟩
  refine rdV_bind r1 q fun w ρ2 F2 H2 y r2 s2 e2 q => ?_
  obtain ⟨e, l3, q⟩ := look_bind q
  obtain ⟨u, l4, q⟩ := calm_bind (hc a e) q
  exact hr F2 a e y u H2 l4 r2.le (look_rep r2 e2 (by rw [look_settle]; exact l3)) Q (PostE.prim r2 q)
theorem SE.split {o e : Expr} {apos pos : Pos} {mo m : M EV} (ho : SE X W o mo) (he : SE X W e m) (hs : starEach [e] X.env = [(false, eval e X.env)] := by rfl) (hbase : attributeBase o "split" X.env (eval o X.env) = eval o X.env := by rfl) (hline : (apos.endLine == pos.line) = true := by rfl) :
    SE X W (.Call (.Attribute o "split" apos) [e] [] pos) (mTxt1 opSplit mo m) := by
  refine ⟨peImp (pe_split ho.v he.v hs hbase hline) fun σ H Q q => txt_rd calm_Split q fun F a d x v H e le ra Q q => ?_⟩
  cases d <;> try (cases e; done)
  rename_i b
  obtain ⟨⟨c1, c2, c3⟩, e⟩ := guard_ok e
  cases e
  simp only [RepT] at ra
  subst ra
  refine ⟨a, b, rfl, rfl, c1, c2, fun p hp => ?_⟩
  exact q.newO le hp ⟨_, upd_same, by rw [List.length_map]; exact c3, rep_strs _⟩
theorem SE.join {o e : Expr} {apos pos : Pos} {mo m : M EV} (ho : SE X W o mo) (he : SE X W e m) (hs : starEach [e] X.env = [(false, eval e X.env)] := by rfl) (hbase : attributeBase o "join" X.env (eval o X.env) = eval o X.env := by rfl) (hline : (apos.endLine == pos.line) = true := by rfl) :
    SE X W (.Call (.Attribute o "join" apos) [e] [] pos) (mTxt1 opJoin mo m) := by
  refine ⟨peImp (pe_join ho.v he.v hs hbase hline) fun σ H Q q => txt_rd calm_Join q fun F a d x v H e le ra Q q => ?_⟩
  cases d <;> try (cases e; done)
  rename_i ds
  simp only [opJoin] at e
  split at e
  · rename_i ys hys
    obtain ⟨c, e⟩ := guard_ok e
    cases e
    have hd := strs_map hys
    subst hd
    simp only [RepT] at ra
    obtain ⟨p, xs, rfl, h1, _, h3⟩ := ra
    have hx := strs_rep h3
    subst hx
    exact ⟨a, p, ys, rfl, rfl, .inl (.inl h1), c, q.val le (by simp only [Rep])⟩
  · cases e
theorem c_str : CallR X (.type "str") (rdN X.K (on1 opStr)) := CallR.any fun xs H Q q0 => by
  obtain ⟨F, d, x, ev, rfl, e, le, ra, q⟩ := rdN1 q0
  clear q0
  cases d <;> try (cases e; done)
  · obtain ⟨c, e⟩ := guard_ok e
    cases e
    simp only [RepT] at ra
    subst ra
    exact ⟨_, call_str_int, _, rfl, c, q.val le (by simp only [Rep])⟩
  · cases e
    simp only [RepT] at ra
    subst ra
    exact ⟨_, SkE.call_str_str, _, rfl, q.val le (by simp only [Rep])⟩
/-- repr of data -/
def rReprD (K : PySem.W.Frag) : List V → Hp → VK → Prop := fun xs H Q => ∃ d x, xs = [x] ∧ Dp K H x d ∧ d.showable = true ∧ d.hasDict = false ∧ d.depth ≤ 40 ∧ d.shown.length ≤ sizeLine ∧ Q (.str d.shown) H
theorem cr_reprD (hu : X.A.units + 64 < cLine) (hgd : X.A.guards = some []) : CallR X (.builtin "repr") (rReprD X.K) := by
  intro pins s σ H xs us Q I r h
  obtain ⟨d, x, rfl, dp, hs, hd, hdp, hz, q⟩ := h
  obtain ⟨u, rfl, ru⟩ := r.one
  obtain ⟨as, rd⟩ := Dp.reads I d x u dp ru
  cases rd with
  | none => exact PySem.P.repr_of_none ⟨.str _, H, I.tok _, ⟨_, rfl⟩, by simpa only [PyData.shown] using q⟩
  | bool b => exact PySem.P.repr_of_bool ⟨.str _, H, I.tok _, ⟨_, rfl⟩, by simpa only [PyData.shown] using q⟩
  | int i t => exact PySem.P.repr_of_int (by simpa [PyData.showable] using hs) ⟨.str _, H, I.tok _, ⟨_, rfl⟩, by simpa only [PyData.shown] using q⟩
  | str y t => exact PySem.P.repr_of_str (hsz := by simpa only [PyData.shown] using hz) ⟨.str _, H, I.tok _, ⟨_, rfl⟩, by simpa only [PyData.shown] using q⟩
  | list h1 h2 h3 h4 => exact repr_of_reads' (.list h1 h2 h3 h4) hs (PyData.noDict_hsm hd) hgd (by omega) (fun _ _ e => e) (fun h' u tk hk => ⟨.str _, H, I.kept hk, ⟨_, rfl⟩, q⟩) hz
  | tuple h1 h2 h3 h4 => exact repr_of_reads' (.tuple h1 h2 h3 h4) hs (PyData.noDict_hsm hd) hgd (by omega) (fun _ _ e => e) (fun h' u tk hk => ⟨.str _, H, I.kept hk, ⟨_, rfl⟩, q⟩) hz
  | dict h1 h2 h3 h4 h5 => simp [PyData.hasDict] at hd
theorem c_repr (hu : X.A.units + 64 < cLine) (hgd : X.A.guards = some []) : CallR X (.builtin "repr") (rdN X.K (on1 opRepr)) := CallR.any fun xs H Q q0 => by
  obtain ⟨F, d, x, ev, rfl, e, le, ra, q⟩ := rdN1 q0
  clear q0
  obtain ⟨⟨c1, c2, c3, c4⟩, e⟩ := guard_ok e
  cases e
  exact ⟨_, cr_reprD hu hgd, d, x, rfl, ra.dp le c2, c1, PyData.hasDict_of_canLay d c2, c3, c4, q.val le (by simp only [Rep])⟩
end
end Mv
set_option Elab.async false
set_option linter.all false
set_option maxRecDepth 100000
set_option maxHeartbeats 4000000
namespace Mv
open PySem PySem.Spec PyProof.Rows L2

/-! ### list.index, list.count -/
/-- list.method(e) -/
def mLm1 (op : List Dt → Dt → R EV) (mo m : M EV) : M EV := fun ρ => (mo ρ).bind fun a => (lookEV a.1 a.2).bind fun d => (seqOfD d).bind fun ds => (m a.2).bind fun b => (lookEV b.1 b.2).bind fun e => (lookEV a.1 b.2).bind fun d2 => (seqOfD d2).bind fun ds2 => (op ds2 e).bind fun v => .ok (v, b.2)
def idxD (d : Dt) : List Dt → Nat → Option Nat
  | [], _ => none
  | z :: r, k => if eqFlat z d = true then some k else idxD d r (k + 1)
theorem idxD_at {d : Dt} : ∀ {ds : List Dt} {k j : Nat}, idxD d ds k = some j → ∃ i z, j = k + i ∧ ds[i]? = some z ∧ eqFlat z d = true ∧ ∀ m z', m < i → ds[m]? = some z' → eqFlat z' d = false
  | [], k, j, h => by cases h
  | z :: r, k, j, h => by
    simp only [idxD] at h
    by_cases c : eqFlat z d = true
    · rw [if_pos c] at h
      cases h
      exact ⟨0, z, rfl, rfl, c, fun m z' hm => absurd hm (Nat.not_lt_zero m)⟩
    · rw [if_neg c] at h
      obtain ⟨i, z2, h1, h2, h3, h4⟩ := idxD_at h
      refine ⟨i + 1, z2, by omega, by simpa using h2, h3, fun m z' hm hz => ?_⟩
      cases m with
      | zero => simp at hz; subst hz; simpa using c
      | succ m => exact h4 m z' (by omega) (by simpa using hz)
def opIndex (ds : List Dt) (d : Dt) : R EV := guardR (flatD d = true ∧ ds.all flatD = true) (someR (idxD d ds 0) fun j => iV (j : Nat))
def boolD : Dt → Option Bool
  | .bool b => some b
  | _ => none
def boolsD : List Dt → Bool := fun ds => ds.all fun d => (boolD d).isSome
def opCount (ds : List Dt) : Dt → R EV
  | .bool k => guardR (boolsD ds = true) (iV ((ds.countP fun d => boolD d == some k : Nat)))
  | _ => .bad
theorem calm_Index : ∀ a b, Calm (opIndex a b) := fun a b => guard_calm (some_calm fun _ => ok_calm)
theorem calm_Count : ∀ a b, Calm (opCount a b) := fun a b => by cases b <;> first | exact bad_calm | exact guard_calm ok_calm
section
variable {X : Cx} {W : WX}
theorem lm_rd {K : PySem.W.Frag} {mg : Str → Option Value} {op : List Dt → Dt → R EV} {mo m : M EV} {σ : L2.St} {H : Hp} {Q : VK} {rr : V → List V → Hp → VK → Prop} (hc : ∀ a b, Calm (op a b)) (h : rdE K mg W (mLm1 op mo m) σ H Q)
    (hr : ∀ F ds p d x v H, op ds d = .ok v → LeH F H → RepT K F H (.list ds) (.ref p) → RepT K F H d x → ∀ Q, PostP K F H v Q → rr (.ref p) [x] H Q) : tBM K "list" rr (rdV K mg W mo) (tCons (rdV K mg W m) tNil) σ H Q := by
  obtain ⟨ρ, F, r, q⟩ := h
  refine rdV_bind r q fun v ρ1 F1 H1 x r1 s1 e1 q => ?_
  obtain ⟨d, l, q⟩ := look_bind q
  obtain ⟨ds, l2, q⟩ := calm_bind (calm_seq d) q
  have hd := seqOfD_ok l2
  subst hd
  have hx := look_rep r1 e1 (by rw [look_settle]; exact l)
  simp only [RepT] at hx
  obtain ⟨p, xs, rfl, h1, _, _⟩ := hx
  refine ⟨.inl ⟨rfl, xs, .inl h1⟩, ?_⟩
  show rdV K mg W m σ H1 fun y H2 => tNil σ H2 fun vs H3 => _
  refine rdV_bind r1 q fun w ρ2 F2 H2 y r2 s2 e2 q => ?_
  obtain ⟨e, l3, q⟩ := look_bind q
  obtain ⟨d2, l4, q⟩ := look_bind q
  obtain ⟨ds2, l5, q⟩ := calm_bind (calm_seq d2) q
  have hd := seqOfD_ok l5
  subst hd
  obtain ⟨u, l6, q⟩ := calm_bind (hc ds2 e) q
  have hx2 := look_rep r2 (e1.mono s2.le) (by rw [look_settle]; exact l4)
  exact hr F2 ds2 p e y u H2 l6 r2.le hx2 (look_rep r2 e2 (by rw [look_settle]; exact l3)) Q (PostE.prim r2 q)
theorem SE.lindex {o e : Expr} {apos cpos : Pos} {mo m : M EV} (ho : SE X W o mo) (he : SE X W e m) (hbase : attributeBase o "index" X.env (eval o X.env) = eval o X.env := by rfl)
    (hfew : ((backTo cpos (starEach [e] X.env)).all (fun x => !x.1) && (backToKw cpos (keywordEach [] X.env)).all (fun x => x.1.isSome) && decide ([e].length + ([] : List Keyword).length + (if ([] : List Keyword).isEmpty then 0 else 1) < 30)) = true := by rfl)
    (hline : (apos.endLine == cpos.line) = true := by rfl) (hs : starEach [e] X.env = (false, eval e X.env) :: starEach [] X.env := by rfl) (hplain : (backTo cpos (starEach [] X.env)).any (·.1) = false := by rfl) :
    SE X W (.Call (.Attribute o "index" apos) [e] [] cpos) (mLm1 opIndex mo m) := by
  refine ⟨peImp (pe_bm PySem.F.plainAttrs_list PySem.F.slot_list_index PySem.F.type_list_index mt_index ho.v (pa_cons he.v pa_nil hs) hbase hfew hline hs hplain) fun σ H Q q => lm_rd calm_Index q fun F ds p d x v H e le ra rb Q q => ?_⟩
  obtain ⟨⟨c1, c2⟩, e⟩ := guard_ok e
  obtain ⟨j, hj, e⟩ := some_ok e
  cases e
  obtain ⟨i, z, h1, h2, h3, h4⟩ := idxD_at hj
  rw [Nat.zero_add] at h1
  subst h1
  simp only [RepT] at ra
  obtain ⟨p', xs, e, g1, g2, g3⟩ := ra
  cases e
  have rb' := rb.flat c1
  obtain ⟨y, y1, y2⟩ := g3.get h2
  have fz := List.all_eq_true.mp c2 z (List.mem_of_getElem? h2)
  refine ⟨p, xs, x, j, y, rfl, rfl, .inl g1, flat_V c1 rb', flats_V c2 g3, y1, by rw [flat_eq fz c1 y2 rb']; exact h3, fun m z' hm hz => ?_, q.val le (by simp only [Rep])⟩
  obtain ⟨d', d1⟩ : ∃ d', ds[m]? = some d' := ⟨_, List.getElem?_eq_getElem (by have := (List.getElem?_eq_some_iff.mp h2).1; omega)⟩
  obtain ⟨y', e1, e2⟩ := g3.get d1
  rw [hz] at e1; cases e1
  rw [flat_eq (List.all_eq_true.mp c2 d' (List.mem_of_getElem? d1)) c1 e2 rb']
  exact h4 m d' hm d1
def rCntB (K : PySem.W.Frag) : V → List V → Hp → VK → Prop := fun x xs H Q => ∃ (p : Addr) (bs : List Bool) (k : Bool), x = .ref p ∧ xs = [.bl k] ∧ SqL K H p (bs.map V.bl) ∧ Q (.int (bs.count k : Nat)) H
theorem vals_bools : ∀ {bs : List Bool} {us : List Value}, Vals (bs.map V.bl) us → us = bs.map Value.bool
  | [], us, h => by cases h; rfl
  | b :: bs, us, h => by
    cases h with
    | cons a t =>
      cases a
      rw [vals_bools t]; rfl
theorem reads_bools (h : Heap) : ∀ bs : List Bool, ReadsAll h (bs.map Value.bool) (bs.map PyData.bool) []
  | [] => .nil
  | b :: bs => by
    have := ReadsAll.cons (Reads.bool (h := h) b) (reads_bools h bs)
    simpa using this
theorem mt_countB : MtR X "list.count" (rCntB X.K) := by
  intro pins s σ H x xs v us Q I rx rxs h
  obtain ⟨p, bs, k, rfl, rfl, hs, q⟩ := h
  cases rx
  obtain ⟨u, rfl, ru⟩ := rxs.one
  cases ru
  obtain ⟨its, rv, pl, hlen⟩ := I.list hs
  have e := vals_bools rv
  subst e
  have hc : countIn (.bool k) (bs.map PyData.bool) = ((bs.count k : Nat) : Int) := by
    clear rv pl hlen hs q I
    induction bs with
    | nil => rfl
    | cons b bs ih =>
      simp only [List.map_cons, countIn, ih, List.count_cons, same]
      cases b <;> cases k <;> simp <;> omega
  exact count_list_bools pl.isList (reads_bools s.heap bs) (by simp [Shape.has]) ⟨.int ((bs.count k : Nat) : Int), H, I.tok _, ⟨s.toks, by rw [hc]⟩, q⟩
theorem bools_of {K : PySem.W.Frag} {F : Hp} : ∀ {ds : List Dt} {xs : List V}, boolsD ds = true → RepAll K F ds xs → ∃ bs : List Bool, ds = bs.map PyData.bool ∧ xs = bs.map V.bl
  | [], xs, _, h => ⟨[], rfl, by simp only [RepAll] at h; exact h⟩
  | d :: ds, xs, hb, h => by
    simp only [boolsD, List.all_cons, Bool.and_eq_true] at hb
    simp only [RepAll] at h
    obtain ⟨v, vs, rfl, h1, h2⟩ := h
    obtain ⟨bs, rfl, rfl⟩ := bools_of hb.2 h2
    cases d <;> simp [boolD] at hb
    rename_i b
    simp only [Rep] at h1
    subst h1
    exact ⟨b :: bs, rfl, rfl⟩
theorem SE.lcount {o e : Expr} {apos cpos : Pos} {mo m : M EV} (ho : SE X W o mo) (he : SE X W e m) (hbase : attributeBase o "count" X.env (eval o X.env) = eval o X.env := by rfl)
    (hfew : ((backTo cpos (starEach [e] X.env)).all (fun x => !x.1) && (backToKw cpos (keywordEach [] X.env)).all (fun x => x.1.isSome) && decide ([e].length + ([] : List Keyword).length + (if ([] : List Keyword).isEmpty then 0 else 1) < 30)) = true := by rfl)
    (hline : (apos.endLine == cpos.line) = true := by rfl) (hs : starEach [e] X.env = (false, eval e X.env) :: starEach [] X.env := by rfl) (hplain : (backTo cpos (starEach [] X.env)).any (·.1) = false := by rfl) :
    SE X W (.Call (.Attribute o "count" apos) [e] [] cpos) (mLm1 opCount mo m) := by
  refine ⟨peImp (pe_bm PySem.F.plainAttrs_list PySem.F.slot_list_count PySem.F.type_list_count mt_countB ho.v (pa_cons he.v pa_nil hs) hbase hfew hline hs hplain) fun σ H Q q => lm_rd calm_Count q fun F ds p d x v H e le ra rb Q q => ?_⟩
  cases d <;> try (cases e; done)
  rename_i k
  obtain ⟨c1, e⟩ := guard_ok e
  cases e
  simp only [RepT] at ra rb
  obtain ⟨p', xs, e, g1, g2, g3⟩ := ra
  cases e
  subst rb
  obtain ⟨bs, rfl, rfl⟩ := bools_of c1 g3
  refine ⟨p, bs, k, rfl, rfl, .inl g1, ?_⟩
  have : (bs.map PyData.bool).countP (fun d => boolD d == some k) = bs.count k := by
    rw [List.countP_map]
    show bs.countP _ = bs.countP _
    congr 1
  rw [this] at q
  exact q.val le (by simp only [Rep])
end
end Mv
set_option Elab.async false
set_option linter.all false
set_option maxRecDepth 100000
set_option maxHeartbeats 4000000
namespace Mv
open PySem PySem.Spec PyProof.Rows L2

/-! ### what reads a caught exception: slot j holds it -/
def AtJ (j : Nat) (a : Addr) (σ : L2.St) : Prop := σ[j]? = some (some (.ref a))
structure SEK (X : Cx) (W : WX) (j : Nat) (a : Addr) (e : Expr) (m : M EV) : Prop where
  pe : PE X e (fun σ H Q => AtJ j a σ ∧ rdE X.K X.mg W m σ H Q)
structure SAK (X : Cx) (W : WX) (j : Nat) (a : Addr) (es : List Expr) (ms : List (M EV)) : Prop where
  pa : PA X es (fun σ H Q => AtJ j a σ ∧ rdG X.K X.mg W (repSs X.K) (mArgs ms) σ H Q)
structure SSK (X : Cx) (W : WX) (B : Nat → Bool) (j : Nat) (a : Addr) (st : Stmt) (m : Stm) : Prop where
  ps : PS X st (fun D σ H => AtJ j a σ ∧ rdS X.K X.mg W B m D σ H)
structure SSsK (X : Cx) (W : WX) (B : Nat → Bool) (j : Nat) (a : Addr) (st : List Stmt) (m : Stm) : Prop where
  ps : PSs X st (fun D σ H => AtJ j a σ ∧ rdS X.K X.mg W B m D σ H)
section
variable {X : Cx} {W : WX} {j : Nat} {a : Addr} {B : Nat → Bool}
theorem SEK.of {e : Expr} {m : M EV} (h : SE X W e m) : SEK X W j a e m := ⟨peImp h.pe fun _ _ _ q => q.2⟩
theorem SEK.v {e : Expr} {m : M EV} (h : SEK X W j a e m) : PE X e (fun σ H Q => AtJ j a σ ∧ rdV X.K X.mg W m σ H Q) := peImp h.pe fun _ _ _ q => ⟨q.1, rdE_of_rdV q.2⟩
theorem SAK.nil : SAK X W j a [] [] := ⟨paImp SA.nil.pa fun _ _ _ q => q.2⟩
theorem SAK.cons {e : Expr} {es : List Expr} {m : M EV} {ms : List (M EV)} (h : SEK X W j a e m) (hr : SAK X W j a es ms) (hs : starEach (e :: es) X.env = (false, eval e X.env) :: starEach es X.env := by rfl) : SAK X W j a (e :: es) (m :: ms) := by
  refine ⟨paImp (pa_cons h.v hr.pa hs) fun σ H Q q => ?_⟩
  obtain ⟨ej, ρ, F, r, q⟩ := q
  refine ⟨ej, ?_⟩
  refine rdV_bindG (rep := repSs X.K) r q fun v ρ1 F1 H1 x r1 s1 e1 q => ?_
  refine ⟨ej, ?_⟩
  refine rdG_bindG (rep2 := repSs X.K) r1 q fun vs ρ2 F2 H2 xs r2 s2 e2 q => ?_
  refine q.here r2 ?_
  exact .cons (e1.mono s2.le) e2
theorem call_isP {D : Addr} {oe : Obj} (C : ExcC X.K D) (hz : Zc (.ref D) none oe) (hf : ∃ vs, oe.data = .fields vs) (hp : (a, oe) ∈ X.pn) : CallR X (.builtin "isinstance") (rIsE X.K D a) := by
  intro pins s σ H xs us Q I r h
  obtain ⟨c, cv, b, rfl, hcv, e, q⟩ := h
  obtain ⟨u1, us, rx, rr, rfl⟩ : ∃ u1 us', RelV (.ref a) u1 ∧ Vals [c] us' ∧ us = u1 :: us' := by
    cases r with
    | cons p q => exact ⟨_, _, p, q, rfl⟩
  obtain ⟨u2, rfl, rt⟩ := rr.one
  cases rx
  have ec := hcv _ rt
  subst ec
  obtain ⟨hget, _⟩ := I.pin (a, oe) (List.mem_append.mpr (.inl hp))
  obtain ⟨vs, hv⟩ := hf
  have J : PySem.W.InstAt s.heap a oe D none := by
    obtain ⟨oc, od, oda, osl⟩ := oe
    obtain ⟨h1, h2⟩ := hz
    dsimp only at h1 h2 hv
    subst h1 h2 hv
    exact ⟨hget, rfl, rfl, trivial⟩
  exact PySem.W.kia_one (PySem.W.handS_kitx_exc C.hg C.hk C.hs C.hd C.ha C.hn C.ht C.hm) I.kIn J e (fun z => nomatch z) fun tk => ⟨.bl b, H, I.kept (t' := tk) fun _ _ z => z, rfl, q⟩
theorem SEK.isE {D Ci : Addr} {n x : Str} {p p1 p2 pos : Pos} (b : Bool) (hi : CallR X (.builtin "isinstance") (rIsE X.K D a)) (hm : X.mg "isinstance" = none) (hx : X.mg x = some (.ref Ci)) (hk : PySem.W.kitOne X.K (.ref D) (.ref Ci) = some b)
    (hN : X.N[j]? = some n := by rfl) (hv : Vis X.env.scope n := by first | exact Or.inl rfl | exact Or.inr (Or.inl rfl) | exact Or.inr (Or.inr rfl)) (hd : (n == ("__debug__" : Str)) = false := by decide) (hcd : (n == ("__classdict__" : Str)) = false := by decide)
    (hg : Gl X "isinstance" := by rfl) (hgx : Gl X x := by rfl) (hdb : (x == ("__debug__" : Str)) = false := by decide)
    (h1 : starEach [.Name n p1, .Name x p2] X.env = (false, eval (.Name n p1) X.env) :: starEach [.Name x p2] X.env := by rfl) (h2 : starEach [.Name x p2] X.env = (false, eval (.Name x p2) X.env) :: starEach [] X.env := by rfl) (hpl : (backTo pos (starEach [.Name x p2] X.env)).any (·.1) = false := by rfl) :
    SEK X W j a (.Call (.Name "isinstance" p) [.Name n p1, .Name x p2] [] pos) (mC (.bool b)) := by
  refine ⟨peImp (pe_callB hi hg hm bt_isinstance (pa_cons (pe_var hN hv hd hcd) (pa_cons (pe_glob (v := .ref Ci) hgx hx rfl hdb) pa_nil h2) h1) (by decide) (by decide) h1 hpl) fun σ H Q q => ?_⟩
  obtain ⟨ej, ρ, F, r, q⟩ := q
  refine ⟨.ref a, ej, .ref Ci, .ref Ci, b, rfl, fun u z => z, hk, ?_⟩
  exact PostE.here q r (by show Rep _ _ _ _; simp only [Rep])
theorem SEK.lst {es : List Expr} {pos : Pos} {ms : List (M EV)} (h : SAK X W j a es ms) (hl : ms.length ≤ 100000 := by exact Nat.le_of_ble_eq_true rfl) : SEK X W j a (.List es pos) (mLst ms) := by
  refine ⟨peImp (pe_lst h.pa) fun σ H Q q => ?_⟩
  obtain ⟨ej, ρ, F, r, q⟩ := q
  have hlen : ∀ vs ρ', mArgs ms ρ = .ok (vs, ρ') → vs.length ≤ sizeLine := fun vs ρ' e => by rw [mArgs_len ms ρ vs ρ' e]; exact line_of hl
  refine ⟨ej, ρ, F, r, ?_⟩
  unfold mLst at q
  cases e : mArgs ms ρ with
  | ok p =>
    obtain ⟨vs, ρ1⟩ := p
    rw [e] at q
    intro F1 H1 xs r1 s1 e1
    have q' := PostE.shift s1 q
    obtain ⟨ds, l, q'⟩ := calm_bind (r := dataOf vs) (f := fun ds => R.ok (EV.new (.lst ds), ρ1)) (calm_dataOf vs) q'
    have hr := data_rep e1 l
    have hz : xs.length ≤ sizeLine := by rw [← hr.length, dataOf_len l]; exact hlen _ _ e
    refine ⟨hz, fun p hp => ?_⟩
    exact (q'.prim r1).newO r1.le hp ⟨xs, upd_same, hz, hr⟩
  | ex c => rw [e] at q; exact q
  | bad => rw [e] at q; exact q
theorem SEK.bin {e1 e2 : Expr} {pos : Pos} {o : Operator} {op : Dt → Dt → R EV} {ma mb : M EV} (ho : OpR X (binaryOp o) (rd2 X.K op)) (hc : ∀ a b, Calm (op a b)) (ha : SEK X W j a e1 ma) (hb : SEK X W j a e2 mb) : SEK X W j a (.BinOp e1 o e2 pos) (mBin op ma mb) := by
  refine ⟨peImp (pe_op ho ha.v hb.v) fun σ H Q q => ?_⟩
  obtain ⟨ej, q⟩ := q
  refine ⟨ej, ?_⟩
  have q2 : rdV X.K X.mg W ma σ H fun x H1 => AtJ j a σ ∧ rdV X.K X.mg W mb σ H1 fun y H2 => rd2 X.K op x y H2 Q := by
    obtain ⟨ρ, F, r, q⟩ := q
    refine rdV_bind r q fun v ρ1 F1 H1 x r1 s1 e1 q => ?_
    refine ⟨ej, ?_⟩
    refine rdV_bind r1 q fun w ρ2 F2 H2 y r2 s2 e2 q => ?_
    obtain ⟨da, l1, q⟩ := look_bind q
    obtain ⟨db, l2, q⟩ := look_bind q
    obtain ⟨u, l3, q⟩ := calm_bind (hc da db) q
    exact ⟨F2, da, db, u, l3, r2.le, look_rep r2 (e1.mono s2.le) (by rw [look_settle]; exact l1), look_rep r2 e2 (by rw [look_settle]; exact l2), PostE.prim r2 q⟩
  exact q2
theorem SSK.of {st : Stmt} {m : Stm} (h : SS X W B st m) : SSK X W B j a st m := ⟨psImp h.ps fun _ _ _ q => q.2⟩
theorem SSK.set (i : Nat) {x : Str} {e : Expr} {pos pos' : Pos} {m : M EV} (hN : X.N.Nodup) (he : SEK X W j a e m) (hB : B i = false := by rfl) (hi : X.N[i]? = some x := by rfl) (hx : Loc X.env.scope x := by first | exact Or.inl rfl | exact Or.inr rfl)
    (hs : swapsWith e (some (.Name x pos')) pos.line X.env = pure false := by rfl) (hf : X.fn x = true ∨ X.env.scope.names.lookup x = some .local := by first | exact .inl rfl | exact .inr rfl) : SSK X W B j a (.Assign [.Name x pos'] e pos) (mSet i m) := by
  refine ⟨psImp (ps_set hN hi hx he.pe hs hf) fun D σ H q => ?_⟩
  obtain ⟨ej, ρ, F, r, q⟩ := q
  refine ⟨ej, ?_⟩
  refine rdE_bindS r q fun v ρ1 F1 H1 x r1 s1 e1 q0 _ => ?_
  obtain ⟨ρ2, l, q0⟩ := calm_bindS (calm_store i v ρ1) q0
  obtain ⟨F2, r2, s2⟩ := store_ok' r1 s1 e1 l
  exact q0 F2 _ H1 r2 s2 (keeps_set hB)
theorem SSsK.one {st : Stmt} {m : Stm} (h : SSK X W B j a st m) : SSsK X W B j a [st] m := ⟨pss_one h.ps⟩
theorem SSsK.cons {st : Stmt} {rest : List Stmt} {m n : Stm} (hB : B j = true) (h : SSK X W B j a st m) (h2 : SSsK X W B j a rest n) : SSsK X W B j a (st :: rest) (mSeq m n) := by
  refine ⟨pssImp (pss_cons h.ps h2.ps) fun D σ H q => ?_⟩
  obtain ⟨ej, ρ, F, r, q⟩ := q
  refine ⟨ej, ρ, F, r, ?_⟩
  unfold mSeq at q
  cases e : m ρ with
  | bad => rw [e] at q; exact q
  | ex c => rw [e] at q; exact q
  | ok y =>
    obtain ⟨fl, ρ1⟩ := y
    rw [e] at q
    simp only [R.bind] at q
    cases fl with
    | nxt =>
      intro F1 σ1 H1 r1 s1 k1
      exact ⟨(k1.2 j hB).trans ej, ρ1, F1, r1, PostS.shift s1 k1 q⟩
    | brk => exact q
    | cnt => exact q
    | ret v => exact q
end
/-! ### a def that is given the caught exception -/
theorem blank_get {α : Type} {n i : Nat} {x : α} (e : (List.replicate n (none : Option α))[i]? = some (some x)) : False := by
  rw [List.getElem?_replicate] at e
  split at e <;> cases e
theorem rel_blank {K : PySem.W.Frag} {F H : Hp} {σ : L2.St} {n : Nat} (le : LeH F H) (h : n = σ.length) : Rel K F (List.replicate n none) σ H where
  le := le
  len := by rw [List.length_replicate]; exact h
  val := fun i d e => (blank_get e).elim
  own := fun i o e => (blank_get e).elim
  dis := fun i j p o o' e => (blank_get e).elim
def spK (K : PySem.W.Frag) (out : Dt) (a : Addr) : Sp := fun vs H Q _ => vs = [.ref a] ∧ ∃ F, LeH F H ∧ PostP K F H (.val out) Q
structure FnK (P : Program) (w : World) (K : PySem.W.Frag) (mg : Str → Option Value) (base : Heap) (C : Addr) (out : Dt) (k : Nat) (f : Addr) (fd : FuncData) (ps : List Str) : Prop where
  one : ps.length = 1
  run : ∀ (A : Around) (outer : List Env) (s : Shared) (H : Hp) (args : Args) (us : List Value) (vs : List V) (Q : VK) (p : Addr × Obj), L2H.RoomH k A → L2H.Hot1 A p → L2N.Zn (.ref C) none p.2 → L2H.PinOk outer H s p → Env0 P w K mg base A outer s H → BindsTo s fd args (ps.zip us) → Vals vs us → spK K out p.1 vs H Q (fun _ _ _ => False) →
    codeAny (model P w) A (.call (.ref f) args) (CR (L2N.CX P w) outer P w H s Q (fun _ _ _ => False)) s
abbrev cxK (P : Program) (w : World) (K : PySem.W.Frag) (mg : Str → Option Value) (base : Heap) (N : List Str) (x : Str) (st : Stmt) (f : Addr) (cdv : Value) (A : Around) (outer : List Env) (s : Shared) (H : Hp) (p : Addr × Obj) : Cx :=
  L2H.cxH (L2N.CX P w) P w K mg base N x (defScope st) f cdv A outer s H (fun _ _ _ => False) p
theorem fnK_mk {P : Program} {w : World} {K : PySem.W.Frag} {mg : Str → Option Value} {base : Heap} {C : Addr} {out : Dt} {k : Nat} {x y : Str} {st : Stmt} {f : Addr} {fd : FuncData} {N : List Str} {n : Nat} {B : Nat → Bool} (m : Stm) (F : Fun K x x st f fd) (S : FnScope N [y] (defScope st)) (hn : N.length = n + 1)
    (hm : ∃ ρ', m (List.replicate (n + 1) none) = .ok (.ret (.val out), ρ'))
    (body : ∀ (cdv : Value) (A : Around) (outer : List Env) (s : Shared) (H : Hp) (p : Addr × Obj), L2H.Hot1 A p → L2N.Zn (.ref C) none p.2 → L2H.RoomH k (A.deeper (envOfC x (defScope st) s.heap.objs.size f cdv)) → SSsK (cxK P w K mg base N x st f cdv A outer s H p) W0 B 0 p.1 (defBody st) m) :
    FnK P w K mg base C out (k + 1) f fd [y] := by
  obtain ⟨oc, od, kV, doc, pm, an, cdv, ct, osl, rfl, lk, hcd⟩ := F.ex
  refine ⟨rfl, fun A outer s H args us vs Q p hr hot hz hpin e0 hb r hsp => ?_⟩
  obtain ⟨rfl, F0, le, q⟩ := hsp
  have KX : K.In s.heap := e0.mod.kin.keeps fun b o e => (e0.bs b o e).1
  have lim : s.heap.NoLimit := e0.mod.nolimit.keeps fun b o e => (e0.bs b o e).1
  have hkind : ∀ z ∈ [y].zip us, (defScope st).names.lookup z.1 = some .local ∨ ((defScope st).names.lookup z.1 = some .cell ∧ ((cellsFrom (s.heap.objs.size + 1) (defScope st).names []).lookup z.1).isSome = true) := fun ⟨n, v⟩ hy => by
    rcases S.par n (List.of_mem_zip hy).1 with q | q
    · exact .inl q
    · exact .inr ⟨q, PySem.W.cellsFrom_some _ _ _ (.inl q)⟩
  refine codeAny_call_function hr.depth (KX _ _ lk) rfl S.co S.gen rfl (PySem.W.codeRec_of KX hcd) (hb _ _ _ _ ?_)
  refine wpAny_newFunctionEnv_cells S.kind hkind fun env he s1 x1 => ?_
  subst he
  refine ⟨lim.keeps x1.toInCall.keep, codeAny_func ?_⟩
  have I := L2H.inv_startH (E := fun _ _ _ => False) (CX := L2N.CX P w) S hpin e0 rfl r x1
  obtain ⟨ρ', em⟩ := hm
  have hst : L2.start N [.ref p.1] = some (.ref p.1) :: List.replicate n none := by
    unfold L2.start
    rw [hn]; rfl
  have rel : Rel K F0 (List.replicate (n + 1) none) (L2.start N [.ref p.1]) H := rel_blank le (by rw [hst]; simp)
  have none_own : ∀ a, ¬ OwnS (List.replicate (n + 1) none) (L2.start N [.ref p.1]) a := fun a ⟨i, o, e, _⟩ => blank_get e
  refine wpAny_mono ((body cdv A outer s H p hot hz (hr.deeper _)).ps.run [] s1 (L2.start N [.ref p.1]) H { nx := fun _ H' => Q .non H', rt := Q } I ⟨by rw [hst]; rfl, _, F0, rel, ?_⟩) (fun fl s' hs => ?_) fun e s' hs => hs
  · rw [em]
    intro F' σ' H' r' s' k' z ez
    exact q F' H' z s'.le (fun a h1 h2 => (s'.grow a h1 h2).elim id fun w => absurd w (none_own a)) (fun a o h => s'.keep a o h (none_own a)) r'.le ez
  have fin : ∀ {σ' : L2.St} {H' : Hp} {v : V} {u : Value}, Inv (cxK P w K mg base N x st f cdv A outer s H p) [] σ' H' s' → RelV v u → Q v H' → CE outer P w H s Q u s' :=
    fun {σ' H' v u} J rv q => ⟨v, H', J.os, J.bare, J.base, J.hok, rv, q⟩
  cases fl with
  | ret u =>
    obtain ⟨v, σ', H', J, rv, q⟩ := hs
    exact fin J rv q
  | next =>
    obtain ⟨σ', H', J, q⟩ := hs
    exact fin (v := V.non) (u := Value.none) J rfl q
  | brk =>
    obtain ⟨_, _, _, q⟩ := hs
    exact False.elim q
  | cont =>
    obtain ⟨_, _, _, q⟩ := hs
    exact False.elim q
end Mv
set_option Elab.async false
set_option linter.all false
set_option maxRecDepth 100000
set_option maxHeartbeats 4000000
namespace Mv
open PySem PySem.Spec PyProof.Rows L2

/-! ### try: .. except E as error: .. kind(error) .. -/
/-- kind tells out of a caught c (an error below pe) -/
structure Caught (P : Program) (w : World) (K : PySem.W.Frag) (mg : Str → Option Value) (base : Heap) (kn : Str) (k : Nat) (pe c : Str) (out : Dt) : Prop where
  ex : ∃ C Cp f fd y, mg c = some (.ref C) ∧ mg pe = some (.ref Cp) ∧ PySem.W.exmOne K (.ref C) (.ref Cp) = some true ∧ mg kn = some (.ref f) ∧ PySem.W.keepIn K (.ref f) = true ∧ Binds K fd [y] [] ∧ FnK P w K mg base C out k f fd [y]
/-- what the handler tells, class by class -/
def Kinds (P : Program) (w : World) (K : PySem.W.Frag) (mg : Str → Option Value) (base : Heap) (kn : Str) (k : Nat) (pe : Str) (kf : Str → Option Dt) : Prop := (∃ Cp, mg pe = some (.ref Cp)) ∧ ∀ c out, kf c = some out → Caught P w K mg base kn k pe c out
def blankR (ρ : Rho) : Rho := List.replicate ρ.length none
section
variable {X : Cx} {j k : Nat} {a : Addr} {oe : Obj} {pn : List (Addr × Obj)} {kn n pe : Str}
/-- what a call of the def on the caught exception asks -/
def tK (P : Program) (w : World) (K : PySem.W.Frag) (mg : Str → Option Value) (base : Heap) (kn : Str) (k : Nat) (pe : Str) (j : Nat) (a : Addr) (cls : Value) : TE := fun σ H Q => ∃ c C out, cls = .ref C ∧ mg c = some (.ref C) ∧ Caught P w K mg base kn k pe c out ∧ AtJ j a σ ∧ ∃ F, LeH F H ∧ PostP K F H (.val out) Q
theorem roomH_mark {A : Around} {k : Nat} (hr : Room k A) (v : Option Value) : L2H.RoomH k (A.mark v) := ⟨hr.dp, hr.un⟩
theorem pe_callK {cls : Value} {d : Option Addr} {p p1 pos : Pos} (hr : Room k X.A) (hz : L2N.Zn cls d oe) (hd : d = none) (hf : ∃ vs, oe.data = .fields vs) (hN : X.N[j]? = some n) (hv : Vis X.env.scope n)
    (hg : Gl X kn) (hdn : (n == ("__debug__" : Str)) = false := by decide) (hcd : (n == ("__classdict__" : Str)) = false := by decide) (hdb : (kn == ("__debug__" : Str)) = false := by decide)
    (he : starEach [.Name n p1] X.env = (false, eval (.Name n p1) X.env) :: starEach [] X.env := by rfl) (hpl : (backTo pos (starEach [] X.env)).any (·.1) = false := by rfl) :
    PE (X.suite a ((a, oe) :: pn)) (.Call (.Name kn p) [.Name n p1] [] pos) (tK X.prog X.w X.K X.mg X.base kn k pe j a cls) := by
  subst hd
  refine ⟨fun pins s σ H Q I h => ?_⟩
  obtain ⟨c, C, out, rfl, hc, ⟨C', Cp, f, fd, y, e1, _, _, hm, hk, hb, G⟩, ej, F0, le, q⟩ := h
  rw [hc] at e1; cases e1
  obtain ⟨vs, hvs⟩ := hf
  have hot : L2H.Hot1 (X.suite a ((a, oe) :: pn)).A (a, oe) := ⟨rfl, vs, hvs, hz.2.2 vs hvs⟩
  refine wpAny_Call_Name_kw (ld_glob I hg hm ?_ hdb)
  refine PySem.W.callWith_K (h₀ := X.base) I.ok.mod.kin hk (thn ((pa_cons (pe_var (X := X.suite a ((a, oe) :: pn)) hN hv hdn hcd) pa_nil he).run pos pins s σ H (fun vs H1 => vs = [.ref a] ∧ H1 = H) I ⟨.ref a, ej, rfl, rfl⟩) fun us s1 ⟨vs1, H1, I1, r, e2, e3⟩ => ⟨I1.kIn, ?_⟩) he hpl
  subst e2; subst e3
  have hl : us.length = [y].length := by rw [← r.length]; rfl
  have b := hb s1 us I1.kIn (by rw [List.append_nil]; exact hl)
  rw [List.append_nil] at b
  have P1 := I1.pin (a, oe) (List.mem_append_left _ List.mem_cons_self)
  have hpin : L2H.PinOk X.stack H1 s1 (a, oe) := ⟨P1.1, P1.2.1, fun hm => (List.mem_cons.mp (I1.stkSub a hm)).elim P1.2.2.1 P1.2.2.2.1, P1.2.2.2.2⟩
  refine wpAny_call (codeAny_mono (G.run _ X.stack s1 H1 ⟨us, []⟩ us [.ref a] Q (a, oe) (roomH_mark hr _) hot hz hpin I1.env0 b r ⟨rfl, F0, le, q⟩) fun r s' hq => ?_)
  cases r with
  | error e =>
    obtain ⟨_, _, _, _, _, _, _, _, _, _, _, _, z⟩ := hq
    exact z.elim
  | ok fl =>
    cases fl with
    | ret u => exact I1.after hq
    | next => exact False.elim hq
    | brk => exact False.elim hq
    | cont => exact False.elim hq
end
section
variable {X : Cx} {W : WX} {B : Nat → Bool}
theorem own_blank {ρ : Rho} {σ : L2.St} {a : Addr} : ¬ OwnS (blankR ρ) σ a := fun ⟨i, o, e, _⟩ => blank_get e
/-- behind a catch -/
theorem caught_rel {K : PySem.W.Frag} {F F' H H' F2 H2 : Hp} {ρ : Rho} {σ σ' σ2 : L2.St} (r : Rel K F ρ σ H) (a : Air F ρ σ H F' H') (hl : σ2.length = σ.length) (f : LeF F' F2) (g : ∀ a, F' a = none → F2 a ≠ none → H' a = none) (hh : LeF H' H2) (l : LeH F2 H2) :
    Rel K F2 (blankR ρ) σ2 H2 ∧ Step F ρ σ H F2 (blankR ρ) σ2 H2 := by
  refine ⟨rel_blank l (by rw [hl]; exact r.len), ⟨a.le.trans f, fun y h1 h2 => ?_, fun y o h1 h2 => hh _ _ (a.keep y o h1 h2), fun y h => ?_, fun y h => absurd h own_blank⟩⟩
  · by_cases c : F' y = none
    · have := g y c h2
      by_cases c2 : H y = none
      · exact .inl c2
      · exact absurd this (a.dom y c2)
    · exact a.grow y h1 c
  · have := a.dom y h
    cases e : H' y with
    | none => exact absurd e this
    | some o => rw [hh y o e]; simp
/-- return kind(error) -/
def mTryK (kf : Str → Option Dt) (mb : Stm) : Stm := fun ρ => match mb ρ with
  | .ex c => match kf c with
    | some d => .ok (.ret (.val d), blankR ρ)
    | none => .bad
  | r => r
theorem SS.tryK (i : Nat) {kf : Str → Option Dt} {k : Nat} {x n kn : Str} {body : List Stmt} {mb : Stm} {np p1 p2 p3 p4 pos pos' : Pos} (hs : X.stack = X.env :: X.outer) (hf : X.env.frame = some X.env.locals) (hN : X.N.Nodup) (hr : Room k X.A) (tk : L2N.Takes X W)
    (hk : Kinds X.prog X.w X.K X.mg X.base kn k x kf) (hb : ∀ (W' : WX) (pn : List (Addr × Obj)) (xe : Value → Shared → Prop), L2N.Takes (X.tr pn xe) W' → PassesOwn (model X.prog X.w) X.A X.env xe → SSs (X.tr pn xe) W' B body mb)
    (hB : B i = false := by rfl) (hi : X.N[i]? = some n := by rfl) (hln : X.env.kindOf n = some .local := by rfl) (hv : Vis X.env.scope n := by first | exact Or.inl rfl | exact Or.inr (Or.inl rfl) | exact Or.inr (Or.inr rfl))
    (hgx : Gl X x := by rfl) (hxd : (x == ("__debug__" : Str)) = false := by decide) (hgk : Gl X kn := by rfl) (hdn : (n == ("__debug__" : Str)) = false := by decide) (hcd : (n == ("__classdict__" : Str)) = false := by decide) (hdb : (kn == ("__debug__" : Str)) = false := by decide)
    (he : starEach [.Name n p2] X.env = (false, eval (.Name n p2) X.env) :: starEach [] X.env := by rfl) (hpl : (backTo p3 (starEach [] X.env)).any (·.1) = false := by rfl) :
    SS X W B (.Try body [.ExceptHandler (some (.Name x np)) (some n) [.Return (some (.Call (.Name kn p1) [.Name n p2] [] p3)) p4] pos'] [] [] pos) (mTryK kf mb) := by
  obtain ⟨⟨Cp, hCp⟩, hk⟩ := hk
  refine ⟨⟨fun pins s σ H D I q => (L2N.ps_try_as (Wout := W) (c := .ref Cp) (tb := fun W' => rdS X.K X.mg W' B mb) (ts := fun a cls d D σ H => d = none ∧ tK X.prog X.w X.K X.mg X.base kn k x i a cls σ H D.rt) hs hf hN hi hln ⟨hgx, hxd, .inl hCp⟩ tk (fun W' pn xe t p => (hb W' pn xe t p).ps)
    (fun a oe cls d pn hz hfd => ⟨fun pins s σ H D I h => (pss_one (ps_ret (pe_callK (X := X) (pe := x) hr hz h.1 hfd hi hv hgk hdn hcd hdb he hpl))).run pins s σ H D I h.2⟩)).run pins s σ H D I ?_⟩⟩
  have hlen : i < σ.length := by
    rw [I.len]
    exact (List.getElem?_eq_some_iff.mp hi).1
  obtain ⟨ρ, F, r, q⟩ := q
  refine ⟨ρ, F, r, ?_⟩
  unfold mTryK at q
  cases e : mb ρ with
  | bad => rw [e] at q; exact q
  | ok y => rw [e] at q; exact q
  | ex c =>
    rw [e] at q
    simp only at q
    intro F' H' C σ' kp ai hc
    cases ek : kf c with
    | none => rw [ek] at q; exact False.elim q
    | some d =>
      rw [ek] at q
      have cc := hk c d ek
      obtain ⟨C', Cp', _, _, _, e1, e2, hx, _⟩ := cc.ex
      rw [hc] at e1; cases e1
      rw [hCp] at e2; cases e2
      refine ⟨true, hx, fun _ a ha => ⟨rfl, c, C, d, rfl, hc, cc, ?_, F', ai.leH, fun F2 H2 z f g hh l ez => ?_⟩, fun z => by cases z⟩
      · show (σ'.set i (some (.ref a)))[i]? = _
        have hl : i < σ'.length := by rw [kp.1]; exact hlen
        rw [List.getElem?_set_self hl]
      · obtain ⟨r2, s2⟩ := caught_rel (σ' := σ') (σ2 := σ'.set i (some (.ref a))) r ai (by rw [List.length_set]; exact kp.1) f g hh l
        exact q F2 _ H2 r2 s2 ⟨by rw [List.length_set]; exact kp.1, fun m hm => by
          have : i ≠ m := fun z => by subst z; rw [hB] at hm; cases hm
          rw [List.getElem?_set_ne this]; exact kp.2 m hm⟩ z ez
/-- if kind(error) != z: return False -/
def mTryIf (kf : Str → Option Dt) (z : Str) (mb : Stm) : Stm := fun ρ => match mb ρ with
  | .ex c => match kf c with
    | some (.str y) => if y = z then .ok (.nxt, blankR ρ) else .ok (.ret (.val (.bool false)), blankR ρ)
    | _ => .bad
  | r => r
theorem SS.tryIf (i : Nat) {kf : Str → Option Dt} {k j1 j2 : Nat} {x n kn z : Str} {body : List Stmt} {mb : Stm} {np p1 p2 p3 p4 p5 p6 p7 p8 pos pos' : Pos} (hs : X.stack = X.env :: X.outer) (hf : X.env.frame = some X.env.locals) (hN : X.N.Nodup) (hr : Room k X.A) (tk : L2N.Takes X W)
    (hk : Kinds X.prog X.w X.K X.mg X.base kn k x kf) (hb : ∀ (W' : WX) (pn : List (Addr × Obj)) (xe : Value → Shared → Prop), L2N.Takes (X.tr pn xe) W' → PassesOwn (model X.prog X.w) X.A X.env xe → SSs (X.tr pn xe) W' B body mb)
    (hB : B i = false := by rfl) (hi : X.N[i]? = some n := by rfl) (hln : X.env.kindOf n = some .local := by rfl) (hv : Vis X.env.scope n := by first | exact Or.inl rfl | exact Or.inr (Or.inl rfl) | exact Or.inr (Or.inr rfl))
    (hgx : Gl X x := by rfl) (hxd : (x == ("__debug__" : Str)) = false := by decide) (hgk : Gl X kn := by rfl) (hdn : (n == ("__debug__" : Str)) = false := by decide) (hcd : (n == ("__classdict__" : Str)) = false := by decide) (hdb : (kn == ("__debug__" : Str)) = false := by decide)
    (he : starEach [.Name n p2] X.env = (false, eval (.Name n p2) X.env) :: starEach [] X.env := by rfl) (hpl : (backTo p3 (starEach [] X.env)).any (·.1) = false := by rfl) :
    SS X W B (.Try body [.ExceptHandler (some (.Name x np)) (some n) [.If (.Compare (.Call (.Name kn p1) [.Name n p2] [] p3) [.NotEq] [.Constant (.str z) j1 p4] p5) [.Return (some (.Constant (.bool false) j2 p6)) p7] [] p8] pos'] [] [] pos) (mTryIf kf z mb) := by
  obtain ⟨⟨Cp, hCp⟩, hk⟩ := hk
  refine ⟨⟨fun pins s σ H D I q => (L2N.ps_try_as (Wout := W) (c := .ref Cp) (tb := fun W' => rdS X.K X.mg W' B mb) (ts := fun a cls d D σ H => d = none ∧ tK X.prog X.w X.K X.mg X.base kn k x i a cls σ H fun v H1 => ∃ y : Str, v = .str y ∧ if y = z then D.nx σ H1 else D.rt (.bl false) H1) hs hf hN hi hln ⟨hgx, hxd, .inl hCp⟩ tk (fun W' pn xe t p => (hb W' pn xe t p).ps)
    (fun a oe cls d pn hz hfd => ⟨fun pins s σ H D I h => ?_⟩)).run pins s σ H D I ?_⟩⟩
  · refine (pss_one (ps_if (pt_cmpR op_ne (pe_callK (X := X) (pe := x) hr hz h.1 hfd hi hv hgk hdn hcd hdb he hpl) pe_str (nomark _)) (pss_one (ps_ret pe_bl)) pss_nil)).run pins s σ H D I ?_
    obtain ⟨_, c, C, out, h1, h2, h3, h4, F, h5, h6⟩ := h
    refine ⟨c, C, out, h1, h2, h3, h4, F, h5, fun F' H' v f g hh l ev => ?_⟩
    obtain ⟨y, rfl, hq⟩ := h6 F' H' v f g hh l ev
    refine ⟨rfl, _, rfl, ?_⟩
    refine ite2 (fun hc => ?_) (fun hc => ?_)
    · have c : y ≠ z := fun w => by subst w; simp at hc
      rw [if_neg c] at hq
      exact hq
    · have c : y = z := by
        by_cases c : y = z
        · exact c
        · exfalso
          refine hc ?_
          have : (V.str y : V) ≠ V.str z := fun w => c (V.str.inj w)
          simp [this]
      rw [if_pos c] at hq
      exact hq
  have hlen : i < σ.length := by
    rw [I.len]
    exact (List.getElem?_eq_some_iff.mp hi).1
  obtain ⟨ρ, F, r, q⟩ := q
  refine ⟨ρ, F, r, ?_⟩
  unfold mTryIf at q
  cases e : mb ρ with
  | bad => rw [e] at q; exact q
  | ok y => rw [e] at q; exact q
  | ex c =>
    rw [e] at q
    simp only at q
    intro F' H' C σ' kp ai hc
    cases ek : kf c with
    | none => rw [ek] at q; exact False.elim q
    | some d =>
      rw [ek] at q
      cases d <;> try (exact False.elim q)
      rename_i y
      simp only at q
      have cc := hk c _ ek
      obtain ⟨C', Cp', _, _, _, e1, e2, hx, _⟩ := cc.ex
      rw [hc] at e1; cases e1
      rw [hCp] at e2; cases e2
      refine ⟨true, hx, fun _ a ha => ⟨rfl, c, C, _, rfl, hc, cc, ?_, F', ai.leH, fun F2 H2 v f g hh l ev => ?_⟩, fun z => by cases z⟩
      · show (σ'.set i (some (.ref a)))[i]? = _
        have hl : i < σ'.length := by rw [kp.1]; exact hlen
        rw [List.getElem?_set_self hl]
      · have ev' : Rep X.K F2 (.str y) v := ev
        simp only [Rep] at ev'
        subst ev'
        refine ⟨y, rfl, ?_⟩
        have keep : ∀ σ2 : L2.St, σ2.length = σ'.length → (∀ m, m ≠ i → σ2[m]? = σ'[m]?) → Keeps B σ σ2 := fun σ2 h1 h2 => ⟨h1.trans kp.1, fun m hm => by
          have : m ≠ i := fun z => by subst z; rw [hB] at hm; cases hm
          rw [h2 m this]; exact kp.2 m hm⟩
        by_cases c2 : y = z
        · rw [if_pos c2] at q ⊢
          have hl : (((σ'.set i (some (.ref a))).set i none).length = σ.length) := by rw [List.length_set, List.length_set]; exact kp.1
          obtain ⟨r2, s2⟩ := caught_rel (σ' := σ') r ai hl f g hh l
          exact q F2 _ H2 r2 s2 (keep _ (by simp) fun m hm => by rw [List.getElem?_set_ne (Ne.symm hm), List.getElem?_set_ne (Ne.symm hm)])
        · rw [if_neg c2] at q ⊢
          obtain ⟨r2, s2⟩ := caught_rel (σ' := σ') (σ2 := σ'.set i (some (.ref a))) r ai (by rw [List.length_set]; exact kp.1) f g hh l
          exact q F2 _ H2 r2 s2 (keep _ (by simp) fun m hm => by rw [List.getElem?_set_ne (Ne.symm hm)]) (.bl false) (by show Rep _ _ _ _; simp only [Rep])
end
end Mv
set_option Elab.async false
set_option linter.all false
set_option maxRecDepth 100000
set_option maxHeartbeats 4000000
namespace Mv
open PySem PySem.Spec PyProof.Rows L2

/-! ### a def that never ends -/
theorem DefG.zero {P : Program} {w : World} {K : PySem.W.Frag} {mg : Str → Option Value} {base : Heap} {k : Nat} {x : Str} {st : Stmt} {ps : List Str} {np : Nat} (F : FunT K mg x st ps) (h : ps.length = np) : DefG P w K mg base k x np (fun _ => .bad) := by
  obtain ⟨f, fd, F1, hm, hb⟩ := F.ex
  refine ⟨f, fd, ps, hm, F1.kp, hb, fun vs H Q E q => ?_, fun A outer s H args us vs Q E hr hgd e0 b r q => ?_⟩
  · obtain ⟨_, _, _, _, z⟩ := q
    exact False.elim z
  · obtain ⟨_, _, _, _, z⟩ := q
    exact False.elim z
/-! ### calls of defs that are chosen -/
/-- at f stands a def that keeps fn's promise -/
def FnAt (X : Cx) (k np : Nat) (f : Addr) (fn : Fn) : Prop := ∃ fd ps, PySem.W.keepIn X.K (.ref f) = true ∧ Binds X.K fd ps [] ∧ FnG X.prog X.w X.K X.mg X.base (L2N.CX X.prog X.w) k f fd ps (spG X.K X.mg np fn)
theorem DefG.at {X : Cx} {k np : Nat} {x : Str} {fn : Fn} (D : DefG X.prog X.w X.K X.mg X.base k x np fn) : ∃ f, X.mg x = some (.ref f) ∧ FnAt X k np f fn := by
  obtain ⟨f, fd, ps, hm, hk, hb, G⟩ := D.ex
  exact ⟨f, hm, fd, ps, hk, hb, G⟩
abbrev repFn (X : Cx) (k np : Nat) : Hp → L2.St → Fn → V → Prop := fun _ _ fn v => ∃ f, v = .ref f ∧ FnAt X k np f fn
structure SF (X : Cx) (W : WX) (k np : Nat) (e : Expr) (m : M Fn) : Prop where
  pe : PE X e (rdG X.K X.mg W (repFn X k np) m)
def mCallF (mf : M Fn) (ms : List (M EV)) : M EV := fun ρ => (mf ρ).bind fun f => (mArgs ms f.2).bind fun a => (argSV a.1 [] a.2).bind fun as => (f.1 as).bind fun r => (noSlot r.1).bind fun v => .ok (v, putBack a.1 as r.2 a.2)
section
variable {X : Cx} {W : WX} {k np : Nat}
theorem SE.callF {ef : Expr} {mf : M Fn} {pos : Pos} {e : Expr} {es : List Expr} {ms : List (M EV)} (hf : SF X W k np ef mf) (hr : Room k X.A) (hgd : X.A.guards = some []) (tk : L2N.Takes X W) (ha : SA X W (e :: es) (mArgs ms)) (hms : ms.length = np := by rfl)
    (harm : eval (.Call ef (e :: es) [] pos) X.env = (do callWith pos (← eval ef X.env) [] (backTo pos (starEach (e :: es) X.env)) (backToKw pos (keywordEach [] X.env))) := by rfl)
    (he : starEach (e :: es) X.env = (false, eval e X.env) :: starEach es X.env := by rfl) (hpl : (backTo pos (starEach es X.env)).any (·.1) = false := by rfl) :
    SE X W (.Call ef (e :: es) [] pos) (mCallF mf ms) := by
  refine ⟨⟨fun pins s σ H Q I h => ?_⟩⟩
  obtain ⟨ρ, F, r, q⟩ := h
  rw [harm]
  have hlen : ∀ ρ vs ρ', mArgs ms ρ = .ok (vs, ρ') → vs.length = np := fun ρ vs ρ' e => by rw [mArgs_len ms ρ vs ρ' e]; exact hms
  have hrd : rdG X.K X.mg W (repFn X k np) mf σ H fun v H1 => ∃ fn f, v = .ref f ∧ FnAt X k np f fn ∧ rdG X.K X.mg W (repSs X.K) (mArgs ms) σ H1 fun xs H2 => ∃ ρ1 F1 vs, Rel X.K F1 ρ1 σ H2 ∧ RepSs X.K F1 σ vs xs ∧ vs.length = np ∧
      PostE X.K X.mg W F1 ρ1 σ H2 ((argSV vs [] ρ1).bind fun as => (fn as).bind fun r => (noSlot r.1).bind fun v => .ok (v, putBack vs as r.2 ρ1)) Q := by
    refine rdG_bindE (rep2 := repFn X k np) r q fun fn ρ1 F1 H1 v r1 s1 e1 q => ?_
    obtain ⟨f, rfl, hf⟩ := e1
    refine ⟨fn, f, rfl, hf, ρ1, F1, r1, ?_⟩
    cases em : mArgs ms ρ1 with
    | ok y =>
      obtain ⟨vs, ρ2⟩ := y
      rw [em] at q
      intro F2 H2 xs r2 s2 e2
      exact ⟨ρ2, F2, vs, r2, e2, hlen _ _ _ em, q.shift s2⟩
    | ex c => rw [em] at q; exact q
    | bad => rw [em] at q; exact q
  refine wpAny_bind (thn (hf.pe.run pins s σ H _ I hrd) fun fv s1 ⟨v, H1, I1, rf, fn, f, ev, ⟨fd, ps, hk, hb, G⟩, q1⟩ => ?_)
  subst ev
  obtain rfl : fv = Value.ref f := rf
  refine PySem.W.callWith_K (h₀ := X.base) I1.ok.mod.kin hk (thn (ha.pa.run pos pins s1 σ H1 _ I1 q1) fun us s2 ⟨xs, H2, I2, rv, ρ1, F1, vs, r1, e1, hn, q2⟩ => ⟨I2.kIn, ?_⟩) he hpl
  exact call_any (x := "") G hb hr hgd tk I2 rv r1 e1 q2 hn
/-- [f, g, ..][i] -/
def mSel (fns : List Fn) (m : M EV) : M Fn := fun ρ => (m ρ).bind fun a => (lookEV a.1 a.2).bind fun d => (intD d).bind fun i => someR (atI fns i) fun f => .ok (f, a.2)
inductive FnsAt (X : Cx) (k np : Nat) : List Addr → List Fn → Prop
  | nil : FnsAt X k np [] []
  | cons {f fs fn fns} : FnAt X k np f fn → FnsAt X k np fs fns → FnsAt X k np (f :: fs) (fn :: fns)
theorem FnsAt.length {fs : List Addr} {fns : List Fn} (h : FnsAt X k np fs fns) : fs.length = fns.length := by
  induction h with
  | nil => rfl
  | cons _ _ ih => simp [ih]
theorem FnsAt.get {fs : List Addr} {fns : List Fn} (h : FnsAt X k np fs fns) : ∀ {i : Nat} {fn : Fn}, fns[i]? = some fn → ∃ f, fs[i]? = some f ∧ FnAt X k np f fn := by
  induction h with
  | nil => intro i fn e; simp at e
  | cons a _ ih =>
    intro i fn e
    cases i with
    | zero => simp at e; subst e; exact ⟨_, rfl, a⟩
    | succ i => exact ih (by simpa using e)
structure SFs (X : Cx) (k np : Nat) (es : List Expr) (fns : List Fn) : Prop where
  pa : ∃ fs, FnsAt X k np fs fns ∧ PA X es (fun _ H Q => Q (fs.map V.ref) H)
theorem SFs.nil : SFs X k np [] [] := ⟨[], .nil, pa_nil⟩
theorem SFs.cons {x : Str} {p : Pos} {fn : Fn} {es : List Expr} {fns : List Fn} (D : DefG X.prog X.w X.K X.mg X.base k x np fn) (h : SFs X k np es fns) (hg : Gl X x := by rfl) (hdb : (x == ("__debug__" : Str)) = false := by decide)
    (hs : starEach (.Name x p :: es) X.env = (false, eval (.Name x p) X.env) :: starEach es X.env := by rfl) : SFs X k np (.Name x p :: es) (fn :: fns) := by
  obtain ⟨f, hm, hf⟩ := D.at
  obtain ⟨fs, h1, h2⟩ := h.pa
  exact ⟨f :: fs, .cons hf h1, paImp (pa_cons (pe_glob (v := .ref f) hg hm rfl hdb) h2 hs) fun σ H Q q => q⟩
theorem atI_get' {α β : Type} {R : α → β → Prop} {xs : List α} {ys : List β} (hl : xs.length = ys.length) (h : ∀ {i : Nat} {y : β}, ys[i]? = some y → ∃ x, xs[i]? = some x ∧ R x y) {i : Int} {y : β} (e : atI ys i = some y) : ∃ x, atI xs i = some x ∧ R x y := by
  unfold atI at *
  rw [hl]
  cases c : ixN ys.length i with
  | none => rw [c] at e; cases e
  | some j =>
    rw [c] at e
    exact h e
theorem SF.list {es : List Expr} {e : Expr} {p pos : Pos} {fns : List Fn} {m : M EV} (h : SFs X k np es fns) (he : SE X W e m) (hl : fns.length ≤ 100000 := by exact Nat.le_of_ble_eq_true rfl) (hs : PlainIx e := by exact fun _ _ => rfl) : SF X W k np (.Subscript (.List es p) e pos) (mSel fns m) := by
  obtain ⟨fs, h1, h2⟩ := h.pa
  refine ⟨peImp (pe_ix ix_list (pe_lst h2) he.v hs) fun σ H Q q => ?_⟩
  obtain ⟨ρ, F, r, q⟩ := q
  refine ⟨by rw [List.length_map, h1.length]; exact line_of hl, fun c hc => ?_⟩
  have hF : F c = none := leH_fresh r.le hc
  have r' : Rel X.K F ρ σ (upd H c (.lst (fs.map V.ref))) := r.grown (LeF.refl F) (fun a h h' => absurd h h') (leF_upd hc) (r.le.grow (leF_upd hc))
  have s' : Step F ρ σ H F ρ σ (upd H c (.lst (fs.map V.ref))) := Step.grown (LeF.refl F) (fun a h h' => absurd h h') (leF_upd hc)
  have nown : ¬ OwnS ρ σ c := fun ho => by
    obtain ⟨_, u, hu⟩ := OwnS.there r ho
    rw [hc] at hu; cases hu
  refine rdV_bindG (rep := repFn X k np) r' (PostG.shift s' q) fun v ρ1 F1 H1 y r1 s1 e1 q => ?_
  obtain ⟨d, l1, q⟩ := look_bindG q
  obtain ⟨i, l2, q2⟩ := calm_bindG (calm_intD d) q
  clear q
  have hd := intD_ok l2
  subst hd
  have hy := look_rep r1 e1 (by rw [look_settle]; exact l1)
  simp only [RepT] at hy
  subst hy
  cases ea : atI fns i with
  | none => rw [ea] at q2; exact False.elim q2
  | some fn =>
    rw [ea] at q2
    obtain ⟨v, g1, f, rfl, g2⟩ := atI_get' (R := fun v fn => ∃ f, v = V.ref f ∧ FnAt X k np f fn) (xs := fs.map V.ref) (ys := fns) (by rw [List.length_map, h1.length]) (fun {i y} e => by
      obtain ⟨f, z1, z2⟩ := h1.get e
      exact ⟨.ref f, by simp [z1], f, rfl, z2⟩) ea
    exact ⟨c, fs.map V.ref, i, .ref f, rfl, rfl, (.inl (.inl (s1.keep c _ upd_same nown))), g1, q2.here r1 ⟨f, rfl, g2⟩⟩
/-! ### a table of the module: texts to defs -/
structure TabK (K : PySem.W.Frag) (w : World) (mg : Str → Option Value) (x : Str) (ks : List (Str × Option Str)) : Prop where
  ex : ∃ d es n, mg x = some (.ref d) ∧ KDict K w d es n ∧ ∀ z r, ks.lookup z = some r → match r with
    | some fn => ∃ f, mg fn = some (.ref f) ∧ PySem.W.nsIn K d z = some (some (.ref f))
    | none => PySem.W.nsIn K d z = some none
def opTab (ks : List (Str × Option Str)) (neg : Bool) : Dt → R EV
  | .str z => match ks.lookup z with
    | some r => bV (if neg then !r.isSome else r.isSome)
    | none => .bad
  | _ => .bad
theorem calm_Tab (ks : List (Str × Option Str)) (neg : Bool) (d : Dt) : Calm (opTab ks neg d) := by
  cases d <;> first | exact bad_calm | skip
  simp only [opTab]
  split
  · exact ok_calm
  · exact bad_calm
theorem TabK.at {K : PySem.W.Frag} {w : World} {mg : Str → Option Value} {x : Str} {ks : List (Str × Option Str)} (h : TabK K w mg x ks) : ∃ d es n, mg x = some (.ref d) ∧ KDict K w d es n ∧ ∀ z r, ks.lookup z = some r → ∃ u, PySem.W.nsIn K d z = some u ∧ u.isSome = r.isSome := by
  obtain ⟨d, es, n, h1, h2, h3⟩ := h.ex
  refine ⟨d, es, n, h1, h2, fun z r e => ?_⟩
  have := h3 z r e
  cases r with
  | none => exact ⟨none, this, rfl⟩
  | some fn =>
    obtain ⟨f, _, e⟩ := this
    exact ⟨_, e, rfl⟩
theorem ST.notInTab {x : Str} {ks : List (Str × Option Str)} {e : Expr} {p pos : Pos} {m : M EV} (T : TabK X.K X.w X.mg x ks) (he : SE X W e m) (hg : Gl X x := by rfl) (hdb : (x == ("__debug__" : Str)) = false := by decide) : ST X W (.Compare e [.NotIn] [.Name x p] pos) (mBool (mUn (opTab ks true) m)) := by
  obtain ⟨d, es, n, hm, hd, hn⟩ := T.at
  refine ⟨ptImp (pt_cmpR (op_notIn_kd hd) he.v (pe_glob (v := .ref d) hg hm rfl hdb) rfl) fun σ H Q q => ?_⟩
  have q := bool_rd q
  obtain ⟨ρ, F, r, q⟩ := q
  show rdV X.K X.mg W m σ H fun y H1 => _
  refine rdV_bind r q fun v ρ1 F1 H1 y r1 s1 e1 q => ?_
  obtain ⟨dd, l1, q⟩ := look_bind q
  have hy := look_rep r1 e1 (by rw [look_settle]; exact l1)
  obtain ⟨v2, l2, q⟩ := calm_bind (calm_Tab ks true dd) q
  cases dd <;> try (cases l2; done)
  rename_i z
  simp only [RepT] at hy
  subst hy
  simp only [opTab] at l2
  cases ek : ks.lookup z with
  | none => rw [ek] at l2; cases l2
  | some rr =>
    rw [ek] at l2
    cases l2
    obtain ⟨u, hu, hb⟩ := hn z rr ek
    refine ⟨z, u, rfl, rfl, hu, _, rfl, ?_⟩
    obtain ⟨b, eb, hq⟩ := PostE.here q r1 (x := .bl (!rr.isSome)) (by show Rep _ _ _ _; simp only [Rep]; rfl)
    cases eb
    rw [hb]
    exact hq
/-- TABLE[e] -/
def mTab (fns : List (Str × Fn)) (m : M EV) : M Fn := fun ρ => (m ρ).bind fun a => (lookEV a.1 a.2).bind fun d => (strD d).bind fun z => someR (fns.lookup z) fun f => .ok (f, a.2)
theorem SF.tab {x : Str} {ks : List (Str × Option Str)} {fns : List (Str × Fn)} {e : Expr} {p pos : Pos} {m : M EV} (T : TabK X.K X.w X.mg x ks) (hf : ∀ z fn, fns.lookup z = some fn → ∃ y, ks.lookup z = some (some y) ∧ DefG X.prog X.w X.K X.mg X.base k y np fn) (he : SE X W e m)
    (hg : Gl X x := by rfl) (hdb : (x == ("__debug__" : Str)) = false := by decide) (hs : PlainIx e := by exact fun _ _ => rfl) : SF X W k np (.Subscript (.Name x p) e pos) (mTab fns m) := by
  obtain ⟨d, es, n, hm, hd, hn⟩ := T.ex
  refine ⟨peImp (pe_ix ix_kdict (pe_glob (v := .ref d) hg hm rfl hdb) he.v hs) fun σ H Q q => ?_⟩
  obtain ⟨ρ, F, r, q⟩ := q
  show rdV X.K X.mg W m σ H fun y H1 => _
  refine rdV_bindG (rep := repFn X k np) r q fun v ρ1 F1 H1 y r1 s1 e1 q => ?_
  obtain ⟨dd, l1, q⟩ := look_bindG q
  obtain ⟨z, l2, q2⟩ := calm_bindG (calm_strD dd) q
  clear q
  have hdd := strD_ok l2
  subst hdd
  have hy := look_rep r1 e1 (by rw [look_settle]; exact l1)
  simp only [RepT] at hy
  subst hy
  cases ea : fns.lookup z with
  | none => rw [ea] at q2; exact False.elim q2
  | some fn =>
    rw [ea] at q2
    obtain ⟨yn, h1, D⟩ := hf z fn ea
    obtain ⟨f, hmf, hfa⟩ := D.at
    obtain ⟨f', h2, h3⟩ := hn z _ h1
    rw [hmf] at h2; cases h2
    exact ⟨d, z, .ref f, rfl, rfl, ⟨es, n, .ref f, hd.at_, hd.lit, h3, rfl⟩, q2.here r1 ⟨f, rfl, hfa⟩⟩
end
end Mv
set_option Elab.async false
set_option linter.all false
set_option maxRecDepth 100000
set_option maxHeartbeats 4000000
namespace Mv
open PySem PySem.Spec PyProof.Rows L2

/-- an error class c below pe, and what isinstance says of its instances -/
structure ExcF (K : PySem.W.Frag) (mg : Str → Option Value) (pe c : Str) (l : List (Str × Bool)) : Prop where
  ex : ∃ C Cp, mg c = some (.ref C) ∧ ExcC K C ∧ mg pe = some (.ref Cp) ∧ PySem.W.exmOne K (.ref C) (.ref Cp) = some true ∧ ∀ p ∈ l, ∃ Ci, mg p.1 = some (.ref Ci) ∧ PySem.W.kitOne K (.ref C) (.ref Ci) = some p.2
theorem ruH64 {A : Around} {k : Nat} (hr : L2H.RoomH k A) : A.units + 64 < cLine := by have := hr.un; omega
theorem ruH65 {A : Around} {k : Nat} (hr : L2H.RoomH k A) : A.units + 65 < cLine := by have := hr.un; omega
/-! ### tables of defs -/
def nameKs (nm : List (Str × Str)) (ab : List Str) : List (Str × Option Str) := nm.map (fun p => (p.1, some p.2)) ++ ab.map fun z => (z, none)
def tabFns (l : List (Str × Str × Fn)) : List (Str × Fn) := l.map fun p => (p.1, p.2.2)
theorem tab_at {l : List (Str × Str × Fn)} {ab : List Str} {z : Str} {fn : Fn} (h : (tabFns l).lookup z = some fn) : ∃ p ∈ l, p.2.2 = fn ∧ (nameKs (l.map fun p => (p.1, p.2.1)) ab).lookup z = some (some p.2.1) := by
  unfold nameKs
  induction l with
  | nil => cases h
  | cons p l ih =>
    simp only [tabFns, List.map_cons, List.lookup_cons] at h
    cases c : z == p.1 with
    | true =>
      rw [c] at h
      cases h
      exact ⟨p, List.mem_cons_self, rfl, by simp [List.lookup_cons, c]⟩
    | false =>
      rw [c] at h
      obtain ⟨p', h1, h2, h3⟩ := ih h
      exact ⟨p', List.mem_cons_of_mem _ h1, h2, by simpa [List.lookup_cons, c] using h3⟩
theorem SF.tabL {X : Cx} {W : WX} {k np : Nat} {x : Str} {l : List (Str × Str × Fn)} {nm : List (Str × Str)} {ab : List Str} {e : Expr} {p pos : Pos} {m : M EV} (T : TabK X.K X.w X.mg x (nameKs nm ab)) (hf : ∀ p ∈ l, DefG X.prog X.w X.K X.mg X.base k p.2.1 np p.2.2) (he : SE X W e m)
    (hl : l.map (fun p => (p.1, p.2.1)) = nm := by rfl) (hg : Gl X x := by rfl) (hdb : (x == ("__debug__" : Str)) = false := by decide) (hs : PlainIx e := by exact fun _ _ => rfl) : SF X W k np (.Subscript (.Name x p) e pos) (mTab (tabFns l) m) := by
  subst hl
  exact SF.tab T (fun z fn h => by
    obtain ⟨p, h1, h2, h3⟩ := tab_at (ab := ab) h
    exact ⟨_, h3, h2 ▸ hf p h1⟩) he hg hdb hs
theorem tab_mk {K : PySem.W.Frag} {w : World} {mg : Str → Option Value} {x : Str} {l : List (Str × Str)} {ab : List Str} {d : Addr} {es : Array DictEntry} {n : Nat} (h1 : mg x = some (.ref d)) (h2 : KDict K w d es n) (h3 : ∀ p ∈ l, ∃ f, mg p.2 = some (.ref f) ∧ PySem.W.nsIn K d p.1 = some (some (.ref f)))
    (h4 : ∀ z ∈ ab, PySem.W.nsIn K d z = some none) : TabK K w mg x (nameKs l ab) := by
  refine ⟨d, es, n, h1, h2, fun z r e => ?_⟩
  unfold nameKs at e
  induction l with
  | nil =>
    have e' : (ab.map fun z => (z, (none : Option Str))).lookup z = some r := e
    clear e h3
    induction ab with
    | nil => cases e'
    | cons y ab ih =>
      rw [List.map_cons, List.lookup_cons] at e'
      cases c : z == y with
      | true =>
        rw [c] at e'; cases e'
        rw [beq_iff_eq.mp c]
        exact h4 y List.mem_cons_self
      | false =>
        rw [c] at e'
        exact ih (fun z hz => h4 z (List.mem_cons_of_mem _ hz)) e'
  | cons p l ih =>
    rw [List.map_cons, List.cons_append, List.lookup_cons] at e
    cases c : z == p.1 with
    | true =>
      rw [c] at e; cases e
      rw [beq_iff_eq.mp c]
      exact h3 p List.mem_cons_self
    | false =>
      rw [c] at e
      exact ih (fun q hq => h3 q (List.mem_cons_of_mem _ hq)) e
end Mv
set_option Elab.async false
set_option linter.all false
set_option maxRecDepth 100000
set_option maxHeartbeats 4000000
namespace Mv
open PySem PySem.Spec PyProof.Rows L2

/-! ### facts of the written part -/
theorem cut {a b : Prop} (h : a) (k : a → b) : b := k h
section
variable {K : PySem.W.Frag} {h : Heap} {mg : Str → Option Value} {x pe : Str} {C Cp : Addr}
abbrev veB : List Value := [.type "ValueError", .type "Exception", .type "BaseException", .type "object"]
theorem excK_mk (X : K.In h) (G : h.Ns mainGlobals mg) (a : PySem.W.nsIn K mainGlobals x = some (some (.ref C))) (q : PySem.W.excIn K C veB "ValueError.__new__" = true) (k : PySem.W.keepIn K (.ref C) = true)
    (s : PySem.W.subIn K (.ref C) (.type "BaseException") = some true) (t : PySem.W.typeIn K (.ref C) = some (.type "type")) : ExcK K mg x :=
  ⟨C, veB, "ValueError", "ValueError.__new__", "ValueError.__init__", PySem.F.excBase_ValueError, q, PySem.W.mg_of X G a, k, s, t⟩
def KL (K : PySem.W.Frag) (mg : Str → Option Value) (C : Addr) (l : List (Str × Bool)) : Prop := ∀ p ∈ l, ∃ Ci, mg p.1 = some (.ref Ci) ∧ PySem.W.kitOne K (.ref C) (.ref Ci) = some p.2
theorem kl_nil : KL K mg C [] := fun p h => by cases h
theorem kl_cons {y : Str} {b : Bool} {Ci : Addr} {l : List (Str × Bool)} (X : K.In h) (G : h.Ns mainGlobals mg) (a : PySem.W.nsIn K mainGlobals y = some (some (.ref Ci))) (k : PySem.W.kitOne K (.ref C) (.ref Ci) = some b) (r : KL K mg C l) : KL K mg C ((y, b) :: l) := fun p hp => by
  rcases List.mem_cons.mp hp with e | hp
  · subst e; exact ⟨Ci, PySem.W.mg_of X G a, k⟩
  · exact r p hp
theorem kl_self {y : Str} {l : List (Str × Bool)} (X : K.In h) (G : h.Ns mainGlobals mg) (a : PySem.W.nsIn K mainGlobals y = some (some (.ref C))) (r : KL K mg C l) : KL K mg C ((y, true) :: l) :=
  kl_cons X G a (if_pos (by simp)) r
theorem kl_other {y : Str} {b : Bool} {Ci : Addr} {l : List (Str × Bool)} (X : K.In h) (G : h.Ns mainGlobals mg) (a : PySem.W.nsIn K mainGlobals y = some (some (.ref Ci))) (n : (C == Ci) = false) (i : PySem.W.isClsIn K Ci = true) (t : PySem.W.typeIn K (.ref Ci) = some (.type "type")) (s : PySem.W.subIn K (.ref C) (.ref Ci) = some b) (r : KL K mg C l) :
    KL K mg C ((y, b) :: l) := by
  refine kl_cons X G a ?_ r
  have ne : ¬ ((Value.ref C == Value.ref Ci) = true) := fun z => by
    have z' := beq_iff_eq.mp z
    cases z'
    simp at n
  have i' : (PySem.W.clsIn K Ci).isSome = true := i
  show (if (Value.ref C == Value.ref Ci) = true then some true else PySem.W.kitCls K (.ref C) (.ref Ci)) = some b
  rw [if_neg ne]
  show (if ((PySem.W.clsIn K Ci).isSome && PySem.W.typeIn K (.ref Ci) == some (.type "type")) = true then PySem.W.subIn K (.ref C) (.ref Ci) else none) = some b
  rw [if_pos (by rw [i', t]; rfl)]
  exact s
theorem excF_mk {l : List (Str × Bool)} (X : K.In h) (G : h.Ns mainGlobals mg) (a : PySem.W.nsIn K mainGlobals x = some (some (.ref C))) (ap : PySem.W.nsIn K mainGlobals pe = some (some (.ref Cp)))
    (f1 : PySem.W.findIn K (.ref C) "__getattribute__" = some (some (.builtin "BaseException.__getattribute__"))) (f2 : PySem.W.findIn K (.ref C) "__getattr__" = some none) (f3 : PySem.W.subIn K (.ref C) (.type "BaseException") = some true) (f4 : PySem.W.hasDictIn K C = true)
    (f5 : PySem.W.findIn K (.ref C) "__class__" = some (some (.builtin "object.__class__"))) (f6 : PySem.W.specialIn K (.builtin "object.__class__") "__get__" = some (some (.builtin "getset_descriptor.__get__"))) (f7 : PySem.W.takesIn K (.builtin "object.__class__") = some true) (f8 : PySem.W.mroIn K C (.type "object") = some true)
    (g1 : PySem.W.subIn K (.ref Cp) (.type "BaseException") = some true) (g2 : PySem.W.hasDictIn K Cp = true) (g3 : PySem.W.typeIn K (.ref Cp) = some (.type "type")) (g4 : PySem.W.subIn K (.ref C) (.ref Cp) = some true) (r : KL K mg C l) : ExcF K mg pe x l :=
  ⟨C, Cp, PySem.W.mg_of X G a, ⟨f1, f2, f3, f4, f5, f6, f7, f8⟩, PySem.W.mg_of X G ap, PySem.W.exm_ref g1 g2 g3 g4, r⟩
theorem glob_mk {u : Value} (X : K.In h) (G : h.Ns mainGlobals mg) (a : PySem.W.nsIn K mainGlobals x = some (some u)) : mg x = some u := PySem.W.mg_of X G a
/-- the entries of a table of defs -/
def TL (K : PySem.W.Frag) (mg : Str → Option Value) (d : Addr) (l : List (Str × Str)) : Prop := ∀ p ∈ l, ∃ f, mg p.2 = some (.ref f) ∧ PySem.W.nsIn K d p.1 = some (some (.ref f))
theorem tl_nil {d : Addr} : TL K mg d [] := fun p h => by cases h
theorem tl_cons {d f : Addr} {z y : Str} {l : List (Str × Str)} (X : K.In h) (G : h.Ns mainGlobals mg) (a : PySem.W.nsIn K mainGlobals y = some (some (.ref f))) (b : PySem.W.nsIn K d z = some (some (.ref f))) (r : TL K mg d l) : TL K mg d ((z, y) :: l) := fun p hp => by
  rcases List.mem_cons.mp hp with e | hp
  · subst e; exact ⟨f, PySem.W.mg_of X G a, b⟩
  · exact r p hp
def AL (K : PySem.W.Frag) (d : Addr) (ab : List Str) : Prop := ∀ z ∈ ab, PySem.W.nsIn K d z = some none
theorem al_nil {d : Addr} : AL K d [] := fun p h => by cases h
theorem al_cons {d : Addr} {z : Str} {ab : List Str} (b : PySem.W.nsIn K d z = some none) (r : AL K d ab) : AL K d (z :: ab) := fun p hp => by
  rcases List.mem_cons.mp hp with e | hp
  · subst e; exact b
  · exact r p hp
theorem tabT_mk {w : World} {d : Addr} {es : Array DictEntry} {n : Nat} {l : List (Str × Str)} {ab : List Str} (X : K.In h) (G : h.Ns mainGlobals mg) (a : PySem.W.nsIn K mainGlobals x = some (some (.ref d))) (b : K.lookup d = some ⟨.type "dict", none, .dict es n, #[]⟩)
    (k : PySem.W.KeysLit w.params es.toList) (lo : (d == sysModules) = false) (t : TL K mg d l) (r : AL K d ab) : TabK K w mg x (nameKs l ab) := tab_mk (PySem.W.mg_of X G a) ⟨b, k, lo⟩ t r
theorem globS_mk {y : Str} {t : Tok} (X : K.In h) (G : h.Ns mainGlobals mg) (a : PySem.W.nsIn K mainGlobals x = some (some (.str y t))) : ∃ t, mg x = some (.str y t) := ⟨t, PySem.W.mg_of X G a⟩
theorem globI_mk {i : Int} {t : Tok} (X : K.In h) (G : h.Ns mainGlobals mg) (a : PySem.W.nsIn K mainGlobals x = some (some (.int i t))) : ∃ t, mg x = some (.int i t) := ⟨t, PySem.W.mg_of X G a⟩
theorem bi_mk (X : K.In h) (G : h.Ns mainGlobals mg) (a : PySem.W.nsIn K mainGlobals x = some none) : mg x = none := PySem.W.mg_none_of X G a
/-- what a body tells out -/
def retOf : R (Fl × Rho) → Option Dt
  | .ok (.ret (.val d), _) => some d
  | _ => none
theorem ret_of {r : R (Fl × Rho)} {d : Dt} (e : retOf r = some d) : ∃ ρ', r = .ok (.ret (.val d), ρ') := by
  unfold retOf at e
  split at e
  · cases e; exact ⟨_, rfl⟩
  · cases e
end
end Mv
set_option Elab.async false
set_option linter.all false
set_option maxRecDepth 100000
set_option maxHeartbeats 4000000
namespace Mv
open PySem PySem.Spec PyProof.Rows L2

/-! ### running mirrors: rules for simp -/
section
variable {α β : Type}
@[simp] theorem bindK (a : α) (f : α → R β) : (R.ok a).bind f = f a := rfl
@[simp] theorem bindX (c : Str) (f : α → R β) : (R.ex c : R α).bind f = .ex c := rfl
@[simp] theorem bindB (f : α → R β) : (R.bad : R α).bind f = .bad := rfl
theorem bind_cg {r r' : R α} {f : α → R β} (h : r = r') : r.bind f = r'.bind f := by rw [h]
@[simp] theorem guardT {c : Prop} [Decidable c] {r : R α} (h : c) : guardR c r = r := if_pos h
@[simp] theorem someT (a : α) (f : α → R β) : someR (some a) f = f a := rfl
@[simp] theorem someN (f : α → R β) : someR none f = .bad := rfl
theorem some_cg {o o' : Option α} {f : α → R β} (h : o = o') : someR o f = someR o' f := by rw [h]
end
variable (ρ : Rho)
@[simp] theorem evC (d : Dt) : mC d ρ = .ok (.val d, ρ) := rfl
theorem evVar (i : Nat) : mVar i ρ = match ρ[i]? with
  | some (some (.val d)) => .ok (.val d, ρ)
  | some (some (.own _)) => .ok (.slot i, ρ)
  | _ => .bad := rfl
@[simp] theorem evVarV {i : Nat} {d : Dt} (h : ρ[i]? = some (some (.val d))) : mVar i ρ = .ok (.val d, ρ) := by rw [evVar, h]
@[simp] theorem evVarO {i : Nat} {o : O} (h : ρ[i]? = some (some (.own o))) : mVar i ρ = .ok (.slot i, ρ) := by rw [evVar, h]
@[simp] theorem lookV (d : Dt) : lookEV (.val d) ρ = .ok d := rfl
@[simp] theorem lookN (o : O) : lookEV (.new o) ρ = .ok o.d := rfl
@[simp] theorem lookSO {i : Nat} {o : O} (h : ρ[i]? = some (some (.own o))) : lookEV (.slot i) ρ = .ok o.d := by simp only [lookEV, h]
@[simp] theorem lookSV {i : Nat} {d : Dt} (h : ρ[i]? = some (some (.val d))) : lookEV (.slot i) ρ = .ok d := by simp only [lookEV, h]
@[simp] theorem evBin (op : Dt → Dt → R EV) (a b : M EV) : mBin op a b ρ = (a ρ).bind fun a => (b a.2).bind fun b => (lookEV a.1 b.2).bind fun da => (lookEV b.1 b.2).bind fun db => (op da db).bind fun v => .ok (v, b.2) := rfl
@[simp] theorem evUn (op : Dt → R EV) (a : M EV) : mUn op a ρ = (a ρ).bind fun a => (lookEV a.1 a.2).bind fun da => (op da).bind fun v => .ok (v, a.2) := rfl
@[simp] theorem evTest (m : M EV) : mTest m ρ = (m ρ).bind fun a => (lookEV a.1 a.2).bind fun d => (truthD d).bind fun b => .ok (b, a.2) := rfl
@[simp] theorem evBool (m : M EV) : mBool m ρ = (m ρ).bind fun a => (boolEV a.1).bind fun b => .ok (b, a.2) := rfl
@[simp] theorem boolEV_b (b : Bool) : boolEV (.val (.bool b)) = .ok b := rfl
@[simp] theorem evAndT (a b : M Bool) : mAndT a b ρ = (a ρ).bind fun x => if x.1 = true then b x.2 else .ok (false, x.2) := rfl
@[simp] theorem evOrT (a b : M Bool) : mOrT a b ρ = (a ρ).bind fun x => if x.1 = true then .ok (true, x.2) else b x.2 := rfl
@[simp] theorem evNotT (a : M Bool) : mNotT a ρ = (a ρ).bind fun x => .ok (!x.1, x.2) := rfl
@[simp] theorem evIf (c : M Bool) (a b : M EV) : mIf c a b ρ = (c ρ).bind fun x => if x.1 = true then a x.2 else b x.2 := rfl
@[simp] theorem evNotX (m : M EV) : mNotX m ρ = (m ρ).bind fun a => (lookEV a.1 a.2).bind fun d => (truthD d).bind fun b => .ok (.val (.bool (!b)), a.2) := rfl
@[simp] theorem evAndV (a b : M EV) : mAndV a b ρ = (a ρ).bind fun x => (boolEV x.1).bind fun c => if c = true then b x.2 else .ok (.val (.bool false), x.2) := rfl
@[simp] theorem evOrV (a b : M EV) : mOrV a b ρ = (a ρ).bind fun x => (boolEV x.1).bind fun c => if c = true then .ok (.val (.bool true), x.2) else b x.2 := rfl
@[simp] theorem evChain (op op2 : Dt → Dt → R EV) (ma mb mc : M EV) : mChain op op2 ma mb mc ρ = (ma ρ).bind fun a => (mb a.2).bind fun b => (lookEV a.1 b.2).bind fun da => (lookEV b.1 b.2).bind fun db => (op da db).bind fun v => (boolEV v).bind fun k =>
  if k = true then (mc b.2).bind fun c => (lookEV b.1 c.2).bind fun db2 => (lookEV c.1 c.2).bind fun dc => (op2 db2 dc).bind fun v => .ok (v, c.2) else .ok (.val (.bool false), b.2) := rfl
@[simp] theorem evArgs0 : mArgs [] ρ = .ok ([], ρ) := rfl
@[simp] theorem evArgs1 (m : M EV) (ms : List (M EV)) : mArgs (m :: ms) ρ = (m ρ).bind fun a => (mArgs ms a.2).bind fun r => .ok (settle a.1 :: r.1, r.2) := rfl
@[simp] theorem settleV (d : Dt) : settle (.val d) = .val d := rfl
@[simp] theorem settleS (i : Nat) : settle (.slot i) = .slot i := rfl
@[simp] theorem settleN (o : O) : settle (.new o) = .val o.d := rfl
@[simp] theorem Od_lst (ds : List Dt) : (O.lst ds).d = .list ds := rfl
@[simp] theorem forceV (d : Dt) : forceEV (.val d) ρ = .ok (d, ρ) := rfl
@[simp] theorem forceN (o : O) : forceEV (.new o) ρ = .ok (o.d, ρ) := rfl
@[simp] theorem forceSO {i : Nat} {o : O} (h : ρ[i]? = some (some (.own o))) : forceEV (.slot i) ρ = .ok (o.d, ρ.set i (some (.val o.d))) := by simp only [forceEV, h]
@[simp] theorem evForce (m : M EV) : mForce m ρ = (m ρ).bind fun a => (forceEV a.1 a.2).bind fun d => .ok (.val d.1, d.2) := rfl
@[simp] theorem dataOf0 : dataOf [] = .ok [] := rfl
@[simp] theorem dataOf1 (d : Dt) (vs : List EV) : dataOf (.val d :: vs) = (dataOf vs).bind fun ds => .ok (d :: ds) := rfl
@[simp] theorem evTup (ms : List (M EV)) : mTup ms ρ = (mArgs ms ρ).bind fun a => (dataOf a.1).bind fun ds => .ok (.val (.tuple ds), a.2) := rfl
@[simp] theorem evLst (ms : List (M EV)) : mLst ms ρ = (mArgs ms ρ).bind fun a => (dataOf a.1).bind fun ds => .ok (.new (.lst ds), a.2) := rfl
@[simp] theorem evPart (m : M EV) : mPart m ρ = (m ρ).bind fun a => (lookEV a.1 a.2).bind fun d => (intD d).bind fun i => .ok (some i, a.2) := rfl
@[simp] theorem evNoPart : mNoPart ρ = .ok (none, ρ) := rfl
@[simp] theorem evSl (m : M EV) (lo hi : M (Option Int)) : mSl m lo hi ρ = (m ρ).bind fun a => (lo a.2).bind fun l => (hi l.2).bind fun u => (lookEV a.1 u.2).bind fun d => (opSl d l.1 u.1).bind fun v => .ok (v, u.2) := rfl
@[simp] theorem intDi (i : Int) : intD (.int i) = .ok i := rfl
@[simp] theorem lookAll0 : lookAll [] ρ = .ok [] := rfl
@[simp] theorem lookAll1 (v : EV) (vs : List EV) : lookAll (v :: vs) ρ = (lookEV v ρ).bind fun d => (lookAll vs ρ).bind fun ds => .ok (d :: ds) := rfl
@[simp] theorem evCallB (op : List Dt → R EV) (ms : List (M EV)) : mCallB op ms ρ = (mArgs ms ρ).bind fun a => (lookAll a.1 a.2).bind fun ds => (op ds).bind fun v => .ok (v, a.2) := rfl
@[simp] theorem on1d (f : Dt → R EV) (d : Dt) : on1 f [d] = f d := rfl
@[simp] theorem on2d (f : Dt → Dt → R EV) (d e : Dt) : on2 f [d, e] = f d e := rfl
@[simp] theorem evCall (fn : Fn) (ms : List (M EV)) : mCall fn ms ρ = (mArgs ms ρ).bind fun a => (argSV a.1 [] a.2).bind fun as => (fn as).bind fun r => (noSlot r.1).bind fun v => .ok (v, putBack a.1 as r.2 a.2) := rfl
@[simp] theorem noSlotV (d : Dt) : noSlot (.val d) = .ok (.val d) := rfl
@[simp] theorem noSlotN (o : O) : noSlot (.new o) = .ok (.new o) := rfl
@[simp] theorem argSV0 (u : List Nat) : argSV [] u ρ = .ok [] := rfl
@[simp] theorem argSV1 (d : Dt) (vs : List EV) (u : List Nat) : argSV (.val d :: vs) u ρ = (argSV vs u ρ).bind fun r => .ok (.val d :: r) := rfl
@[simp] theorem argSVo {i : Nat} {o : O} (vs : List EV) (u : List Nat) (h : ρ[i]? = some (some (.own o))) (hu : i ∉ u) : argSV (.slot i :: vs) u ρ = (argSV vs (i :: u) ρ).bind fun r => .ok (.own o :: r) := by simp only [argSV, h, hu, if_false]
@[simp] theorem argSVv {i : Nat} {d : Dt} (vs : List EV) (u : List Nat) (h : ρ[i]? = some (some (.val d))) : argSV (.slot i :: vs) u ρ = (argSV vs u ρ).bind fun r => .ok (.val d :: r) := by simp only [argSV, h]
@[simp] theorem putBack0 (as ss : List SV) : putBack [] as ss ρ = ρ := by simp only [putBack]
@[simp] theorem putBackV (d : Dt) (a s : SV) (vs : List EV) (as ss : List SV) : putBack (.val d :: vs) (a :: as) (s :: ss) ρ = putBack vs as ss ρ := by cases a <;> rfl
@[simp] theorem putBackO (i : Nat) (o : O) (s : SV) (vs : List EV) (as ss : List SV) : putBack (.slot i :: vs) (.own o :: as) (s :: ss) ρ = putBack vs as ss (ρ.set i (some s)) := rfl
@[simp] theorem putBackS (i : Nat) (d : Dt) (s : SV) (vs : List EV) (as ss : List SV) : putBack (.slot i :: vs) (.val d :: as) (s :: ss) ρ = putBack vs as ss ρ := rfl
/-! statements -/
@[simp] theorem evNil : mNil ρ = .ok (.nxt, ρ) := rfl
@[simp] theorem evSeq (a b : Stm) : mSeq a b ρ = (a ρ).bind fun x => match x.1 with
  | .nxt => b x.2
  | fl => .ok (fl, x.2) := rfl
@[simp] theorem evRet (m : M EV) : mRet m ρ = (m ρ).bind fun a => .ok (.ret a.1, a.2) := rfl
@[simp] theorem evRetN : mRetN ρ = .ok (.ret (.val .none), ρ) := rfl
@[simp] theorem evDrop (m : M EV) : mDrop m ρ = (m ρ).bind fun a => .ok (.nxt, a.2) := rfl
@[simp] theorem evIfS (c : M Bool) (a b : Stm) : mIfS c a b ρ = (c ρ).bind fun x => if x.1 = true then a x.2 else b x.2 := rfl
@[simp] theorem evBrk : mBrk ρ = .ok (.brk, ρ) := rfl
@[simp] theorem evCnt : mCnt ρ = .ok (.cnt, ρ) := rfl
@[simp] theorem evSet (i : Nat) (m : M EV) : mSet i m ρ = (m ρ).bind fun a => (storeEV i a.1 a.2).bind fun ρ' => .ok (.nxt, ρ') := rfl
@[simp] theorem storeV (i : Nat) (d : Dt) : storeEV i (.val d) ρ = .ok (ρ.set i (some (.val d))) := rfl
@[simp] theorem storeN (i : Nat) (o : O) : storeEV i (.new o) ρ = .ok (ρ.set i (some (.own o))) := rfl
@[simp] theorem storeS {i j : Nat} {o : O} (h : ρ[j]? = some (some (.own o))) : storeEV i (.slot j) ρ = .ok ((ρ.set j (some (.val o.d))).set i (some (.val o.d))) := by simp only [storeEV, h]
@[simp] theorem evName (i : Nat) (d : Dt) : tName i d ρ = .ok (ρ.set i (some (.val d))) := rfl
@[simp] theorem evAsg (g : Tgt) (m : M EV) : mAsg g m ρ = (m ρ).bind fun a => (forceEV a.1 a.2).bind fun d => (g d.1 d.2).bind fun ρ' => .ok (.nxt, ρ') := rfl
@[simp] theorem evNils : tNils [] ρ = .ok ρ := rfl
@[simp] theorem evConss (t : Tgt) (u : List Dt → Rho → R Rho) (d : Dt) (ds : List Dt) : tConss t u (d :: ds) ρ = (t d ρ).bind fun ρ' => u ds ρ' := rfl
@[simp] theorem evTupT (n : Nat) (u : List Dt → Rho → R Rho) (ds : List Dt) : tTupT n u (.tuple ds) ρ = if ds.length = n then u ds ρ else .bad := rfl
@[simp] theorem evPar (i j : Nat) (ms : List (M EV)) : mPar i j ms ρ = (mArgs ms ρ).bind fun a => (dataOf a.1).bind fun ds => match ds with
  | [d, e] => .ok (.nxt, (a.2.set i (some (.val d))).set j (some (.val e)))
  | _ => .bad := rfl
@[simp] theorem evFor (mi : M (List Dt)) (g : Tgt) (body : Stm) : mFor mi g body ρ = (mi ρ).bind fun a => forLoop g body a.1 a.2 := rfl
@[simp] theorem evFor0 (g : Tgt) (body : Stm) : forLoop g body [] ρ = .ok (.nxt, ρ) := rfl
@[simp] theorem evSeqI (m : M EV) : iSeq m ρ = (m ρ).bind fun a => (forceEV a.1 a.2).bind fun d => (seqTupD d.1).bind fun ds => .ok (ds, d.2) := rfl
@[simp] theorem seqTupL (ds : List Dt) : seqTupD (.list ds) = .ok ds := rfl
@[simp] theorem seqTupT (ds : List Dt) : seqTupD (.tuple ds) = .ok ds := rfl
@[simp] theorem evRange1 (m : M EV) : iRange1 m ρ = (m ρ).bind fun a => (lookEV a.1 a.2).bind fun d => (intD d).bind fun n => guardR (-16777216 ≤ n ∧ n ≤ 16777216) (.ok (rangeD 0 n.toNat, a.2)) := rfl
@[simp] theorem evLc (mi : M (List Dt)) (g : Tgt) (tt : M Bool) (te : M EV) (vs : List Nat) : mLc mi g tt te vs ρ = (mi ρ).bind fun a => (noEx (lcLoop g tt te vs a.1 a.2)).bind fun r => .ok (.new (.lst r.1), r.2) := rfl
@[simp] theorem noExK {α : Type} (a : α) : noEx (.ok a) = .ok a := rfl
@[simp] theorem evYes : mYes ρ = .ok (true, ρ) := rfl
/-! one's own lists -/
@[simp] theorem ownLk {i : Nat} {ds : List Dt} (h : ρ[i]? = some (some (.own (.lst ds)))) : ownL i ρ = .ok ds := by simp only [ownL, h]
@[simp] theorem evAppend (i : Nat) (m : M EV) : mAppend i m ρ = (ownL i ρ).bind fun _ => (m ρ).bind fun a => (forceEV a.1 a.2).bind fun d => (ownL i d.2).bind fun ds => guardR (ds.length < sizeLine) (.ok (.val .none, setL i (ds ++ [d.1]) d.2)) := rfl
@[simp] theorem evExtend (i : Nat) (m : M EV) : mExtend i m ρ = (ownL i ρ).bind fun _ => (m ρ).bind fun a => (forceEV a.1 a.2).bind fun d => (seqOfD d.1).bind fun es => (ownL i d.2).bind fun ds => guardR (ds.length + es.length ≤ sizeLine) (.ok (.val .none, setL i (ds ++ es) d.2)) := rfl
@[simp] theorem seqOfL (ds : List Dt) : seqOfD (.list ds) = .ok ds := rfl
@[simp] theorem evPop (i : Nat) : mPop i ρ = (ownL i ρ).bind fun ds => someR (ds[ds.length - 1]?) fun d => .ok (.val d, setL i ds.dropLast ρ) := rfl
@[simp] theorem evReverse (i : Nat) : mReverse i ρ = (ownL i ρ).bind fun ds => .ok (.val .none, setL i ds.reverse ρ) := rfl
@[simp] theorem setLe (i : Nat) (ds : List Dt) : setL i ds ρ = ρ.set i (some (.own (.lst ds))) := rfl
/-! operations -/
@[simp] theorem oAddI (i j : Int) : opAdd (.int i) (.int j) = .ok (.val (.int (i + j))) := rfl
@[simp] theorem oSubI (i j : Int) : opSub (.int i) (.int j) = .ok (.val (.int (i - j))) := rfl
@[simp] theorem oLtI (i j : Int) : opLt (.int i) (.int j) = .ok (.val (.bool (decide (i < j)))) := rfl
@[simp] theorem oLeI (i j : Int) : opLe (.int i) (.int j) = .ok (.val (.bool (decide (i ≤ j)))) := rfl
@[simp] theorem oGtI (i j : Int) : opGt (.int i) (.int j) = .ok (.val (.bool (decide (j < i)))) := rfl
@[simp] theorem oGeI (i j : Int) : opGe (.int i) (.int j) = .ok (.val (.bool (decide (j ≤ i)))) := rfl
@[simp] theorem oIntI (i : Int) : opInt (.int i) = .ok (.val (.int i)) := rfl
theorem eqvI (i j : Int) : PyData.eqv (.int i) (.int j) = decide (i = j) := by
  unfold PyData.eqv
  first
  | rfl
  | simp [PyData.eqv]
  | (by_cases h : i = j <;> simp [h])
@[simp] theorem oEqI (i j : Int) : opEq (.int i) (.int j) = .ok (.val (.bool (decide (i = j)))) := by
  unfold opEq
  rw [eqvI]
  exact guardT ⟨rfl, rfl⟩
@[simp] theorem oModI (i j : Int) (h : 0 < j) : opMod (.int i) (.int j) = .ok (.val (.int (i % j))) := guardT h
@[simp] theorem truthL (ds : List Dt) : truthD (.list ds) = .ok (!ds.isEmpty) := rfl
@[simp] theorem truthB (b : Bool) : truthD (.bool b) = .ok b := rfl
@[simp] theorem truthI (i : Int) : truthD (.int i) = .ok (i != 0) := rfl
/-! a def's call -/
@[simp] theorem mkF_ev {np n : Nat} {br : Nat → Bool} {body : Stm} {as : List SV} (h : as.length = np) (h2 : ownOk br 0 as = true) : mkF np n br body as = (body (rA as ++ List.replicate (n - np) none)).bind fun x => match x.1 with
    | .nxt => finF br as (.val .none) x.2
    | .ret v => finF br as v x.2
    | _ => .bad := if_pos ⟨h, h2⟩
@[simp] theorem ownOk0 (br : Nat → Bool) (j : Nat) : ownOk br j [] = true := rfl
@[simp] theorem ownOkO (br : Nat → Bool) (j : Nat) (o : O) (r : List SV) : ownOk br j (.own o :: r) = (br j && ownOk br (j + 1) r) := rfl
@[simp] theorem ownOkV (br : Nat → Bool) (j : Nat) (d : Dt) (r : List SV) : ownOk br j (.val d :: r) = ownOk br (j + 1) r := rfl
@[simp] theorem finFe (br : Nat → Bool) (as : List SV) (v : EV) (ρ : Rho) : finF br as v ρ = (retV br v ρ).bind fun y => (finA as y.2).bind fun as' => .ok (y.1, as') := rfl
@[simp] theorem retVv (br : Nat → Bool) (d : Dt) (ρ : Rho) : retV br (.val d) ρ = .ok (.val d, ρ) := rfl
@[simp] theorem retVn (br : Nat → Bool) (o : O) (ρ : Rho) : retV br (.new o) ρ = .ok (.new o, ρ) := rfl
@[simp] theorem retVs (br : Nat → Bool) {i : Nat} {o : O} (ρ : Rho) (h : ρ[i]? = some (some (.own o))) (h2 : br i = false) : retV br (.slot i) ρ = .ok (.new o, ρ) := by simp only [retV, h, h2]; rfl
@[simp] theorem finA0 (ρ : Rho) : finA [] ρ = .ok [] := rfl
@[simp] theorem finAv (d : Dt) (as : List SV) (x : Option SV) (ρ : Rho) : finA (.val d :: as) (x :: ρ) = (finA as ρ).bind fun r => .ok (.val d :: r) := by
  cases x with
  | none => rfl
  | some s => cases s <;> rfl
@[simp] theorem finAo (o o' : O) (as : List SV) (ρ : Rho) : finA (.own o :: as) (some (.own o') :: ρ) = (finA as ρ).bind fun r => .ok (.own o' :: r) := rfl
end Mv
set_option Elab.async false
set_option linter.all false
set_option maxRecDepth 100000
set_option maxHeartbeats 4000000
namespace Mv
open PySem PySem.Spec PyProof.Rows L2

@[simp] theorem oIxLi (ds : List Dt) (i : Int) : opIx (.list ds) (.int i) = someR (L2.atI ds i) fun d => .ok (.val d) := rfl
@[simp] theorem oIxTi (ds : List Dt) (i : Int) : opIx (.tuple ds) (.int i) = someR (L2.atI ds i) fun d => .ok (.val d) := rfl
@[simp] theorem oLenL (ds : List Dt) : opLen (.list ds) = .ok (.val (.int ds.length)) := rfl
@[simp] theorem oLenT (ds : List Dt) : opLen (.tuple ds) = .ok (.val (.int ds.length)) := rfl
theorem oLenS (z : Str) (h : z.length ≤ sizeLine) : opLen (.str z) = .ok (.val (.int z.length)) := guardT h
theorem atI_pos {α : Type} {ds : List α} {i : Int} (h : 0 ≤ i) (h2 : i < ds.length) : ∃ d, L2.atI ds i = some d ∧ d ∈ ds := by
  have : L2.atI ds i = ds[i.toNat]? := by
    unfold L2.atI L2.ixN
    rw [if_pos h, if_pos h2]; rfl
  rw [this]
  have h3 : i.toNat < ds.length := by omega
  exact ⟨ds[i.toNat], List.getElem?_eq_getElem h3, List.getElem_mem h3⟩
theorem atI_nat {α : Type} (ds : List α) (k : Nat) : L2.atI ds (k : Int) = ds[k]? := by
  unfold L2.atI L2.ixN
  rw [if_pos (by omega : (0 : Int) ≤ k)]
  by_cases h : (k : Int) < ds.length
  · rw [if_pos h]; rfl
  · rw [if_neg h, List.getElem?_eq_none (by omega)]; rfl
@[simp] theorem atI_0 {α : Type} (ds : List α) : L2.atI ds (0 : Int) = ds[0]? := atI_nat ds 0
@[simp] theorem atI_1 {α : Type} (ds : List α) : L2.atI ds (1 : Int) = ds[1]? := atI_nat ds 1
@[simp] theorem atI_2 {α : Type} (ds : List α) : L2.atI ds (2 : Int) = ds[2]? := atI_nat ds 2
theorem oMulI (i j : Int) (h : MulOk i j) : opMul (.int i) (.int j) = .ok (.val (.int (i * j))) := guardT h
theorem oFdivI (i j : Int) (h : 0 < j ∧ j.natAbs.log2 < 9000) : opFdiv (.int i) (.int j) = .ok (.val (.int (i / j))) := guardT h
theorem mulR {i : Int} (j : Int) (h : j.natAbs < 2 ^ 64) : MulOk i j := .inr (.inl h)
theorem mulL {j : Int} (i : Int) (h : i.natAbs < 2 ^ 64) : MulOk i j := .inl h
/-- a loop that keeps an invariant -/
theorem for_inv {g : Tgt} {b : Stm} (I : List Dt → Rho → Prop) (ds : List Dt) (ρ : Rho) (h0 : I ds ρ) (step : ∀ d ds ρ, I (d :: ds) ρ → ∃ ρ1, g d ρ = .ok ρ1 ∧ ((∃ ρ', (b ρ1 = .ok (.nxt, ρ') ∨ b ρ1 = .ok (.cnt, ρ')) ∧ I ds ρ') ∨ ∃ ρ', b ρ1 = .ok (.brk, ρ') ∧ I [] ρ')) : ∃ ρ', forLoop g b ds ρ = .ok (.nxt, ρ') ∧ I [] ρ' := by
  induction ds generalizing ρ with
  | nil => exact ⟨ρ, rfl, h0⟩
  | cons d ds ih =>
    obtain ⟨ρ1, e1, h⟩ := step d ds ρ h0
    rcases h with ⟨ρ', h | h, hI⟩ | ⟨ρ', h, hI⟩
    · obtain ⟨ρ2, e2, h2⟩ := ih ρ' hI
      exact ⟨ρ2, by simp [forLoop, e1, h, e2], h2⟩
    · obtain ⟨ρ2, e2, h2⟩ := ih ρ' hI
      exact ⟨ρ2, by simp [forLoop, e1, h, e2], h2⟩
    · exact ⟨ρ', by simp [forLoop, e1, h], hI⟩
/-- a loop that may return -/
theorem for_ret {g : Tgt} {b : Stm} (I : List Dt → Rho → Prop) (T : EV → Rho → Prop) (ds : List Dt) (ρ : Rho) (h0 : I ds ρ) (step : ∀ d ds ρ, I (d :: ds) ρ → ∃ ρ1, g d ρ = .ok ρ1 ∧ ((∃ ρ', b ρ1 = .ok (.nxt, ρ') ∧ I ds ρ') ∨ ∃ v ρ', b ρ1 = .ok (.ret v, ρ') ∧ T v ρ')) :
    (∃ ρ', forLoop g b ds ρ = .ok (.nxt, ρ') ∧ I [] ρ') ∨ ∃ v ρ', forLoop g b ds ρ = .ok (.ret v, ρ') ∧ T v ρ' := by
  induction ds generalizing ρ with
  | nil => exact .inl ⟨ρ, rfl, h0⟩
  | cons d ds ih =>
    obtain ⟨ρ1, e1, h⟩ := step d ds ρ h0
    rcases h with ⟨ρ', h, hI⟩ | ⟨v, ρ', h, hT⟩
    · rcases ih ρ' hI with ⟨ρ2, e2, h2⟩ | ⟨v, ρ2, e2, h2⟩
      · exact .inl ⟨ρ2, by simp [forLoop, e1, h, e2], h2⟩
      · exact .inr ⟨v, ρ2, by simp [forLoop, e1, h, e2], h2⟩
    · exact .inr ⟨v, ρ', by simp [forLoop, e1, h], hT⟩
/-- [e for x in ds], e a function of x -/
theorem lc_map {i : Nat} {te : M EV} {ρ : Rho} {ds : List Dt} (f : Dt → Dt) (hi : i < ρ.length) (h : ∀ d ∈ ds, ∃ v, te (ρ.set i (some (.val d))) = .ok (v, ρ.set i (some (.val d))) ∧ (v = .val (f d) ∨ ∃ o, v = .new o ∧ o.d = f d)) : lcLoop (tName i) mYes te [i] ds ρ = .ok (ds.map f, ρ) := by
  induction ds with
  | nil => rfl
  | cons d ds ih =>
    obtain ⟨v, e, hv⟩ := h d List.mem_cons_self
    have ih' := ih fun d hd => h d (List.mem_cons_of_mem _ hd)
    have hw : wipeR ρ [i] = ρ.set i none := rfl
    have hb : backR ρ (ρ.set i (some (.val d))) [i] = ρ := by
      obtain ⟨x, hx⟩ : ∃ x, ρ[i]? = some x := ⟨_, List.getElem?_eq_getElem hi⟩
      simp only [backR, hx, List.set_set]
      apply List.ext_getElem?
      intro j
      by_cases c : i = j
      · subst c; rw [List.getElem?_set_self hi, hx]
      · rw [List.getElem?_set_ne c]
    simp only [lcLoop, hw, evName, List.set_set, bindK, evYes, if_true, e]
    rcases hv with rfl | ⟨o, rfl, ho⟩
    · simp only [forceV, bindK, hb, ih', List.map_cons]
    · simp only [forceN, bindK, hb, ih', List.map_cons, ho]
/-- [e for x in ds if t] -/
theorem lc_filter {i : Nat} {tt : M Bool} {te : M EV} {ρ : Rho} {ds : List Dt} (p : Dt → Bool) (f : Dt → Dt) (hi : i < ρ.length) (hp : ∀ d ∈ ds, tt (ρ.set i (some (.val d))) = .ok (p d, ρ.set i (some (.val d)))) (h : ∀ d ∈ ds, p d = true → ∃ v, te (ρ.set i (some (.val d))) = .ok (v, ρ.set i (some (.val d))) ∧ (v = .val (f d) ∨ ∃ o, v = .new o ∧ o.d = f d)) :
    lcLoop (tName i) tt te [i] ds ρ = .ok ((ds.filter p).map f, ρ) := by
  induction ds with
  | nil => rfl
  | cons d ds ih =>
    have ih' := ih (fun d hd => hp d (List.mem_cons_of_mem _ hd)) fun d hd => h d (List.mem_cons_of_mem _ hd)
    have e0 := hp d List.mem_cons_self
    have hw : wipeR ρ [i] = ρ.set i none := rfl
    have hb : backR ρ (ρ.set i (some (.val d))) [i] = ρ := by
      obtain ⟨x, hx⟩ : ∃ x, ρ[i]? = some x := ⟨_, List.getElem?_eq_getElem hi⟩
      simp only [backR, hx, List.set_set]
      apply List.ext_getElem?
      intro j
      by_cases c : i = j
      · subst c; rw [List.getElem?_set_self hi, hx]
      · rw [List.getElem?_set_ne c]
    cases c : p d with
    | false =>
      simp only [lcLoop, hw, evName, List.set_set, bindK, e0, c, Bool.false_eq_true, if_false, hb, ih', List.filter_cons]
    | true =>
      obtain ⟨v, e, hv⟩ := h d List.mem_cons_self c
      simp only [lcLoop, hw, evName, List.set_set, bindK, e0, c, if_true, e, List.filter_cons]
      rcases hv with rfl | ⟨o, rfl, ho⟩
      · simp only [forceV, bindK, hb, ih', List.map_cons]
      · simp only [forceN, bindK, hb, ih', List.map_cons, ho]
/-- a comprehension whose elements change the state -/
theorem lc_inv {g : Tgt} {te : M EV} {vs : List Nat} (I : List Dt → Rho → Prop) (P : Dt → Prop) (ds : List Dt) (ρ : Rho) (h0 : I ds ρ)
    (step : ∀ d ds ρ, I (d :: ds) ρ → ∃ ρ1 v ρ2, g d (wipeR ρ vs) = .ok ρ1 ∧ te ρ1 = .ok (.val v, ρ2) ∧ P v ∧ I ds (backR ρ ρ2 vs)) : ∃ out ρ', lcLoop g mYes te vs ds ρ = .ok (out, ρ') ∧ (∀ x ∈ out, P x) ∧ out.length = ds.length ∧ I [] ρ' := by
  induction ds generalizing ρ with
  | nil => exact ⟨[], ρ, rfl, fun x h => (by cases h), rfl, h0⟩
  | cons d ds ih =>
    obtain ⟨ρ1, v, ρ2, e1, e2, hv, hI⟩ := step d ds ρ h0
    obtain ⟨out, ρ', e3, h1, h2, h3⟩ := ih _ hI
    refine ⟨v :: out, ρ', ?_, fun x hx => ?_, by simp [h2], h3⟩
    · simp only [lcLoop, e1, bindK, evYes, if_true, e2, forceV, e3]
    · rcases List.mem_cons.mp hx with rfl | hx
      · exact hv
      · exact h1 x hx
/-! any, all of bools -/
theorem truths_bools (bs : List Bool) : truths (bs.map PyData.bool) = some bs := by
  induction bs with
  | nil => rfl
  | cons b bs ih => simp [truths, flatTruth, ih]
theorem oAll {ds : List Dt} (p : Dt → Bool) (xs : List Dt) (h : ds = xs.map fun x => .bool (p x)) : opAll (.list ds) = .ok (.val (.bool (xs.all p))) := by
  subst h
  have : xs.map (fun x => PyData.bool (p x)) = (xs.map p).map PyData.bool := by simp
  simp only [opAll, this, truths_bools, someT]
  simp [List.all_map]
theorem oAny {ds : List Dt} (p : Dt → Bool) (xs : List Dt) (h : ds = xs.map fun x => .bool (p x)) : opAny (.list ds) = .ok (.val (.bool (xs.any p))) := by
  subst h
  have : xs.map (fun x => PyData.bool (p x)) = (xs.map p).map PyData.bool := by simp
  simp only [opAny, this, truths_bools, someT]
  simp [List.any_map]
@[simp] theorem oAllM (p : Dt → Bool) (xs : List Dt) : opAll (.list (xs.map fun x => .bool (p x))) = .ok (.val (.bool (xs.all p))) := oAll p xs rfl
@[simp] theorem oAnyM (p : Dt → Bool) (xs : List Dt) : opAny (.list (xs.map fun x => .bool (p x))) = .ok (.val (.bool (xs.any p))) := oAny p xs rfl
/-! isinstance -/
def isIntD : Dt → Bool
  | .int _ => true
  | .bool _ => true
  | _ => false
def isTupD : Dt → Bool
  | .tuple _ => true
  | _ => false
def noDict : Dt → Bool
  | .dict _ => false
  | _ => true
theorem isi_int {d : Dt} (h : noDict d = true) : opIsi "int" d = .ok (.val (.bool (isIntD d))) := by
  obtain ⟨h1, h2, h3, h4, h5, h6⟩ := kit_int
  cases d <;> simp_all [opIsi, tyD, isIntD, noDict]
theorem isi_tup {d : Dt} (h : noDict d = true) : opIsi "tuple" d = .ok (.val (.bool (isTupD d))) := by
  obtain ⟨h1, h2, h3, h4, h5, h6⟩ := kit_tuple
  cases d <;> simp_all [opIsi, tyD, isTupD, noDict]
end Mv
set_option Elab.async false
set_option linter.all false
set_option maxRecDepth 100000
set_option maxHeartbeats 4000000
namespace Mv
open PySem PySem.Spec PyProof.Rows L2

/-! ### mirrors run backwards -/
def wpS (m : Stm) (ρ : Rho) (Q : Fl → Rho → Prop) : Prop := ∃ fl ρ', m ρ = .ok (fl, ρ') ∧ Q fl ρ'
def wpE (m : M EV) (ρ : Rho) (Q : EV → Rho → Prop) : Prop := ∃ v ρ', m ρ = .ok (v, ρ') ∧ Q v ρ'
theorem wpS.mono {m : Stm} {ρ : Rho} {Q Q' : Fl → Rho → Prop} (h : wpS m ρ Q) (i : ∀ f ρ', Q f ρ' → Q' f ρ') : wpS m ρ Q' := let ⟨f, ρ', e, q⟩ := h; ⟨f, ρ', e, i f ρ' q⟩
theorem wpS.of {m : Stm} {ρ : Rho} {Q : Fl → Rho → Prop} {fl : Fl} {ρ' : Rho} (e : m ρ = .ok (fl, ρ')) (q : Q fl ρ') : wpS m ρ Q := ⟨fl, ρ', e, q⟩
theorem wpE.of {m : M EV} {ρ : Rho} {Q : EV → Rho → Prop} {v : EV} {ρ' : Rho} (e : m ρ = .ok (v, ρ')) (q : Q v ρ') : wpE m ρ Q := ⟨v, ρ', e, q⟩
/-- a statement that goes on -/
theorem wpS.seq {a b : Stm} {ρ ρ1 : Rho} {Q : Fl → Rho → Prop} (e : a ρ = .ok (.nxt, ρ1)) (h : wpS b ρ1 Q) : wpS (mSeq a b) ρ Q := by
  obtain ⟨f, ρ', e2, q⟩ := h
  exact ⟨f, ρ', by simp [e, e2], q⟩
theorem wpS.seqW {a b : Stm} {ρ : Rho} {Q : Fl → Rho → Prop} (h : wpS a ρ fun f ρ1 => match f with
    | .nxt => wpS b ρ1 Q
    | f => Q f ρ1) : wpS (mSeq a b) ρ Q := by
  obtain ⟨f, ρ1, e, q⟩ := h
  cases f with
  | nxt =>
    obtain ⟨f, ρ', e2, q⟩ := q
    exact ⟨f, ρ', by simp [e, e2], q⟩
  | brk => exact ⟨_, ρ1, by simp [e], q⟩
  | cnt => exact ⟨_, ρ1, by simp [e], q⟩
  | ret v => exact ⟨_, ρ1, by simp [e], q⟩
theorem wpS.seqN {a b : Stm} {ρ : Rho} {Q : Fl → Rho → Prop} (h : wpS a ρ fun f ρ1 => f = .nxt ∧ wpS b ρ1 Q) : wpS (mSeq a b) ρ Q :=
  wpS.seqW (h.mono fun f ρ1 ⟨e, q⟩ => by subst e; exact q)
/-- a loop: I holds of what is left and the slots -/
theorem wpS.forW {mi : M (List Dt)} {g : Tgt} {b : Stm} {ρ ρ0 : Rho} {ds : List Dt} {Q : Fl → Rho → Prop} (I : List Dt → Rho → Prop) (e : mi ρ = .ok (ds, ρ0)) (h0 : I ds ρ0)
    (step : ∀ d ds ρ, I (d :: ds) ρ → ∃ ρ1, g d ρ = .ok ρ1 ∧ wpS b ρ1 fun f ρ' => match f with
      | .nxt => I ds ρ'
      | .cnt => I ds ρ'
      | .brk => Q .nxt ρ'
      | .ret v => Q (.ret v) ρ')
    (after : ∀ ρ, I [] ρ → Q .nxt ρ) : wpS (mFor mi g b) ρ Q := by
  have key : ∀ ds ρ, I ds ρ → ∃ f ρ', forLoop g b ds ρ = .ok (f, ρ') ∧ Q f ρ' := by
    intro ds
    induction ds with
    | nil => exact fun ρ h => ⟨_, ρ, rfl, after ρ h⟩
    | cons d ds ih =>
      intro ρ h
      obtain ⟨ρ1, e1, f, ρ', e2, q⟩ := step d ds ρ h
      cases f with
      | nxt =>
        obtain ⟨f, ρ2, e3, q⟩ := ih ρ' q
        exact ⟨f, ρ2, by simp [forLoop, e1, e2, e3], q⟩
      | cnt =>
        obtain ⟨f, ρ2, e3, q⟩ := ih ρ' q
        exact ⟨f, ρ2, by simp [forLoop, e1, e2, e3], q⟩
      | brk => exact ⟨_, ρ', by simp [forLoop, e1, e2], q⟩
      | ret v => exact ⟨_, ρ', by simp [forLoop, e1, e2], q⟩
  obtain ⟨f, ρ', e2, q⟩ := key ds ρ0 h0
  exact ⟨f, ρ', by simp [e, e2], q⟩
/-- the same over a list of things, told by enc -/
theorem wpS.forM {α : Type} {mi : M (List Dt)} {g : Tgt} {b : Stm} {ρ ρ0 : Rho} {Q : Fl → Rho → Prop} (enc : α → Dt) (xs : List α) (I : List α → Rho → Prop) (e : mi ρ = .ok (xs.map enc, ρ0)) (h0 : I xs ρ0)
    (step : ∀ x r ρ, I (x :: r) ρ → ∃ ρ1, g (enc x) ρ = .ok ρ1 ∧ wpS b ρ1 fun f ρ' => match f with
      | .nxt => I r ρ'
      | .cnt => I r ρ'
      | .brk => Q .nxt ρ'
      | .ret v => Q (.ret v) ρ')
    (after : ∀ ρ, I [] ρ → Q .nxt ρ) : wpS (mFor mi g b) ρ Q :=
  wpS.forW (fun ds ρ => ∃ r, ds = r.map enc ∧ I r ρ) e ⟨xs, rfl, h0⟩ (fun d ds ρ ⟨r, hr, hI⟩ => by
    cases r with
    | nil => cases hr
    | cons x r =>
      simp only [List.map_cons, List.cons.injEq] at hr
      obtain ⟨rfl, rfl⟩ := hr
      obtain ⟨ρ1, e1, h⟩ := step x r ρ hI
      refine ⟨ρ1, e1, h.mono fun f ρ' q => ?_⟩
      cases f with
      | nxt => exact ⟨r, rfl, q⟩
      | cnt => exact ⟨r, rfl, q⟩
      | brk => exact q
      | ret v => exact q) fun ρ ⟨r, hr, hI⟩ => by
    cases r with
    | nil => exact after ρ hI
    | cons => cases hr
/-- a def that hands back -/
theorem fn_of {np n : Nat} {br : Nat → Bool} {body : Stm} {as as' : List SV} {v : EV} (h : as.length = np) (h2 : ownOk br 0 as = true) (w : wpS body (rA as ++ List.replicate (n - np) none) fun f ρ' => match f with
    | .nxt => finF br as (.val .none) ρ' = .ok (v, as')
    | .ret u => finF br as u ρ' = .ok (v, as')
    | _ => False) : mkF np n br body as = .ok (v, as') := by
  obtain ⟨f, ρ', e, q⟩ := w
  rw [mkF_ev h h2, e]
  cases f with
  | nxt => exact q
  | ret u => exact q
  | brk => exact False.elim q
  | cnt => exact False.elim q
theorem fn_ex {np n : Nat} {br : Nat → Bool} {body : Stm} {as : List SV} {P : EV → List SV → Prop} (h : as.length = np) (h2 : ownOk br 0 as = true) (w : wpS body (rA as ++ List.replicate (n - np) none) fun f ρ' => match f with
    | .nxt => ∃ v as', finF br as (.val .none) ρ' = .ok (v, as') ∧ P v as'
    | .ret u => ∃ v as', finF br as u ρ' = .ok (v, as') ∧ P v as'
    | _ => False) : ∃ v as', mkF np n br body as = .ok (v, as') ∧ P v as' := by
  obtain ⟨f, ρ', e, q⟩ := w
  rw [mkF_ev h h2, e]
  cases f with
  | nxt => exact q
  | ret u => exact q
  | brk => exact False.elim q
  | cnt => exact False.elim q
theorem wpE.mono {m : M EV} {ρ : Rho} {Q Q' : EV → Rho → Prop} (h : wpE m ρ Q) (i : ∀ f ρ', Q f ρ' → Q' f ρ') : wpE m ρ Q' := let ⟨f, ρ', e, q⟩ := h; ⟨f, ρ', e, i f ρ' q⟩
theorem wpS.set {i : Nat} {m : M EV} {ρ : Rho} {Q : Fl → Rho → Prop} (h : wpE m ρ fun v ρ' => ∃ ρ2, storeEV i v ρ' = .ok ρ2 ∧ Q .nxt ρ2) : wpS (mSet i m) ρ Q := by
  obtain ⟨v, ρ', e, ρ2, e2, q⟩ := h
  exact ⟨_, ρ2, by simp [e, e2], q⟩
theorem wpE.lc {mi : M (List Dt)} {g : Tgt} {te : M EV} {vs : List Nat} {ρ ρ0 : Rho} {ds : List Dt} {Q : EV → Rho → Prop} (I : List Dt → Rho → Prop) (P : Dt → Prop) (e : mi ρ = .ok (ds, ρ0)) (h0 : I ds ρ0)
    (step : ∀ d ds ρ, I (d :: ds) ρ → ∃ ρ1 v ρ2, g d (wipeR ρ vs) = .ok ρ1 ∧ te ρ1 = .ok (.val v, ρ2) ∧ P v ∧ I ds (backR ρ ρ2 vs)) (after : ∀ out ρ', (∀ x ∈ out, P x) → out.length = ds.length → I [] ρ' → Q (.new (.lst out)) ρ') : wpE (mLc mi g mYes te vs) ρ Q := by
  obtain ⟨out, ρ', e2, h1, h2, h3⟩ := lc_inv I P ds ρ0 h0 step
  exact ⟨_, ρ', by simp [e, e2], after out ρ' h1 h2 h3⟩
theorem wpE.join {a : Str} {m : M EV} {ρ : Rho} {Q : EV → Rho → Prop} (h : wpE m ρ fun v ρ' => ∃ ys : List Str, lookEV v ρ' = .ok (.list (ys.map .str)) ∧ (ys.map (·.length)).sum + ys.length * a.length ≤ 16777216 ∧ Q (.val (.str (Txt.join a ys))) ρ') : wpE (mTxt1 opJoin (mC (.str a)) m) ρ Q := by
  obtain ⟨v, ρ', e, ys, e2, hz, q⟩ := h
  refine ⟨_, ρ', ?_, q⟩
  have e3 : opJoin a (.list (ys.map .str)) = .ok (.val (.str (Txt.join a ys))) := by
    simp only [opJoin, strs_of]
    exact guardT hz
  simp [mTxt1, strD, e, e2, e3]
/-! ### data that may be shown and compared -/
structure Rp (k n : Nat) (d : Dt) : Prop where
  lay : d.canLay0 = true
  show_ : d.showable = true
  dp : d.depth ≤ k
  bk : d.bulk ≤ n
  sh : d.leavesShort 571 = true
theorem Rp.le {k n k' n' : Nat} {d : Dt} (h : Rp k n d) (hk : k ≤ k') (hn : n ≤ n') : Rp k' n' d := ⟨h.lay, h.show_, Nat.le_trans h.dp hk, Nat.le_trans h.bk hn, h.sh⟩
theorem Rp.none {k n : Nat} : Rp k n .none := ⟨rfl, rfl, Nat.zero_le _, Nat.zero_le _, rfl⟩
theorem Rp.bool {k n : Nat} {b : Bool} : Rp k n (.bool b) := ⟨rfl, rfl, Nat.zero_le _, Nat.zero_le _, rfl⟩
theorem Rp.int {k n : Nat} {i : Int} (h : i.natAbs < 10 ^ 570) : Rp k n (.int i) := ⟨rfl, by
  have : i.natAbs.log2 < 1920 := by
    by_cases c : i.natAbs = 0
    · rw [c]; decide
    · exact (Nat.log2_lt c).mpr (Nat.lt_of_lt_of_le h (by decide +kernel))
  simp only [PyData.showable, this, decide_true], Nat.zero_le _, Nat.zero_le _, by
  have e : (toString i).length ≤ 571 := int_text_length_le10 (by decide) h
  have e2 : (PyData.shown (.int i)).length = (toString i).length := by
    show (Str.ofString (toString i)).length = _
    exact PySem.ofString_length _
  simp only [PyData.leavesShort, e2, decide_eq_true_eq]
  exact e⟩
theorem Rp.str {k n : Nat} {x : Str} (h : PyData.strOk x = true) (hn : x.length ≤ n) : Rp k n (.str x) := ⟨by simpa only [PyData.canLay0] using h, rfl, Nat.zero_le _, hn, PyData.leavesShort_of_canLay0 571 _ (by simpa only [PyData.canLay0] using h) rfl⟩
theorem all_rp {k n : Nat} : ∀ {ds : List Dt}, (∀ d ∈ ds, Rp k n d) → PyData.canLayAll0 ds = true ∧ PyData.showableAll ds = true ∧ PyData.depthAll ds ≤ k ∧ PyData.bulkAll ds ≤ ds.length * (n + 1) ∧ PyData.leavesShortAll 571 ds = true
  | [], _ => ⟨rfl, rfl, Nat.zero_le _, Nat.zero_le _, rfl⟩
  | d :: ds, h => by
    obtain ⟨a1, a2, a3, a4, a5⟩ := h d List.mem_cons_self
    obtain ⟨b1, b2, b3, b4, b5⟩ := all_rp fun x hx => h x (List.mem_cons_of_mem _ hx)
    refine ⟨by simp [PyData.canLayAll0, a1, b1], by simp [PyData.showableAll, a2, b2], by simp [PyData.depthAll]; omega, ?_, by simp [PyData.leavesShortAll, a5, b5]⟩
    simp only [PyData.bulkAll, List.length_cons, Nat.add_mul, Nat.one_mul]
    omega
theorem Rp.list {k n m : Nat} {ds : List Dt} (h : ∀ d ∈ ds, Rp k n d) (hm : ds.length * (n + 1) ≤ m) : Rp (k + 1) m (.list ds) := by
  obtain ⟨b1, b2, b3, b4, b5⟩ := all_rp h
  exact ⟨by simpa only [PyData.canLay0] using b1, by simpa only [PyData.showable] using b2, by simp only [PyData.depth]; omega, by simp only [PyData.bulk]; omega, by simpa only [PyData.leavesShort] using b5⟩
theorem Rp.tuple {k n m : Nat} {ds : List Dt} (h : ∀ d ∈ ds, Rp k n d) (hm : ds.length * (n + 1) ≤ m) : Rp (k + 1) m (.tuple ds) := by
  obtain ⟨b1, b2, b3, b4, b5⟩ := all_rp h
  exact ⟨by simpa only [PyData.canLay0] using b1, by simpa only [PyData.showable] using b2, by simp only [PyData.depth]; omega, by simp only [PyData.bulk]; omega, by simpa only [PyData.leavesShort] using b5⟩
theorem Rp.shaped {k n : Nat} {d : Dt} (h : Rp k n d) (hk : k ≤ 64) : SeqAt.shaped d = true := by
  unfold SeqAt.shaped
  have := h.dp
  simp only [h.lay, Bool.true_and, decide_eq_true_eq]
  omega
theorem oReprR {k n : Nat} {d : Dt} (h : Rp k n d) (hk : k ≤ 40) (hn : n ≤ 29000) : opRepr d = .ok (.val (.str d.shown)) := guardT ⟨h.show_, h.lay, Nat.le_trans h.dp hk, by
  have e := PyData.shown_le_bulk 571 (by decide) d h.sh
  have e2 := h.bk
  have hz := line24
  have : 573 * d.bulk ≤ 573 * 29000 := Nat.mul_le_mul_left _ (by omega)
  omega⟩
theorem oEqR {k n k' n' : Nat} {a b : Dt} (ha : Rp k n a) (hb : Rp k' n' b) (hk : k ≤ 64) (hk' : k' ≤ 64) : opEq a b = .ok (.val (.bool (PyData.eqv a b))) := guardT ⟨ha.shaped hk, hb.shaped hk'⟩
theorem oNeR {k n k' n' : Nat} {a b : Dt} (ha : Rp k n a) (hb : Rp k' n' b) (hk : k ≤ 64) (hk' : k' ≤ 64) : opNe a b = .ok (.val (.bool (!PyData.eqv a b))) := guardT ⟨ha.shaped hk, hb.shaped hk'⟩
theorem oNeSelf {k n : Nat} {a : Dt} (ha : Rp k n a) (hk : k ≤ 64) : opNe a a = .ok (.val (.bool false)) := by rw [oNeR ha ha hk hk, PySem.SeqAt.eqv_refl a ha.lay]; rfl
theorem oEqSelf {k n : Nat} {a : Dt} (ha : Rp k n a) (hk : k ≤ 64) : opEq a a = .ok (.val (.bool true)) := by rw [oEqR ha ha hk hk, PySem.SeqAt.eqv_refl a ha.lay]
/-! ### what is shown has only signs that there are -/
def SgOk (l : List Nat) : Prop := ∀ c ∈ l, c < 0x110000
theorem strOk_iff {x : Str} : PyData.strOk x = true ↔ SgOk x.cps.toList := by
  unfold PyData.strOk SgOk
  rw [Array.all_eq_true_iff_forall_mem]
  constructor
  · intro h c hc; simpa using h c (Array.mem_toList_iff.mp hc)
  · intro h c hc; simpa using h c (Array.mem_toList_iff.mpr hc)
theorem SgOk.app {a b : List Nat} (ha : SgOk a) (hb : SgOk b) : SgOk (a ++ b) := fun c hc => (List.mem_append.mp hc).elim (ha c) (hb c)
theorem sg_append (a b : Str) : (a ++ b).cps.toList = a.cps.toList ++ b.cps.toList := by
  show (a.cps ++ b.cps).toList = _
  exact Array.toList_append
theorem sg_char (ch : Char) : ch.toNat < 0x110000 := by
  have h := ch.valid
  have e : ch.toNat = ch.val.toNat := rfl
  rw [e]
  rcases h with h | ⟨_, h⟩
  · exact Nat.lt_trans h (by decide)
  · exact h
theorem sg_ofString (s : String) : SgOk (Str.ofString s).cps.toList := by
  rw [PyProof.Rows.signs_ofString]
  intro c hc
  obtain ⟨ch, _, rfl⟩ := List.mem_map.mp hc
  exact sg_char ch
theorem sg_reprChar (q c : Nat) (hc : c < 0x110000) : SgOk (Builtin.Str.reprChar q c) := by
  have hx : ∀ w, SgOk ((fun (width : Nat) => let d := (Nat.toDigits 16 c).map Char.toNat; List.replicate (width - d.length) 48 ++ d) w) := fun w => by
    refine SgOk.app (fun d hd => ?_) fun d hd => ?_
    · rw [(List.mem_replicate.mp hd).2]; decide
    · obtain ⟨ch, _, rfl⟩ := List.mem_map.mp hd
      exact sg_char ch
  have two : ∀ a b, a < 0x110000 → b < 0x110000 → SgOk [a, b] := fun a b ha hb d hd => by
    simp only [List.mem_cons, List.not_mem_nil, or_false] at hd
    rcases hd with rfl | rfl <;> assumption
  unfold Builtin.Str.reprChar
  dsimp only
  repeat' split
  · exact two _ _ (by decide) hc
  · exact two _ _ (by decide) (by decide)
  · exact two _ _ (by decide) (by decide)
  · exact two _ _ (by decide) (by decide)
  · intro d hd; rw [List.mem_singleton.mp hd]; exact hc
  · exact SgOk.app (two _ _ (by decide) (by decide)) (hx 2)
  · exact SgOk.app (two _ _ (by decide) (by decide)) (hx 4)
  · exact SgOk.app (two _ _ (by decide) (by decide)) (hx 8)
theorem sg_reprFold (q : Nat) : ∀ (l : List Nat) (acc : Array Nat), SgOk l → SgOk acc.toList → SgOk (l.foldl (fun out c => out ++ (Builtin.Str.reprChar q c).toArray) acc).toList
  | [], acc, _, h => h
  | c :: r, acc, h, ha => by
    simp only [List.foldl_cons]
    refine sg_reprFold q r _ (fun d hd => h d (List.mem_cons_of_mem _ hd)) ?_
    simp only [Array.toList_append]
    exact SgOk.app ha (sg_reprChar q c (h c List.mem_cons_self))
theorem sg_quote (x : Str) : reprQuote x < 0x110000 := by
  unfold reprQuote
  repeat' split
  all_goals decide
theorem sg_reprText (x : Str) (h : SgOk x.cps.toList) : SgOk (reprText x).cps.toList := by
  have one : SgOk [reprQuote x] := fun d hd => by rw [List.mem_singleton.mp hd]; exact sg_quote x
  unfold reprText
  simp only [Array.toList_push]
  rw [← Array.foldl_toList]
  exact SgOk.app (sg_reprFold _ _ _ h one) one
theorem sg_textFrom : ∀ (ts : List Str) (k : Nat) (acc : Str), (∀ t ∈ ts, SgOk t.cps.toList) → SgOk acc.cps.toList → SgOk (textFrom k acc ts).cps.toList
  | [], k, acc, _, h => h
  | t :: ts, k, acc, h, ha => by
    refine sg_textFrom ts (k + 1) _ (fun u hu => h u (List.mem_cons_of_mem _ hu)) ?_
    rw [sg_append, sg_append]
    exact SgOk.app (SgOk.app ha (sg_ofString _)) (h t List.mem_cons_self)
theorem sg_join (y : Str) (hy : SgOk y.cps.toList) : ∀ ts : List Str, (∀ t ∈ ts, SgOk t.cps.toList) → SgOk (Str.join y ts).cps.toList
  | [], _ => fun c hc => by
    have : (Str.join y []).cps.toList = [] := rfl
    rw [this] at hc; cases hc
  | [t], h => h t List.mem_cons_self
  | t :: u :: r, h => by
    show SgOk (t ++ y ++ Str.join y (u :: r)).cps.toList
    rw [sg_append, sg_append]
    exact SgOk.app (SgOk.app (h t List.mem_cons_self) hy) (sg_join y hy (u :: r) fun v hv => h v (List.mem_cons_of_mem _ hv))
mutual
theorem sg_shown : ∀ d : Dt, d.canLay0 = true → SgOk d.shown.cps.toList
  | .none, _ => sg_ofString _
  | .bool b, _ => by cases b <;> exact sg_ofString _
  | .int i, _ => sg_ofString _
  | .str x, h => sg_reprText x (strOk_iff.mp (by simpa only [PyData.canLay0] using h))
  | .list xs, h => by
    have hx := sg_shownAll xs (by simpa only [PyData.canLay0] using h)
    show SgOk (textFrom 0 "[" (PyData.shownAll xs) ++ "]").cps.toList
    rw [sg_append]
    exact SgOk.app (sg_textFrom _ _ _ hx (sg_ofString _)) (sg_ofString _)
  | .tuple xs, h => by
    have hx := sg_shownAll xs (by simpa only [PyData.canLay0] using h)
    show SgOk (("(" : Str) ++ Str.join ", " (PyData.shownAll xs) ++ (if (PyData.shownAll xs).length == 1 then ",)" else ")" : String)).cps.toList
    rw [sg_append, sg_append]
    exact SgOk.app (SgOk.app (sg_ofString _) (sg_join _ (sg_ofString _) _ hx)) (sg_ofString _)
  | .dict _, h => by simp [PyData.canLay0] at h
theorem sg_shownAll : ∀ xs : List Dt, PyData.canLayAll0 xs = true → ∀ t ∈ PyData.shownAll xs, SgOk t.cps.toList
  | [], _ => fun t ht => by cases ht
  | x :: xs, h => fun t ht => by
    have h' : x.canLay0 = true ∧ PyData.canLayAll0 xs = true := by simpa [PyData.canLayAll0] using h
    rcases List.mem_cons.mp ht with e | ht
    · rw [e]; exact sg_shown x h'.1
    · exact sg_shownAll xs h'.2 t ht
end
theorem shown_shaped {k n : Nat} {d : Dt} (h : Rp k n d) : SeqAt.shaped (.str d.shown) = true := by
  have := strOk_iff.mpr (sg_shown d h.lay)
  simp [SeqAt.shaped, PyData.canLay0, PyData.depth, this]
/-- repr(a) != repr(a) -/
theorem oNeShown {k n : Nat} {d : Dt} (h : Rp k n d) : opNe (.str d.shown) (.str d.shown) = .ok (.val (.bool false)) := by
  have hs := shown_shaped h
  have : opNe (.str d.shown) (.str d.shown) = .ok (.val (.bool (!PyData.eqv (.str d.shown) (.str d.shown)))) := guardT ⟨hs, hs⟩
  rw [this, PySem.SeqAt.eqv_refl _ (SeqAt.canLay_of_shaped hs)]; rfl
theorem oEqShown {k n : Nat} {d : Dt} (h : Rp k n d) : opEq (.str d.shown) (.str d.shown) = .ok (.val (.bool true)) := by
  have hs := shown_shaped h
  have : opEq (.str d.shown) (.str d.shown) = .ok (.val (.bool (PyData.eqv (.str d.shown) (.str d.shown)))) := guardT ⟨hs, hs⟩
  rw [this, PySem.SeqAt.eqv_refl _ (SeqAt.canLay_of_shaped hs)]
end Mv
set_option Elab.async false
set_option linter.all false
set_option maxRecDepth 100000
namespace Lk21
open PySem PySem.Spec PyProof.Rows L2 Mv
def topS (i : Nat) : Stmt := PySem.Challenge.pw_partshold_k21_lines_and_forms.main.body.getD i (.Pass ⟨0, 0, 0, 0⟩)
def abFORMS : List Str := ["", "Form", "term"]
def nmFORMS : List (Str × Str) := [("system", "is_told_system"), ("chances", "are_pairs"), ("shocks", "are_shocks"), ("row", "is_row")]
structure Facts (w : World) (K : PySem.W.Frag) (mg : Str → Option Value) : Prop where
  e_BadNumber : ExcK K mg "BadNumber"
  g_FIGURES : ∃ t, mg "FIGURES" = some (.str "0123456789" t)
  t_FORMS : TabK K w mg "FORMS" (nameKs nmFORMS abFORMS)
  g_SMALL : ∃ t, mg "SMALL" = some (.str "abcdefghijklmnopqrstuvwxyz" t)
  b_all : mg "all" = none
  b_int : mg "int" = none
  b_isinstance : mg "isinstance" = none
  b_len : mg "len" = none
  b_list : mg "list" = none
  b_range : mg "range" = none
  b_repr : mg "repr" = none
  b_str : mg "str" = none
  b_tuple : mg "tuple" = none
def kf_law_kind (c : Str) : Option Dt := if c = "BadNumber" then some (.str "!number") else none
abbrev st_law_number : Stmt := topS 25
theorem sc_law_number : FnScope ["cell"] ["cell"] (defScope st_law_number) := ⟨rfl, rfl, rfl, by decide +kernel, rfl, by decide +kernel, by decide +kernel⟩
def m_law_number : Stm := mSeq (mIfS (mBool (mBin opLt (mVar 0) (mC (.int (0))))) (mRet (mBin opSub (mC (.int (0))) (mVar 0))) (mNil)) (mRet (mVar 0))
def f_law_number : Fn := mkF 1 1 (fun _ => false) m_law_number
set_option maxHeartbeats 4000000 in
theorem d_law_number {P : Program} {w : World} {K : PySem.W.Frag} {mg : Str → Option Value} {base : Heap} (T : Facts w K mg) (F : FunT K mg "_law_number" st_law_number ["cell"]) : DefG P w K mg base 1 "_law_number" 1 f_law_number := by
  obtain ⟨f, fd, F1, hm, hb⟩ := F.ex
  exact DefG.mk' 1 1 (fun _ => false) m_law_number F1 hm sc_law_number hb rfl rfl (fun _ h => Bool.noConfusion h) (fun cdv A outer s H E hr hg => by
    have hp := passD (P := P) (w := w) (K := K) (mg := mg) (base := base) (N := ["cell"]) (x := "_law_number") (st := st_law_number) (f := f) (cdv := cdv) (A := A) (outer := outer) (s := s) (H := H) (E := E)
    exact (SSs.cons (SS.ifs (ST.cmp o_lt calm_Lt (by rfl) (SE.var 0) SE.int) (SSs.one (SS.ret (SE.bin o_sub calm_Sub SE.int (SE.var 0)))) SSs.nil)
    (SSs.one (SS.ret (SE.var 0)))))

abbrev st_law_draws : Stmt := topS 26
theorem sc_law_draws : FnScope ["script", "draws", "cell", "rest", "k", "once", "twice"] ["script"] (defScope st_law_draws) := ⟨rfl, rfl, rfl, by decide +kernel, rfl, by decide +kernel, by decide +kernel⟩
def m_law_draws : Stm := mSeq (mSet 1 (mLst [])) (mSeq (mFor (iSeq (mVar 0)) (tName 2) (mSeq (mSet 3 (mCall f_law_number [mForce (mVar 2)])) (mIfS (mBool (mBin opGe (mVar 3) (mC (.int (1000000000000000000))))) (mFor (iRange1 (mC (.int (60)))) (tName 4) (mSeq (mIfS (mBool (mBin opEq (mVar 3) (mC (.int (0))))) (mBrk) (mNil)) (mSeq (mDrop (mAppend 1 (mBin opMod (mCallB (on1 opInt) [mVar 3]) (mC (.int (1000)))))) (mSet 3 (mBin opFdiv (mVar 3) (mC (.int (1000)))))))) (mSeq (mSet 5 (mBin opMod (mCallB (on1 opInt) [mBin opAdd (mBin opMul (mVar 3) (mC (.int (48271)))) (mC (.int (11)))]) (mC (.int (2147483647))))) (mSeq (mSet 6 (mBin opMod (mCallB (on1 opInt) [mBin opAdd (mBin opMul (mVar 5) (mC (.int (69621)))) (mVar 3)]) (mC (.int (2147483629))))) (mDrop (mExtend 1 (mLst [mForce (mBin opMod (mCallB (on1 opInt) [mVar 3]) (mC (.int (1000)))), mForce (mBin opMod (mCallB (on1 opInt) [mVar 5]) (mC (.int (1000)))), mForce (mBin opMod (mCallB (on1 opInt) [mVar 6]) (mC (.int (1000))))])))))))) (mSeq (mDrop (mReverse 1)) (mRet (mVar 1))))
def f_law_draws : Fn := mkF 1 7 (fun _ => false) m_law_draws
set_option maxHeartbeats 4000000 in
theorem d_law_draws {P : Program} {w : World} {K : PySem.W.Frag} {mg : Str → Option Value} {base : Heap} (T : Facts w K mg) (F : FunT K mg "_law_draws" st_law_draws ["script"]) (D__law_number : DefG P w K mg base 1 "_law_number" 1 f_law_number) : DefG P w K mg base 2 "_law_draws" 1 f_law_draws := by
  obtain ⟨f, fd, F1, hm, hb⟩ := F.ex
  exact DefG.mk' 1 7 (fun _ => false) m_law_draws F1 hm sc_law_draws hb rfl rfl (fun _ h => Bool.noConfusion h) (fun cdv A outer s H E hr hg => by
    have hp := passD (P := P) (w := w) (K := K) (mg := mg) (base := base) (N := ["script", "draws", "cell", "rest", "k", "once", "twice"]) (x := "_law_draws") (st := st_law_draws) (f := f) (cdv := cdv) (A := A) (outer := outer) (s := s) (H := H) (E := E)
    exact (SSs.cons (SS.set 1 sc_law_draws.nd (SE.lst SA.nil))
    (SSs.cons (SS.fors hp rfl (SI.seq (SE.var 0)) (SG.name 2 sc_law_draws.nd) (SSs.cons (SS.set 3 sc_law_draws.nd (SE.call D__law_number hr hg takesD (SA.cons (SE.force (SE.var 2)) SA.nil)))
    (SSs.one (SS.ifs (ST.cmp o_ge calm_Ge (by rfl) (SE.var 3) SE.int) (SSs.one (SS.fors hp rfl (SI.range1 T.b_range SE.int) (SG.name 4 sc_law_draws.nd) (SSs.cons (SS.ifs (ST.cmp (o_eq (ru64 hr)) calm_Eq (by rfl) (SE.var 3) SE.int) (SSs.one SS.brk) SSs.nil)
    (SSs.cons (SS.expr (SE.append 1 (SE.bin o_mod calm_Mod (SE.callTy c_int calm_Int T.b_int bt_int (SA.cons (SE.var 3) SA.nil)) SE.int)))
    (SSs.one (SS.set 3 sc_law_draws.nd (SE.bin o_fdiv calm_Fdiv (SE.var 3) SE.int))))))) (SSs.cons (SS.set 5 sc_law_draws.nd (SE.bin o_mod calm_Mod (SE.callTy c_int calm_Int T.b_int bt_int (SA.cons (SE.bin o_add calm_Add (SE.bin o_mul calm_Mul (SE.var 3) SE.int) SE.int) SA.nil)) SE.int))
    (SSs.cons (SS.set 6 sc_law_draws.nd (SE.bin o_mod calm_Mod (SE.callTy c_int calm_Int T.b_int bt_int (SA.cons (SE.bin o_add calm_Add (SE.bin o_mul calm_Mul (SE.var 5) SE.int) (SE.var 3)) SA.nil)) SE.int))
    (SSs.one (SS.expr (SE.extend 1 (SE.lst (SA.cons (SE.force (SE.bin o_mod calm_Mod (SE.callTy c_int calm_Int T.b_int bt_int (SA.cons (SE.var 3) SA.nil)) SE.int)) (SA.cons (SE.force (SE.bin o_mod calm_Mod (SE.callTy c_int calm_Int T.b_int bt_int (SA.cons (SE.var 5) SA.nil)) SE.int)) (SA.cons (SE.force (SE.bin o_mod calm_Mod (SE.callTy c_int calm_Int T.b_int bt_int (SA.cons (SE.var 6) SA.nil)) SE.int)) SA.nil)))))))))))))
    (SSs.cons (SS.expr (SE.reverse 1))
    (SSs.one (SS.ret (SE.var 1)))))))

abbrev st_law_next : Stmt := topS 27
theorem sc_law_next : FnScope ["draws"] ["draws"] (defScope st_law_next) := ⟨rfl, rfl, rfl, by decide +kernel, rfl, by decide +kernel, by decide +kernel⟩
def m_law_next : Stm := mSeq (mIfS (mTest (mVar 0)) (mRet (mPop 0)) (mNil)) (mRet (mC (.int (0))))
def f_law_next : Fn := mkF 1 1 (fun i => i == 0) m_law_next
set_option maxHeartbeats 4000000 in
theorem d_law_next {P : Program} {w : World} {K : PySem.W.Frag} {mg : Str → Option Value} {base : Heap} (T : Facts w K mg) (F : FunT K mg "_law_next" st_law_next ["draws"]) : DefG P w K mg base 1 "_law_next" 1 f_law_next := by
  obtain ⟨f, fd, F1, hm, hb⟩ := F.ex
  exact DefG.mk' 1 1 (fun i => i == 0) m_law_next F1 hm sc_law_next hb rfl rfl (fun i h => by simp at h; omega) (fun cdv A outer s H E hr hg => by
    have hp := passD (P := P) (w := w) (K := K) (mg := mg) (base := base) (N := ["draws"]) (x := "_law_next") (st := st_law_next) (f := f) (cdv := cdv) (A := A) (outer := outer) (s := s) (H := H) (E := E)
    exact (SSs.cons (SS.ifs (ST.truth (SE.var 0)) (SSs.one (SS.ret (SE.pop 0))) SSs.nil)
    (SSs.one (SS.ret SE.int))))

abbrev st_law_more : Stmt := topS 28
theorem sc_law_more : FnScope ["draws", "many", "seed", "more", "k"] ["draws", "many"] (defScope st_law_more) := ⟨rfl, rfl, rfl, by decide +kernel, rfl, by decide +kernel, by decide +kernel⟩
def m_law_more : Stm := mSeq (mSet 2 (mBin opAdd (mBin opAdd (mBin opMul (mC (.int (1000))) (mCall f_law_next [mVar 0])) (mCall f_law_next [mVar 0])) (mC (.int (1))))) (mSeq (mSet 3 (mLst [])) (mSeq (mFor (iRange1 (mVar 1)) (tName 4) (mSeq (mSet 2 (mBin opMod (mCallB (on1 opInt) [mBin opAdd (mBin opMul (mVar 2) (mC (.int (48271)))) (mC (.int (12345)))]) (mC (.int (2147483647))))) (mDrop (mAppend 3 (mBin opMod (mCallB (on1 opInt) [mBin opFdiv (mVar 2) (mC (.int (7)))]) (mC (.int (1000)))))))) (mRet (mBin opAdd (mVar 3) (mVar 0)))))
def f_law_more : Fn := mkF 2 5 (fun i => i == 0) m_law_more
set_option maxHeartbeats 4000000 in
theorem d_law_more {P : Program} {w : World} {K : PySem.W.Frag} {mg : Str → Option Value} {base : Heap} (T : Facts w K mg) (F : FunT K mg "_law_more" st_law_more ["draws", "many"]) (D__law_next : DefG P w K mg base 1 "_law_next" 1 f_law_next) : DefG P w K mg base 2 "_law_more" 2 f_law_more := by
  obtain ⟨f, fd, F1, hm, hb⟩ := F.ex
  exact DefG.mk' 2 5 (fun i => i == 0) m_law_more F1 hm sc_law_more hb rfl rfl (fun i h => by simp at h; omega) (fun cdv A outer s H E hr hg => by
    have hp := passD (P := P) (w := w) (K := K) (mg := mg) (base := base) (N := ["draws", "many", "seed", "more", "k"]) (x := "_law_more") (st := st_law_more) (f := f) (cdv := cdv) (A := A) (outer := outer) (s := s) (H := H) (E := E)
    exact (SSs.cons (SS.set 2 sc_law_more.nd (SE.bin o_add calm_Add (SE.bin o_add calm_Add (SE.bin o_mul calm_Mul SE.int (SE.call D__law_next hr hg takesD (SA.cons (SE.var 0) SA.nil))) (SE.call D__law_next hr hg takesD (SA.cons (SE.var 0) SA.nil))) SE.int))
    (SSs.cons (SS.set 3 sc_law_more.nd (SE.lst SA.nil))
    (SSs.cons (SS.fors hp rfl (SI.range1 T.b_range (SE.var 1)) (SG.name 4 sc_law_more.nd) (SSs.cons (SS.set 2 sc_law_more.nd (SE.bin o_mod calm_Mod (SE.callTy c_int calm_Int T.b_int bt_int (SA.cons (SE.bin o_add calm_Add (SE.bin o_mul calm_Mul (SE.var 2) SE.int) SE.int) SA.nil)) SE.int))
    (SSs.one (SS.expr (SE.append 3 (SE.bin o_mod calm_Mod (SE.callTy c_int calm_Int T.b_int bt_int (SA.cons (SE.bin o_fdiv calm_Fdiv (SE.var 2) SE.int) SA.nil)) SE.int))))))
    (SSs.one (SS.ret (SE.bin o_add calm_Add (SE.var 3) (SE.var 0))))))))

abbrev stwords_of : Stmt := topS 21
theorem scwords_of : FnScope ["line", "words", "word", "char"] ["line"] (defScope stwords_of) := ⟨rfl, rfl, rfl, by decide +kernel, rfl, by decide +kernel, by decide +kernel⟩
def mwords_of : Stm := mSeq (mSet 1 (mTxt1 opSplit (mVar 0) (mC (.str " ")))) (mSeq (mFor (iSeq (mVar 1)) (tName 2) (mIfS (mOrT (mBool (mBin opEq (mVar 2) (mC (.str "")))) (mNotT (mTest (mCallB (on1 opAll) [mLc (iSeq (mVar 2)) (tName 3) (mYes) (mChain opLe opLe (mC (.str "!")) (mVar 3) (mC (.str "~"))) [3]])))) (mRet (mC .none)) (mNil))) (mRet (mVar 1)))
def fwords_of : Fn := mkF 1 4 (fun _ => false) mwords_of
set_option maxHeartbeats 4000000 in
theorem dwords_of {P : Program} {w : World} {K : PySem.W.Frag} {mg : Str → Option Value} {base : Heap} (T : Facts w K mg) (F : FunT K mg "words_of" stwords_of ["line"]) : DefG P w K mg base 1 "words_of" 1 fwords_of := by
  obtain ⟨f, fd, F1, hm, hb⟩ := F.ex
  exact DefG.mk' 1 4 (fun _ => false) mwords_of F1 hm scwords_of hb rfl rfl (fun _ h => Bool.noConfusion h) (fun cdv A outer s H E hr hg => by
    have hp := passD (P := P) (w := w) (K := K) (mg := mg) (base := base) (N := ["line", "words", "word", "char"]) (x := "words_of") (st := stwords_of) (f := f) (cdv := cdv) (A := A) (outer := outer) (s := s) (H := H) (E := E)
    exact (SSs.cons (SS.set 1 scwords_of.nd (SE.split (SE.var 0) SE.str))
    (SSs.cons (SS.fors hp rfl (SI.seq (SE.var 1)) (SG.name 2 scwords_of.nd) (SSs.one (SS.ifs (ST.w (SW.or (ST.cmp (o_eq (ru64 hr)) calm_Eq (by rfl) (SE.var 2) SE.str) (SW.or1 (ST.not (ST.truth (SE.callB (c_all rfl) calm_All T.b_all bt_all (SA.cons (SE.lc [("char", 3)] rfl scwords_of.nd (SI.seq (SE.var 2)) (blkOk_by (by kernel_rfl)) (fun _ _ _ _ _ => (SG.name 3 scwords_of.nd)) (fun _ _ _ _ _ => STs.nil) (fun _ _ _ _ _ => (SE.chain o_le calm_Le o_le calm_Le SE.str (SE.var 3) SE.str))) SA.nil))))))) (SSs.one (SS.ret SE.non)) SSs.nil)))
    (SSs.one (SS.ret (SE.var 1))))))

abbrev stis_name : Stmt := topS 22
theorem scis_name : FnScope ["word", "char"] ["word"] (defScope stis_name) := ⟨rfl, rfl, rfl, by decide +kernel, rfl, by decide +kernel, by decide +kernel⟩
def mis_name : Stm := mRet (mAndV (mChain opLe opLe (mC (.int (1))) (mCallB (on1 opLen) [mVar 0]) (mC (.int (12)))) (mCallB (on1 opAll) [mLc (iSeq (mVar 0)) (tName 1) (mYes) (mBin opIn (mVar 1) (mC (.str "abcdefghijklmnopqrstuvwxyz"))) [1]]))
def fis_name : Fn := mkF 1 2 (fun _ => false) mis_name
set_option maxHeartbeats 4000000 in
theorem dis_name {P : Program} {w : World} {K : PySem.W.Frag} {mg : Str → Option Value} {base : Heap} (T : Facts w K mg) (F : FunT K mg "is_name" stis_name ["word"]) : DefG P w K mg base 1 "is_name" 1 fis_name := by
  obtain ⟨f, fd, F1, hm, hb⟩ := F.ex
  exact DefG.mk' 1 2 (fun _ => false) mis_name F1 hm scis_name hb rfl rfl (fun _ h => Bool.noConfusion h) (fun cdv A outer s H E hr hg => by
    have hp := passD (P := P) (w := w) (K := K) (mg := mg) (base := base) (N := ["word", "char"]) (x := "is_name") (st := stis_name) (f := f) (cdv := cdv) (A := A) (outer := outer) (s := s) (H := H) (E := E)
    exact (SSs.one (SS.ret (SE.and (SE.chain o_le calm_Le o_le calm_Le SE.int (SE.callB c_len calm_Len T.b_len bt_len (SA.cons (SE.var 0) SA.nil)) SE.int) (SE.one (SE.callB (c_all rfl) calm_All T.b_all bt_all (SA.cons (SE.lc [("char", 1)] rfl scis_name.nd (SI.seq (SE.var 0)) (blkOk_by (by kernel_rfl)) (fun _ _ _ _ _ => (SG.name 1 scis_name.nd)) (fun _ _ _ _ _ => STs.nil) (fun _ _ _ _ _ => (SE.cmp (o_in (ru65 hr)) calm_In (by rfl) (SE.var 1) (SE.globS T.g_SMALL)))) SA.nil)))))))

abbrev stnumber_in : Stmt := topS 23
theorem scnumber_in : FnScope ["word", "char"] ["word"] (defScope stnumber_in) := ⟨rfl, rfl, rfl, by decide +kernel, rfl, by decide +kernel, by decide +kernel⟩
def mnumber_in : Stm := mSeq (mIfS (mOrT (mNotT (mBool (mChain opLe opLe (mC (.int (1))) (mCallB (on1 opLen) [mVar 0]) (mC (.int (2)))))) (mNotT (mTest (mCallB (on1 opAll) [mLc (iSeq (mVar 0)) (tName 1) (mYes) (mBin opIn (mVar 1) (mC (.str "0123456789"))) [1]])))) (mRet (mC .none)) (mNil)) (mSeq (mIfS (mAndT (mBool (mBin opEq (mCallB (on1 opLen) [mVar 0]) (mC (.int (2))))) (mBool (mBin opEq (mBin opIx (mVar 0) (mC (.int (0)))) (mC (.str "0"))))) (mRet (mC .none)) (mNil)) (mRet (mCallB (on1 opInt) [mVar 0])))
def fnumber_in : Fn := mkF 1 2 (fun _ => false) mnumber_in
set_option maxHeartbeats 4000000 in
theorem dnumber_in {P : Program} {w : World} {K : PySem.W.Frag} {mg : Str → Option Value} {base : Heap} (T : Facts w K mg) (F : FunT K mg "number_in" stnumber_in ["word"]) : DefG P w K mg base 1 "number_in" 1 fnumber_in := by
  obtain ⟨f, fd, F1, hm, hb⟩ := F.ex
  exact DefG.mk' 1 2 (fun _ => false) mnumber_in F1 hm scnumber_in hb rfl rfl (fun _ h => Bool.noConfusion h) (fun cdv A outer s H E hr hg => by
    have hp := passD (P := P) (w := w) (K := K) (mg := mg) (base := base) (N := ["word", "char"]) (x := "number_in") (st := stnumber_in) (f := f) (cdv := cdv) (A := A) (outer := outer) (s := s) (H := H) (E := E)
    exact (SSs.cons (SS.ifs (ST.w (SW.or (ST.not (ST.chain o_le calm_Le o_le calm_Le SE.int (SE.callB c_len calm_Len T.b_len bt_len (SA.cons (SE.var 0) SA.nil)) SE.int)) (SW.or1 (ST.not (ST.truth (SE.callB (c_all rfl) calm_All T.b_all bt_all (SA.cons (SE.lc [("char", 1)] rfl scnumber_in.nd (SI.seq (SE.var 0)) (blkOk_by (by kernel_rfl)) (fun _ _ _ _ _ => (SG.name 1 scnumber_in.nd)) (fun _ _ _ _ _ => STs.nil) (fun _ _ _ _ _ => (SE.cmp (o_in (ru65 hr)) calm_In (by rfl) (SE.var 1) (SE.globS T.g_FIGURES)))) SA.nil))))))) (SSs.one (SS.ret SE.non)) SSs.nil)
    (SSs.cons (SS.ifs (ST.w (SW.and (ST.cmp (o_eq (ru64 hr)) calm_Eq (by rfl) (SE.callB c_len calm_Len T.b_len bt_len (SA.cons (SE.var 0) SA.nil)) SE.int) (SW.and1 (ST.cmp (o_eq (ru64 hr)) calm_Eq (by rfl) (SE.ix (SE.var 0) SE.int) SE.str)))) (SSs.one (SS.ret SE.non)) SSs.nil)
    (SSs.one (SS.ret (SE.callTy c_int calm_Int T.b_int bt_int (SA.cons (SE.var 0) SA.nil)))))))

abbrev stis_integer : Stmt := topS 10
theorem scis_integer : FnScope ["term"] ["term"] (defScope stis_integer) := ⟨rfl, rfl, rfl, by decide +kernel, rfl, by decide +kernel, by decide +kernel⟩
def mis_integer : Stm := mRet (mUn (opIsi "int") (mVar 0))
def fis_integer : Fn := mkF 1 1 (fun _ => false) mis_integer
set_option maxHeartbeats 4000000 in
theorem dis_integer {P : Program} {w : World} {K : PySem.W.Frag} {mg : Str → Option Value} {base : Heap} (T : Facts w K mg) (F : FunT K mg "is_integer" stis_integer ["term"]) : DefG P w K mg base 1 "is_integer" 1 fis_integer := by
  obtain ⟨f, fd, F1, hm, hb⟩ := F.ex
  exact DefG.mk' 1 1 (fun _ => false) mis_integer F1 hm scis_integer hb rfl rfl (fun _ h => Bool.noConfusion h) (fun cdv A outer s H E hr hg => by
    have hp := passD (P := P) (w := w) (K := K) (mg := mg) (base := base) (N := ["term"]) (x := "is_integer") (st := stis_integer) (f := f) (cdv := cdv) (A := A) (outer := outer) (s := s) (H := H) (E := E)
    exact (SSs.one (SS.ret (SE.isi "int" T.b_isinstance T.b_int bt_int (SE.var 0)))))

abbrev stis_row : Stmt := topS 11
theorem scis_row : FnScope ["term", "entry"] ["term"] (defScope stis_row) := ⟨rfl, rfl, rfl, by decide +kernel, rfl, by decide +kernel, by decide +kernel⟩
def mis_row : Stm := mRet (mAndV (mUn (opIsi "tuple") (mVar 0)) (mCallB (on1 opAll) [mLc (iSeq (mVar 0)) (tName 1) (mYes) (mCall fis_integer [mForce (mVar 1)]) [1]]))
def fis_row : Fn := mkF 1 2 (fun _ => false) mis_row
set_option maxHeartbeats 4000000 in
theorem dis_row {P : Program} {w : World} {K : PySem.W.Frag} {mg : Str → Option Value} {base : Heap} (T : Facts w K mg) (F : FunT K mg "is_row" stis_row ["term"]) (D_is_integer : DefG P w K mg base 1 "is_integer" 1 fis_integer) : DefG P w K mg base 2 "is_row" 1 fis_row := by
  obtain ⟨f, fd, F1, hm, hb⟩ := F.ex
  exact DefG.mk' 1 2 (fun _ => false) mis_row F1 hm scis_row hb rfl rfl (fun _ h => Bool.noConfusion h) (fun cdv A outer s H E hr hg => by
    have hp := passD (P := P) (w := w) (K := K) (mg := mg) (base := base) (N := ["term", "entry"]) (x := "is_row") (st := stis_row) (f := f) (cdv := cdv) (A := A) (outer := outer) (s := s) (H := H) (E := E)
    exact (SSs.one (SS.ret (SE.and (SE.isi "tuple" T.b_isinstance T.b_tuple bt_tuple (SE.var 0)) (SE.one (SE.callB (c_all rfl) calm_All T.b_all bt_all (SA.cons (SE.lc [("entry", 1)] rfl scis_row.nd (SI.seq (SE.var 0)) (blkOk_by (by kernel_rfl)) (fun _ _ _ _ _ => (SG.name 1 scis_row.nd)) (fun _ _ _ _ _ => STs.nil) (fun _ _ _ _ _ => (SE.call D_is_integer hr hg takesW0 (SA.cons (SE.force (SE.var 1)) SA.nil)))) SA.nil)))))))

abbrev stis_told_system : Stmt := topS 12
theorem scis_told_system : FnScope ["term"] ["term"] (defScope stis_told_system) := ⟨rfl, rfl, rfl, by decide +kernel, rfl, by decide +kernel, by decide +kernel⟩
def mis_told_system : Stm := mRet (mAndV (mUn (opIsi "tuple") (mVar 0)) (mAndV (mBin opEq (mCallB (on1 opLen) [mVar 0]) (mC (.int (2)))) (mAndV (mCall fis_integer [mForce (mBin opIx (mVar 0) (mC (.int (0))))]) (mCall fis_row [mForce (mBin opIx (mVar 0) (mC (.int (1))))]))))
def fis_told_system : Fn := mkF 1 1 (fun _ => false) mis_told_system
set_option maxHeartbeats 4000000 in
theorem dis_told_system {P : Program} {w : World} {K : PySem.W.Frag} {mg : Str → Option Value} {base : Heap} (T : Facts w K mg) (F : FunT K mg "is_told_system" stis_told_system ["term"]) (D_is_integer : DefG P w K mg base 2 "is_integer" 1 fis_integer) (D_is_row : DefG P w K mg base 2 "is_row" 1 fis_row) : DefG P w K mg base 3 "is_told_system" 1 fis_told_system := by
  obtain ⟨f, fd, F1, hm, hb⟩ := F.ex
  exact DefG.mk' 1 1 (fun _ => false) mis_told_system F1 hm scis_told_system hb rfl rfl (fun _ h => Bool.noConfusion h) (fun cdv A outer s H E hr hg => by
    have hp := passD (P := P) (w := w) (K := K) (mg := mg) (base := base) (N := ["term"]) (x := "is_told_system") (st := stis_told_system) (f := f) (cdv := cdv) (A := A) (outer := outer) (s := s) (H := H) (E := E)
    exact (SSs.one (SS.ret (SE.and (SE.isi "tuple" T.b_isinstance T.b_tuple bt_tuple (SE.var 0)) (SE.and (SE.cmp (o_eq (ru64 hr)) calm_Eq (by rfl) (SE.callB c_len calm_Len T.b_len bt_len (SA.cons (SE.var 0) SA.nil)) SE.int) (SE.and (SE.call D_is_integer hr hg takesD (SA.cons (SE.force (SE.ix (SE.var 0) SE.int)) SA.nil)) (SE.one (SE.call D_is_row hr hg takesD (SA.cons (SE.force (SE.ix (SE.var 0) SE.int)) SA.nil)))))))))

abbrev stare_pairs : Stmt := topS 13
theorem scare_pairs : FnScope ["term", "entry"] ["term"] (defScope stare_pairs) := ⟨rfl, rfl, rfl, by decide +kernel, rfl, by decide +kernel, by decide +kernel⟩
def mare_pairs : Stm := mRet (mAndV (mUn (opIsi "tuple") (mVar 0)) (mCallB (on1 opAll) [mLc (iSeq (mVar 0)) (tName 1) (mYes) (mCall fis_row [mForce (mVar 1)]) [1]]))
def fare_pairs : Fn := mkF 1 2 (fun _ => false) mare_pairs
set_option maxHeartbeats 4000000 in
theorem dare_pairs {P : Program} {w : World} {K : PySem.W.Frag} {mg : Str → Option Value} {base : Heap} (T : Facts w K mg) (F : FunT K mg "are_pairs" stare_pairs ["term"]) (D_is_row : DefG P w K mg base 2 "is_row" 1 fis_row) : DefG P w K mg base 3 "are_pairs" 1 fare_pairs := by
  obtain ⟨f, fd, F1, hm, hb⟩ := F.ex
  exact DefG.mk' 1 2 (fun _ => false) mare_pairs F1 hm scare_pairs hb rfl rfl (fun _ h => Bool.noConfusion h) (fun cdv A outer s H E hr hg => by
    have hp := passD (P := P) (w := w) (K := K) (mg := mg) (base := base) (N := ["term", "entry"]) (x := "are_pairs") (st := stare_pairs) (f := f) (cdv := cdv) (A := A) (outer := outer) (s := s) (H := H) (E := E)
    exact (SSs.one (SS.ret (SE.and (SE.isi "tuple" T.b_isinstance T.b_tuple bt_tuple (SE.var 0)) (SE.one (SE.callB (c_all rfl) calm_All T.b_all bt_all (SA.cons (SE.lc [("entry", 1)] rfl scare_pairs.nd (SI.seq (SE.var 0)) (blkOk_by (by kernel_rfl)) (fun _ _ _ _ _ => (SG.name 1 scare_pairs.nd)) (fun _ _ _ _ _ => STs.nil) (fun _ _ _ _ _ => (SE.call D_is_row hr hg takesW0 (SA.cons (SE.force (SE.var 1)) SA.nil)))) SA.nil)))))))

abbrev stis_shock : Stmt := topS 14
theorem scis_shock : FnScope ["term"] ["term"] (defScope stis_shock) := ⟨rfl, rfl, rfl, by decide +kernel, rfl, by decide +kernel, by decide +kernel⟩
def mis_shock : Stm := mRet (mAndV (mUn (opIsi "tuple") (mVar 0)) (mAndV (mBin opEq (mCallB (on1 opLen) [mVar 0]) (mC (.int (2)))) (mAndV (mCall fis_integer [mForce (mBin opIx (mVar 0) (mC (.int (0))))]) (mCall fis_row [mForce (mBin opIx (mVar 0) (mC (.int (1))))]))))
def fis_shock : Fn := mkF 1 1 (fun _ => false) mis_shock
set_option maxHeartbeats 4000000 in
theorem dis_shock {P : Program} {w : World} {K : PySem.W.Frag} {mg : Str → Option Value} {base : Heap} (T : Facts w K mg) (F : FunT K mg "is_shock" stis_shock ["term"]) (D_is_integer : DefG P w K mg base 2 "is_integer" 1 fis_integer) (D_is_row : DefG P w K mg base 2 "is_row" 1 fis_row) : DefG P w K mg base 3 "is_shock" 1 fis_shock := by
  obtain ⟨f, fd, F1, hm, hb⟩ := F.ex
  exact DefG.mk' 1 1 (fun _ => false) mis_shock F1 hm scis_shock hb rfl rfl (fun _ h => Bool.noConfusion h) (fun cdv A outer s H E hr hg => by
    have hp := passD (P := P) (w := w) (K := K) (mg := mg) (base := base) (N := ["term"]) (x := "is_shock") (st := stis_shock) (f := f) (cdv := cdv) (A := A) (outer := outer) (s := s) (H := H) (E := E)
    exact (SSs.one (SS.ret (SE.and (SE.isi "tuple" T.b_isinstance T.b_tuple bt_tuple (SE.var 0)) (SE.and (SE.cmp (o_eq (ru64 hr)) calm_Eq (by rfl) (SE.callB c_len calm_Len T.b_len bt_len (SA.cons (SE.var 0) SA.nil)) SE.int) (SE.and (SE.call D_is_integer hr hg takesD (SA.cons (SE.force (SE.ix (SE.var 0) SE.int)) SA.nil)) (SE.one (SE.call D_is_row hr hg takesD (SA.cons (SE.force (SE.ix (SE.var 0) SE.int)) SA.nil)))))))))

abbrev stare_shocks : Stmt := topS 15
theorem scare_shocks : FnScope ["term", "entry"] ["term"] (defScope stare_shocks) := ⟨rfl, rfl, rfl, by decide +kernel, rfl, by decide +kernel, by decide +kernel⟩
def mare_shocks : Stm := mRet (mAndV (mUn (opIsi "tuple") (mVar 0)) (mCallB (on1 opAll) [mLc (iSeq (mVar 0)) (tName 1) (mYes) (mCall fis_shock [mForce (mVar 1)]) [1]]))
def fare_shocks : Fn := mkF 1 2 (fun _ => false) mare_shocks
set_option maxHeartbeats 4000000 in
theorem dare_shocks {P : Program} {w : World} {K : PySem.W.Frag} {mg : Str → Option Value} {base : Heap} (T : Facts w K mg) (F : FunT K mg "are_shocks" stare_shocks ["term"]) (D_is_shock : DefG P w K mg base 3 "is_shock" 1 fis_shock) : DefG P w K mg base 4 "are_shocks" 1 fare_shocks := by
  obtain ⟨f, fd, F1, hm, hb⟩ := F.ex
  exact DefG.mk' 1 2 (fun _ => false) mare_shocks F1 hm scare_shocks hb rfl rfl (fun _ h => Bool.noConfusion h) (fun cdv A outer s H E hr hg => by
    have hp := passD (P := P) (w := w) (K := K) (mg := mg) (base := base) (N := ["term", "entry"]) (x := "are_shocks") (st := stare_shocks) (f := f) (cdv := cdv) (A := A) (outer := outer) (s := s) (H := H) (E := E)
    exact (SSs.one (SS.ret (SE.and (SE.isi "tuple" T.b_isinstance T.b_tuple bt_tuple (SE.var 0)) (SE.one (SE.callB (c_all rfl) calm_All T.b_all bt_all (SA.cons (SE.lc [("entry", 1)] rfl scare_shocks.nd (SI.seq (SE.var 0)) (blkOk_by (by kernel_rfl)) (fun _ _ _ _ _ => (SG.name 1 scare_shocks.nd)) (fun _ _ _ _ _ => STs.nil) (fun _ _ _ _ _ => (SE.call D_is_shock hr hg takesW0 (SA.cons (SE.force (SE.var 1)) SA.nil)))) SA.nil)))))))

def tabFORMS : List (Str × Str × Mv.Fn) := [("system", "is_told_system", fis_told_system), ("chances", "are_pairs", fare_pairs), ("shocks", "are_shocks", fare_shocks), ("row", "is_row", fis_row)]
abbrev sthas_form : Stmt := topS 17
theorem schas_form : FnScope ["thing", "term"] ["thing", "term"] (defScope sthas_form) := ⟨rfl, rfl, rfl, by decide +kernel, rfl, by decide +kernel, by decide +kernel⟩
def mhas_form : Stm := mSeq (mIfS (mBool (mUn (opTab (nameKs nmFORMS abFORMS) true) (mVar 0))) (mRaise "BadNumber") (mNil)) (mRet (mCallF (mTab (tabFns tabFORMS) (mVar 0)) [mForce (mVar 1)]))
def fhas_form : Fn := mkF 2 2 (fun _ => false) mhas_form
set_option maxHeartbeats 4000000 in
theorem dhas_form {P : Program} {w : World} {K : PySem.W.Frag} {mg : Str → Option Value} {base : Heap} (T : Facts w K mg) (F : FunT K mg "has_form" sthas_form ["thing", "term"]) (D_is_told_system : DefG P w K mg base 4 "is_told_system" 1 fis_told_system) (D_are_pairs : DefG P w K mg base 4 "are_pairs" 1 fare_pairs) (D_are_shocks : DefG P w K mg base 4 "are_shocks" 1 fare_shocks) (D_is_row : DefG P w K mg base 4 "is_row" 1 fis_row) : DefG P w K mg base 5 "has_form" 2 fhas_form := by
  obtain ⟨f, fd, F1, hm, hb⟩ := F.ex
  exact DefG.mk' 2 2 (fun _ => false) mhas_form F1 hm schas_form hb rfl rfl (fun _ h => Bool.noConfusion h) (fun cdv A outer s H E hr hg => by
    have hp := passD (P := P) (w := w) (K := K) (mg := mg) (base := base) (N := ["thing", "term"]) (x := "has_form") (st := sthas_form) (f := f) (cdv := cdv) (A := A) (outer := outer) (s := s) (H := H) (E := E)
    exact (SSs.cons (SS.ifs (ST.notInTab T.t_FORMS (SE.var 0)) (SSs.one (SS.raise (ExcK.ok T.e_BadNumber) rfl takesD)) SSs.nil)
    (SSs.one (SS.ret (SE.callF (np := 1) (SF.tabL T.t_FORMS (by simp [tabFORMS]; exact ⟨D_is_told_system, D_are_pairs, D_are_shocks, D_is_row⟩) (SE.var 0)) hr hg takesD (SA.cons (SE.force (SE.var 1)) SA.nil))))))

abbrev st_law_pick : Stmt := topS 29
theorem sc_law_pick : FnScope ["draws", "some"] ["draws", "some"] (defScope st_law_pick) := ⟨rfl, rfl, rfl, by decide +kernel, rfl, by decide +kernel, by decide +kernel⟩
def m_law_pick : Stm := mRet (mBin opIx (mVar 1) (mBin opMod (mCallB (on1 opInt) [mCall f_law_next [mVar 0]]) (mCallB (on1 opLen) [mVar 1])))
def f_law_pick : Fn := mkF 2 2 (fun i => i == 0) m_law_pick
set_option maxHeartbeats 4000000 in
theorem d_law_pick {P : Program} {w : World} {K : PySem.W.Frag} {mg : Str → Option Value} {base : Heap} (T : Facts w K mg) (F : FunT K mg "_law_pick" st_law_pick ["draws", "some"]) (D__law_next : DefG P w K mg base 1 "_law_next" 1 f_law_next) : DefG P w K mg base 2 "_law_pick" 2 f_law_pick := by
  obtain ⟨f, fd, F1, hm, hb⟩ := F.ex
  exact DefG.mk' 2 2 (fun i => i == 0) m_law_pick F1 hm sc_law_pick hb rfl rfl (fun i h => by simp at h; omega) (fun cdv A outer s H E hr hg => by
    have hp := passD (P := P) (w := w) (K := K) (mg := mg) (base := base) (N := ["draws", "some"]) (x := "_law_pick") (st := st_law_pick) (f := f) (cdv := cdv) (A := A) (outer := outer) (s := s) (H := H) (E := E)
    exact (SSs.one (SS.ret (SE.ix (SE.var 1) (SE.bin o_mod calm_Mod (SE.callTy c_int calm_Int T.b_int bt_int (SA.cons (SE.call D__law_next hr hg takesD (SA.cons (SE.var 0) SA.nil)) SA.nil)) (SE.callB c_len calm_Len T.b_len bt_len (SA.cons (SE.var 1) SA.nil)))))))

abbrev st_law_line : Stmt := topS 31
theorem sc_law_line : FnScope ["line", "words", "word", "sign"] ["line"] (defScope st_law_line) := ⟨rfl, rfl, rfl, by decide +kernel, rfl, by decide +kernel, by decide +kernel⟩
def m_law_line : Stm := mSeq (mSet 1 (mTxt1 opSplit (mVar 0) (mC (.str " ")))) (mSeq (mFor (iSeq (mVar 1)) (tName 2) (mIfS (mOrT (mBool (mBin opEq (mVar 2) (mC (.str "")))) (mNotT (mTest (mCallB (on1 opAll) [mLc (iSeq (mVar 2)) (tName 3) (mYes) (mChain opLe opLe (mC (.str "!")) (mVar 3) (mC (.str "~"))) [3]])))) (mRet (mC .none)) (mNil))) (mRet (mVar 1)))
def f_law_line : Fn := mkF 1 4 (fun _ => false) m_law_line
set_option maxHeartbeats 4000000 in
theorem d_law_line {P : Program} {w : World} {K : PySem.W.Frag} {mg : Str → Option Value} {base : Heap} (T : Facts w K mg) (F : FunT K mg "_law_line" st_law_line ["line"]) : DefG P w K mg base 1 "_law_line" 1 f_law_line := by
  obtain ⟨f, fd, F1, hm, hb⟩ := F.ex
  exact DefG.mk' 1 4 (fun _ => false) m_law_line F1 hm sc_law_line hb rfl rfl (fun _ h => Bool.noConfusion h) (fun cdv A outer s H E hr hg => by
    have hp := passD (P := P) (w := w) (K := K) (mg := mg) (base := base) (N := ["line", "words", "word", "sign"]) (x := "_law_line") (st := st_law_line) (f := f) (cdv := cdv) (A := A) (outer := outer) (s := s) (H := H) (E := E)
    exact (SSs.cons (SS.set 1 sc_law_line.nd (SE.split (SE.var 0) SE.str))
    (SSs.cons (SS.fors hp rfl (SI.seq (SE.var 1)) (SG.name 2 sc_law_line.nd) (SSs.one (SS.ifs (ST.w (SW.or (ST.cmp (o_eq (ru64 hr)) calm_Eq (by rfl) (SE.var 2) SE.str) (SW.or1 (ST.not (ST.truth (SE.callB (c_all rfl) calm_All T.b_all bt_all (SA.cons (SE.lc [("sign", 3)] rfl sc_law_line.nd (SI.seq (SE.var 2)) (blkOk_by (by kernel_rfl)) (fun _ _ _ _ _ => (SG.name 3 sc_law_line.nd)) (fun _ _ _ _ _ => STs.nil) (fun _ _ _ _ _ => (SE.chain o_le calm_Le o_le calm_Le SE.str (SE.var 3) SE.str))) SA.nil))))))) (SSs.one (SS.ret SE.non)) SSs.nil)))
    (SSs.one (SS.ret (SE.var 1))))))

abbrev st_law_spoilt : Stmt := topS 35
theorem sc_law_spoilt : FnScope ["draws", "term", "at", "kind"] ["draws", "term"] (defScope st_law_spoilt) := ⟨rfl, rfl, rfl, by decide +kernel, rfl, by decide +kernel, by decide +kernel⟩
def m_law_spoilt (self : Fn) : Stm := mSeq (mIfS (mOrT (mNotT (mTest (mUn (opIsi "tuple") (mVar 1)))) (mBool (mBin opEq (mBin opMod (mCallB (on1 opInt) [mCall f_law_next [mVar 0]]) (mC (.int (6)))) (mC (.int (0)))))) (mRet (mCall f_law_pick [mVar 0, mForce (mLst [mForce (mC .none), mForce (mC (.str "ada")), mForce (mC (.str "")), mForce (mC (.int (5))), mForce (mTup []), mForce (mTup [mForce (mC (.int (1)))]), mForce (mTup [mForce (mTup [])]), mForce (mTup [mForce (mC (.str "a"))]), mForce (mVar 1)])])) (mNil)) (mSeq (mIfS (mBool (mBin opEq (mVar 1) (mTup []))) (mRet (mCall f_law_pick [mVar 0, mForce (mLst [mForce (mTup [mForce (mC (.int (0)))]), mForce (mTup [mForce (mC (.str ""))]), mForce (mTup [mForce (mTup [])]), mForce (mC .none)])])) (mNil)) (mSeq (mSet 2 (mBin opMod (mCallB (on1 opInt) [mCall f_law_next [mVar 0]]) (mCallB (on1 opLen) [mVar 1]))) (mSeq (mSet 3 (mBin opMod (mCallB (on1 opInt) [mCall f_law_next [mVar 0]]) (mC (.int (5))))) (mSeq (mIfS (mBool (mBin opEq (mVar 3) (mC (.int (0))))) (mRet (mBin opAdd (mSl (mVar 1) (mNoPart) (mPart (mVar 2))) (mSl (mVar 1) (mPart (mBin opAdd (mVar 2) (mC (.int (1))))) (mNoPart)))) (mNil)) (mRet (mIf (mBool (mBin opEq (mVar 3) (mC (.int (1))))) (mBin opAdd (mVar 1) (mSl (mVar 1) (mPart (mVar 2)) (mPart (mBin opAdd (mVar 2) (mC (.int (1))))))) (mBin opAdd (mBin opAdd (mSl (mVar 1) (mNoPart) (mPart (mVar 2))) (mTup [mForce (mCall self [mVar 0, mForce (mBin opIx (mVar 1) (mVar 2))])])) (mSl (mVar 1) (mPart (mBin opAdd (mVar 2) (mC (.int (1))))) (mNoPart)))))))))
def g_law_spoilt : Nat → Fn
  | 0 => fun _ => .bad
  | n + 1 => mkF 2 4 (fun i => i == 0) (m_law_spoilt (g_law_spoilt n))
def f_law_spoilt : Fn := g_law_spoilt 10
set_option maxHeartbeats 4000000 in
theorem d_law_spoilt {P : Program} {w : World} {K : PySem.W.Frag} {mg : Str → Option Value} {base : Heap} (T : Facts w K mg) (F : FunT K mg "_law_spoilt" st_law_spoilt ["draws", "term"]) (D__law_next : DefG P w K mg base 2 "_law_next" 1 f_law_next) (D__law_pick : DefG P w K mg base 2 "_law_pick" 2 f_law_pick) : ∀ n : Nat, DefG P w K mg base (2 + n) "_law_spoilt" 2 (g_law_spoilt n)
  | 0 => DefG.zero F rfl
  | n + 1 => by
    have IH := d_law_spoilt T F D__law_next D__law_pick n
    have D__law_next := D__law_next.mono (Nat.le_add_right 2 n)
    have D__law_pick := D__law_pick.mono (Nat.le_add_right 2 n)
    obtain ⟨f, fd, F1, hm, hb⟩ := F.ex
    exact DefG.mk' 2 4 (fun i => i == 0) (m_law_spoilt (g_law_spoilt n)) F1 hm sc_law_spoilt hb rfl rfl (fun i h => by simp at h; omega) (fun cdv A outer s H E hr hg => by
      have hp := passD (P := P) (w := w) (K := K) (mg := mg) (base := base) (N := ["draws", "term", "at", "kind"]) (x := "_law_spoilt") (st := st_law_spoilt) (f := f) (cdv := cdv) (A := A) (outer := outer) (s := s) (H := H) (E := E)
      exact (SSs.cons (SS.ifs (ST.w (SW.or (ST.not (ST.truth (SE.isi "tuple" T.b_isinstance T.b_tuple bt_tuple (SE.var 1)))) (SW.or1 (ST.cmp (o_eq (ru64 hr)) calm_Eq (by rfl) (SE.bin o_mod calm_Mod (SE.callTy c_int calm_Int T.b_int bt_int (SA.cons (SE.call D__law_next hr hg takesD (SA.cons (SE.var 0) SA.nil)) SA.nil)) SE.int) SE.int)))) (SSs.one (SS.ret (SE.call D__law_pick hr hg takesD (SA.cons (SE.var 0) (SA.cons (SE.force (SE.lst (SA.cons (SE.force SE.non) (SA.cons (SE.force SE.str) (SA.cons (SE.force SE.str) (SA.cons (SE.force SE.int) (SA.cons (SE.force (SE.tup SA.nil)) (SA.cons (SE.force (SE.tup (SA.cons (SE.force SE.int) SA.nil))) (SA.cons (SE.force (SE.tup (SA.cons (SE.force (SE.tup SA.nil)) SA.nil))) (SA.cons (SE.force (SE.tup (SA.cons (SE.force SE.str) SA.nil))) (SA.cons (SE.force (SE.var 1)) SA.nil))))))))))) SA.nil))))) SSs.nil)
    (SSs.cons (SS.ifs (ST.cmp (o_eq (ru64 hr)) calm_Eq (by rfl) (SE.var 1) (SE.tup SA.nil)) (SSs.one (SS.ret (SE.call D__law_pick hr hg takesD (SA.cons (SE.var 0) (SA.cons (SE.force (SE.lst (SA.cons (SE.force (SE.tup (SA.cons (SE.force SE.int) SA.nil))) (SA.cons (SE.force (SE.tup (SA.cons (SE.force SE.str) SA.nil))) (SA.cons (SE.force (SE.tup (SA.cons (SE.force (SE.tup SA.nil)) SA.nil))) (SA.cons (SE.force SE.non) SA.nil)))))) SA.nil))))) SSs.nil)
    (SSs.cons (SS.set 2 sc_law_spoilt.nd (SE.bin o_mod calm_Mod (SE.callTy c_int calm_Int T.b_int bt_int (SA.cons (SE.call D__law_next hr hg takesD (SA.cons (SE.var 0) SA.nil)) SA.nil)) (SE.callB c_len calm_Len T.b_len bt_len (SA.cons (SE.var 1) SA.nil))))
    (SSs.cons (SS.set 3 sc_law_spoilt.nd (SE.bin o_mod calm_Mod (SE.callTy c_int calm_Int T.b_int bt_int (SA.cons (SE.call D__law_next hr hg takesD (SA.cons (SE.var 0) SA.nil)) SA.nil)) SE.int))
    (SSs.cons (SS.ifs (ST.cmp (o_eq (ru64 hr)) calm_Eq (by rfl) (SE.var 3) SE.int) (SSs.one (SS.ret (SE.bin o_add calm_Add (SE.sl (SE.var 1) SO.none (SO.some (SE.var 2))) (SE.sl (SE.var 1) (SO.some (SE.bin o_add calm_Add (SE.var 2) SE.int)) SO.none)))) SSs.nil)
    (SSs.one (SS.ret (SE.ifx (ST.cmp (o_eq (ru64 hr)) calm_Eq (by rfl) (SE.var 3) SE.int) (SE.bin o_add calm_Add (SE.var 1) (SE.sl (SE.var 1) (SO.some (SE.var 2)) (SO.some (SE.bin o_add calm_Add (SE.var 2) SE.int)))) (SE.bin o_add calm_Add (SE.bin o_add calm_Add (SE.sl (SE.var 1) SO.none (SO.some (SE.var 2))) (SE.tup (SA.cons (SE.force (SE.call IH hr hg takesD (SA.cons (SE.var 0) (SA.cons (SE.force (SE.ix (SE.var 1) (SE.var 2))) SA.nil)))) SA.nil))) (SE.sl (SE.var 1) (SO.some (SE.bin o_add calm_Add (SE.var 2) SE.int)) SO.none)))))))))))

abbrev st_law_is_row : Stmt := topS 33
theorem sc_law_is_row : FnScope ["term", "entry"] ["term"] (defScope st_law_is_row) := ⟨rfl, rfl, rfl, by decide +kernel, rfl, by decide +kernel, by decide +kernel⟩
def m_law_is_row : Stm := mRet (mAndV (mUn (opIsi "tuple") (mVar 0)) (mCallB (on1 opAll) [mLc (iSeq (mVar 0)) (tName 1) (mYes) (mUn (opIsi "int") (mVar 1)) [1]]))
def f_law_is_row : Fn := mkF 1 2 (fun _ => false) m_law_is_row
set_option maxHeartbeats 4000000 in
theorem d_law_is_row {P : Program} {w : World} {K : PySem.W.Frag} {mg : Str → Option Value} {base : Heap} (T : Facts w K mg) (F : FunT K mg "_law_is_row" st_law_is_row ["term"]) : DefG P w K mg base 1 "_law_is_row" 1 f_law_is_row := by
  obtain ⟨f, fd, F1, hm, hb⟩ := F.ex
  exact DefG.mk' 1 2 (fun _ => false) m_law_is_row F1 hm sc_law_is_row hb rfl rfl (fun _ h => Bool.noConfusion h) (fun cdv A outer s H E hr hg => by
    have hp := passD (P := P) (w := w) (K := K) (mg := mg) (base := base) (N := ["term", "entry"]) (x := "_law_is_row") (st := st_law_is_row) (f := f) (cdv := cdv) (A := A) (outer := outer) (s := s) (H := H) (E := E)
    exact (SSs.one (SS.ret (SE.and (SE.isi "tuple" T.b_isinstance T.b_tuple bt_tuple (SE.var 0)) (SE.one (SE.callB (c_all rfl) calm_All T.b_all bt_all (SA.cons (SE.lc [("entry", 1)] rfl sc_law_is_row.nd (SI.seq (SE.var 0)) (blkOk_by (by kernel_rfl)) (fun _ _ _ _ _ => (SG.name 1 sc_law_is_row.nd)) (fun _ _ _ _ _ => STs.nil) (fun _ _ _ _ _ => (SE.isi "int" T.b_isinstance T.b_int bt_int (SE.var 1)))) SA.nil)))))))

abbrev st_law_due : Stmt := topS 34
theorem sc_law_due : FnScope ["thing", "term", "pairs", "pair", "entry"] ["thing", "term"] (defScope st_law_due) := ⟨rfl, rfl, rfl, by decide +kernel, rfl, by decide +kernel, by decide +kernel⟩
def m_law_due : Stm := mSeq (mIfS (mBool (mBin opEq (mVar 0) (mC (.str "row")))) (mRet (mCall f_law_is_row [mForce (mVar 1)])) (mNil)) (mSeq (mIfS (mNotT (mTest (mUn (opIsi "tuple") (mVar 1)))) (mRet (mC (.bool false))) (mNil)) (mSeq (mIfS (mBool (mBin opEq (mVar 0) (mC (.str "chances")))) (mRet (mCallB (on1 opAll) [mLc (iSeq (mVar 1)) (tName 4) (mYes) (mCall f_law_is_row [mForce (mVar 4)]) [4]])) (mNil)) (mSeq (mSet 2 (mIf (mBool (mBin opEq (mVar 0) (mC (.str "system")))) (mLst [mForce (mVar 1)]) (mCallB (on1 opList) [mVar 1]))) (mRet (mCallB (on1 opAll) [mLc (iSeq (mVar 2)) (tName 3) (mYes) (mAndV (mUn (opIsi "tuple") (mVar 3)) (mAndV (mBin opEq (mCallB (on1 opLen) [mVar 3]) (mC (.int (2)))) (mAndV (mUn (opIsi "int") (mBin opIx (mVar 3) (mC (.int (0))))) (mCall f_law_is_row [mForce (mBin opIx (mVar 3) (mC (.int (1))))])))) [3]])))))
def f_law_due : Fn := mkF 2 5 (fun _ => false) m_law_due
set_option maxHeartbeats 4000000 in
theorem d_law_due {P : Program} {w : World} {K : PySem.W.Frag} {mg : Str → Option Value} {base : Heap} (T : Facts w K mg) (F : FunT K mg "_law_due" st_law_due ["thing", "term"]) (D__law_is_row : DefG P w K mg base 1 "_law_is_row" 1 f_law_is_row) : DefG P w K mg base 2 "_law_due" 2 f_law_due := by
  obtain ⟨f, fd, F1, hm, hb⟩ := F.ex
  exact DefG.mk' 2 5 (fun _ => false) m_law_due F1 hm sc_law_due hb rfl rfl (fun _ h => Bool.noConfusion h) (fun cdv A outer s H E hr hg => by
    have hp := passD (P := P) (w := w) (K := K) (mg := mg) (base := base) (N := ["thing", "term", "pairs", "pair", "entry"]) (x := "_law_due") (st := st_law_due) (f := f) (cdv := cdv) (A := A) (outer := outer) (s := s) (H := H) (E := E)
    exact (SSs.cons (SS.ifs (ST.cmp (o_eq (ru64 hr)) calm_Eq (by rfl) (SE.var 0) SE.str) (SSs.one (SS.ret (SE.call D__law_is_row hr hg takesD (SA.cons (SE.force (SE.var 1)) SA.nil)))) SSs.nil)
    (SSs.cons (SS.ifs (ST.not (ST.truth (SE.isi "tuple" T.b_isinstance T.b_tuple bt_tuple (SE.var 1)))) (SSs.one (SS.ret SE.bl)) SSs.nil)
    (SSs.cons (SS.ifs (ST.cmp (o_eq (ru64 hr)) calm_Eq (by rfl) (SE.var 0) SE.str) (SSs.one (SS.ret (SE.callB (c_all rfl) calm_All T.b_all bt_all (SA.cons (SE.lc [("entry", 4)] rfl sc_law_due.nd (SI.seq (SE.var 1)) (blkOk_by (by kernel_rfl)) (fun _ _ _ _ _ => (SG.name 4 sc_law_due.nd)) (fun _ _ _ _ _ => STs.nil) (fun _ _ _ _ _ => (SE.call D__law_is_row hr hg takesW0 (SA.cons (SE.force (SE.var 4)) SA.nil)))) SA.nil)))) SSs.nil)
    (SSs.cons (SS.set 2 sc_law_due.nd (SE.ifx (ST.cmp (o_eq (ru64 hr)) calm_Eq (by rfl) (SE.var 0) SE.str) (SE.lst (SA.cons (SE.force (SE.var 1)) SA.nil)) (SE.callTy c_list calm_List T.b_list bt_list (SA.cons (SE.var 1) SA.nil))))
    (SSs.one (SS.ret (SE.callB (c_all rfl) calm_All T.b_all bt_all (SA.cons (SE.lc [("pair", 3)] rfl sc_law_due.nd (SI.seq (SE.var 2)) (blkOk_by (by kernel_rfl)) (fun _ _ _ _ _ => (SG.name 3 sc_law_due.nd)) (fun _ _ _ _ _ => STs.nil) (fun _ _ _ _ _ => (SE.and (SE.isi "tuple" T.b_isinstance T.b_tuple bt_tuple (SE.var 3)) (SE.and (SE.cmp (o_eq (ru64 hr)) calm_Eq (by rfl) (SE.callB c_len calm_Len T.b_len bt_len (SA.cons (SE.var 3) SA.nil)) SE.int) (SE.and (SE.isi "int" T.b_isinstance T.b_int bt_int (SE.ix (SE.var 3) SE.int)) (SE.one (SE.call D__law_is_row hr hg takesW0 (SA.cons (SE.force (SE.ix (SE.var 3) SE.int)) SA.nil)))))))) SA.nil)))))))))

abbrev st_law_number_of : Stmt := topS 32
theorem sc_law_number_of : FnScope ["word", "k"] ["word"] (defScope st_law_number_of) := ⟨rfl, rfl, rfl, by decide +kernel, rfl, by decide +kernel, by decide +kernel⟩
def m_law_number_of : Stm := mRet (mIf (mBool (mBin opIn (mVar 0) (mLc (iRange1 (mC (.int (100)))) (tName 1) (mYes) (mCallB (on1 opStr) [mVar 1]) [1]))) (mCallB (on1 opInt) [mVar 0]) (mC .none))
def f_law_number_of : Fn := mkF 1 2 (fun _ => false) m_law_number_of
set_option maxHeartbeats 4000000 in
theorem d_law_number_of {P : Program} {w : World} {K : PySem.W.Frag} {mg : Str → Option Value} {base : Heap} (T : Facts w K mg) (F : FunT K mg "_law_number_of" st_law_number_of ["word"]) : DefG P w K mg base 1 "_law_number_of" 1 f_law_number_of := by
  obtain ⟨f, fd, F1, hm, hb⟩ := F.ex
  exact DefG.mk' 1 2 (fun _ => false) m_law_number_of F1 hm sc_law_number_of hb rfl rfl (fun _ h => Bool.noConfusion h) (fun cdv A outer s H E hr hg => by
    have hp := passD (P := P) (w := w) (K := K) (mg := mg) (base := base) (N := ["word", "k"]) (x := "_law_number_of") (st := st_law_number_of) (f := f) (cdv := cdv) (A := A) (outer := outer) (s := s) (H := H) (E := E)
    exact (SSs.one (SS.ret (SE.ifx (ST.cmp (o_in (ru65 hr)) calm_In (by rfl) (SE.var 0) (SE.lc [("k", 1)] rfl sc_law_number_of.nd (SI.range1 T.b_range SE.int) (blkOk_by (by kernel_rfl)) (fun _ _ _ _ _ => (SG.name 1 sc_law_number_of.nd)) (fun _ _ _ _ _ => STs.nil) (fun _ _ _ _ _ => (SE.callTy c_str calm_Str T.b_str bt_str (SA.cons (SE.var 1) SA.nil))))) (SE.callTy c_int calm_Int T.b_int bt_int (SA.cons (SE.var 0) SA.nil)) SE.non))))

abbrev st_law_kind : Stmt := topS 30
theorem sc_law_kind : FnScope ["error", "names", "found"] ["error"] (defScope st_law_kind) := ⟨rfl, rfl, rfl, by decide +kernel, rfl, by decide +kernel, by decide +kernel⟩
def m_law_kind (b0 b1 b2 b3 b4 b5 b6 : Bool) : Stm := mSeq (mSet 1 (mLst [mForce (mC (.str "system")), mForce (mC (.str "chances")), mForce (mC (.str "table")), mForce (mC (.str "paper")), mForce (mC (.str "number")), mForce (mC (.str "none")), mForce (mC (.str "large"))])) (mSeq (mSet 2 (mLst [mC (.bool b0), mC (.bool b1), mC (.bool b2), mC (.bool b3)])) (mSeq (mSet 2 (mBin opAdd (mVar 2) (mLst [mC (.bool b4), mC (.bool b5), mC (.bool b6)]))) (mRet (mIf (mBool (mBin opEq (mLm1 opCount (mVar 2) (mC (.bool true))) (mC (.int (1))))) (mBin opAdd (mC (.str "!")) (mBin opIx (mVar 1) (mLm1 opIndex (mVar 2) (mC (.bool true))))) (mC (.str "!other"))))))
def kl_law_kind (b0 b1 b2 b3 b4 b5 b6 : Bool) : List (Str × Bool) := [("NotSystem", b0), ("NotChances", b1), ("NotTable", b2), ("NotPaper", b3), ("BadNumber", b4), ("NoAnswer", b5), ("TooLarge", b6)]
set_option maxHeartbeats 4000000 in
theorem dk_law_kind {P : Program} {w : World} {K : PySem.W.Frag} {mg : Str → Option Value} {base : Heap} (T : Facts w K mg) (F : FunT K mg "_law_kind" st_law_kind ["error"]) {pe c : Str} {b0 b1 b2 b3 b4 b5 b6 : Bool} {out : Dt} (E : ExcF K mg pe c (kl_law_kind b0 b1 b2 b3 b4 b5 b6)) (hm : ∃ ρ', m_law_kind b0 b1 b2 b3 b4 b5 b6 (List.replicate 3 none) = .ok (.ret (.val out), ρ')) (k : Nat) : Caught P w K mg base "_law_kind" (k + 1) pe c out := by
  obtain ⟨C, Cp, hC, hX, hP, hE, hl⟩ := E.ex
  obtain ⟨C0, h0, k0⟩ := hl ("NotSystem", b0) (.head _)
  obtain ⟨C1, h1, k1⟩ := hl ("NotChances", b1) (.tail _ (.head _))
  obtain ⟨C2, h2, k2⟩ := hl ("NotTable", b2) (.tail _ (.tail _ (.head _)))
  obtain ⟨C3, h3, k3⟩ := hl ("NotPaper", b3) (.tail _ (.tail _ (.tail _ (.head _))))
  obtain ⟨C4, h4, k4⟩ := hl ("BadNumber", b4) (.tail _ (.tail _ (.tail _ (.tail _ (.head _)))))
  obtain ⟨C5, h5, k5⟩ := hl ("NoAnswer", b5) (.tail _ (.tail _ (.tail _ (.tail _ (.tail _ (.head _))))))
  obtain ⟨C6, h6, k6⟩ := hl ("TooLarge", b6) (.tail _ (.tail _ (.tail _ (.tail _ (.tail _ (.tail _ (.head _)))))))
  obtain ⟨f, fd, F1, hmf, hb⟩ := F.ex
  refine ⟨C, Cp, f, fd, "error", hC, hP, hE, hmf, F1.kp, hb, fnK_mk (n := 2) (B := fun i => i == 0) (m_law_kind b0 b1 b2 b3 b4 b5 b6) F1 sc_law_kind rfl hm (fun cdv A outer s H p hot hz hr => ?_)⟩
  have hI : CallR (cxK P w K mg base ["error", "names", "found"] "_law_kind" st_law_kind f cdv A outer s H p) (.builtin "isinstance") (rIsE K C p.1) := call_isP hX hz.zc ⟨_, hot.2.choose_spec.1⟩ List.mem_cons_self
  exact (SSsK.cons rfl (SSK.of (SS.set 1 sc_law_kind.nd (SE.lst (SA.cons (SE.force SE.str) (SA.cons (SE.force SE.str) (SA.cons (SE.force SE.str) (SA.cons (SE.force SE.str) (SA.cons (SE.force SE.str) (SA.cons (SE.force SE.str) (SA.cons (SE.force SE.str) SA.nil))))))))))
    (SSsK.cons rfl (SSK.set 2 sc_law_kind.nd (SEK.lst (SAK.cons (SEK.isE b0 hI T.b_isinstance h0 k0) (SAK.cons (SEK.isE b1 hI T.b_isinstance h1 k1) (SAK.cons (SEK.isE b2 hI T.b_isinstance h2 k2) (SAK.cons (SEK.isE b3 hI T.b_isinstance h3 k3) SAK.nil))))))
    (SSsK.cons rfl (SSK.set 2 sc_law_kind.nd (SEK.bin o_add calm_Add (SEK.of (SE.var 2)) (SEK.lst (SAK.cons (SEK.isE b4 hI T.b_isinstance h4 k4) (SAK.cons (SEK.isE b5 hI T.b_isinstance h5 k5) (SAK.cons (SEK.isE b6 hI T.b_isinstance h6 k6) SAK.nil))))))
    (SSsK.one (SSK.of (SS.ret (SE.ifx (ST.cmp (o_eq (ruH64 hr)) calm_Eq (by rfl) (SE.lcount (SE.var 2) SE.bl) SE.int) (SE.bin o_add calm_Add SE.str (SE.ix (SE.var 1) (SE.lindex (SE.var 2) SE.bl))) SE.str)))))))

abbrev stlaw : Stmt := topS 36
theorem sclaw : FnScope ["script", "draws", "turn", "terms", "term", "wrong", "line", "word", "small", "error", "at", "thing", "sign"] ["script"] (defScope stlaw) := ⟨rfl, rfl, rfl, by decide +kernel, rfl, by decide +kernel, by decide +kernel⟩
def mlaw : Stm := mSeq (mSet 1 (mCall f_law_draws [mForce (mVar 0)])) (mSeq (mSet 1 (mCall f_law_more [mVar 1, mForce (mC (.int (200)))])) (mSeq (mIfS (mBool (mBin opNe (mLst [mForce (mCall fwords_of [mForce (mC (.str "a b"))]), mForce (mCall fis_name [mForce (mC (.str "abcdefghijkl"))]), mForce (mCall fis_name [mForce (mC (.str "abcdefghijklm"))]), mForce (mCall fnumber_in [mForce (mC (.str "07"))]), mForce (mCall fnumber_in [mForce (mC (.str "99"))])]) (mLst [mForce (mLst [mForce (mC (.str "a")), mForce (mC (.str "b"))]), mForce (mC (.bool true)), mForce (mC (.bool false)), mForce (mC .none), mForce (mC (.int (99)))]))) (mRet (mC (.bool false))) (mNil)) (mSeq (mFor (iRange1 (mC (.int (6)))) (tName 2) (mSeq (mSet 6 (mTxt1 opJoin (mC (.str "")) (mLc (iRange1 (mBin opMod (mCallB (on1 opInt) [mCall f_law_next [mVar 1]]) (mC (.int (9))))) (tName 10) (mYes) (mCall f_law_pick [mVar 1, mForce (mLst [mForce (mC (.str "a")), mForce (mC (.str "b")), mForce (mC (.str " ")), mForce (mC (.str "0")), mForce (mC (.str "7")), mForce (mC (.str "~")), mForce (mC (.str "!")), mForce (mC (.str "(")), mForce (mC (.str "A")), mForce (mC (.str "\t")), mForce (mC (.str "-")), mForce (mC (.str "z")), mForce (mC (.str "  "))])]) [10]))) (mSeq (mIfS (mBool (mBin opNe (mCallB (on1 opRepr) [mCall fwords_of [mForce (mVar 6)]]) (mCallB (on1 opRepr) [mCall f_law_line [mForce (mVar 6)]]))) (mRet (mC (.bool false))) (mNil)) (mSeq (mSet 7 (mTxt1 opJoin (mC (.str "")) (mLc (iRange1 (mBin opMod (mCallB (on1 opInt) [mCall f_law_next [mVar 1]]) (mC (.int (15))))) (tName 10) (mYes) (mCall f_law_pick [mVar 1, mForce (mLst [mForce (mC (.str "a")), mForce (mC (.str "k")), mForce (mC (.str "z")), mForce (mC (.str "9")), mForce (mC (.str "0")), mForce (mC (.str "1")), mForce (mC (.str "")), mForce (mC (.str "")), mForce (mC (.str "B"))])]) [10]))) (mSeq (mSet 8 (mAndV (mChain opLe opLe (mC (.int (1))) (mCallB (on1 opLen) [mVar 7]) (mC (.int (12)))) (mCallB (on1 opAll) [mLc (iSeq (mVar 7)) (tName 12) (mYes) (mBin opIn (mVar 12) (mC (.str "abcdefghijklmnopqrstuvwxyz"))) [12]]))) (mIfS (mBool (mBin opNe (mCallB (on1 opRepr) [mLst [mForce (mCall fis_name [mForce (mVar 7)]), mForce (mCall fnumber_in [mForce (mVar 7)])]]) (mCallB (on1 opRepr) [mLst [mForce (mVar 8), mForce (mCall f_law_number_of [mForce (mVar 7)])]]))) (mRet (mC (.bool false))) (mNil))))))) (mSeq (mIfS (mBool (mBin opNe (mLc (iSeq (mLst [mForce (mC (.str "")), mForce (mC (.str "0")), mForce (mC (.str "00")), mForce (mC (.str "100")), mForce (mC (.str "-1")), mForce (mC (.str "5")), mForce (mC (.str "+5")), mForce (mC (.str " 5")), mForce (mC (.str "5 "))])) (tName 7) (mYes) (mCallB (on1 opRepr) [mCall fnumber_in [mForce (mVar 7)]]) [7]) (mLst [mForce (mC (.str "None")), mForce (mC (.str "0")), mForce (mC (.str "None")), mForce (mC (.str "None")), mForce (mC (.str "None")), mForce (mC (.str "5")), mForce (mC (.str "None")), mForce (mC (.str "None")), mForce (mC (.str "None"))]))) (mRet (mC (.bool false))) (mNil)) (mSeq (mSet 3 (mLst [mForce (mTup [mForce (mC (.int (3))), mForce (mTup [mForce (mC (.int (3))), mForce (mC (.int (5)))])]), mForce (mTup [mForce (mTup [mForce (mC (.int (1))), mForce (mTup [mForce (mC (.int (1))), mForce (mC (.int (2)))])]), mForce (mTup [mForce (mC (.int (3))), mForce (mTup [mForce (mC (.int (1))), mForce (mC (.int (2)))])])]), mForce (mTup [mForce (mTup [mForce (mC (.int (0))), mForce (mC (.int (1)))]), mForce (mTup [mForce (mC (.int (2))), mForce (mC (.int (0)))])]), mForce (mTup [mForce (mC (.int (0))), mForce (mC (.int (1))), mForce (mC (.int (1)))]), mForce (mTup [mForce (mC (.int (2))), mForce (mTup [mForce (mC (.int (0)))]), mForce (mC (.int (1)))])])) (mSeq (mFor (iSeq (mBin opAdd (mBin opAdd (mVar 3) (mLc (iRange1 (mC (.int (12)))) (tName 2) (mYes) (mCall f_law_spoilt [mVar 1, mForce (mCall f_law_pick [mVar 1, mForce (mVar 3)])]) [2])) (mLst [mForce (mTup []), mForce (mC .none), mForce (mC (.str "")), mForce (mC (.int (0)))]))) (tName 4) (mIfS (mBool (mBin opNe (mLc (iSeq (mLst [mForce (mC (.str "system")), mForce (mC (.str "chances")), mForce (mC (.str "shocks")), mForce (mC (.str "row"))])) (tName 11) (mYes) (mCall fhas_form [mForce (mVar 11), mForce (mVar 4)]) [11]) (mLc (iSeq (mLst [mForce (mC (.str "system")), mForce (mC (.str "chances")), mForce (mC (.str "shocks")), mForce (mC (.str "row"))])) (tName 11) (mYes) (mCall f_law_due [mForce (mVar 11), mForce (mVar 4)]) [11]))) (mRet (mC (.bool false))) (mNil))) (mSeq (mFor (iSeq (mLst [mForce (mC (.str "")), mForce (mC (.str "Form")), mForce (mC (.str "term"))])) (tName 5) (mTryIf kf_law_kind "!number" (mSeq (mDrop (mCall fhas_form [mForce (mVar 5), mForce (mTup [])])) (mRet (mC (.bool false)))))) (mRet (mC (.bool true))))))))))
def flaw : Fn := mkF 1 13 (fun _ => false) mlaw
set_option maxHeartbeats 4000000 in
theorem dlaw {P : Program} {w : World} {K : PySem.W.Frag} {mg : Str → Option Value} {base : Heap} (T : Facts w K mg) (F : FunT K mg "law" stlaw ["script"]) (D__law_draws : DefG P w K mg base 12 "_law_draws" 1 f_law_draws) (D__law_more : DefG P w K mg base 12 "_law_more" 2 f_law_more) (D_words_of : DefG P w K mg base 12 "words_of" 1 fwords_of) (D_is_name : DefG P w K mg base 12 "is_name" 1 fis_name) (D_number_in : DefG P w K mg base 12 "number_in" 1 fnumber_in) (D__law_next : DefG P w K mg base 12 "_law_next" 1 f_law_next) (D__law_pick : DefG P w K mg base 12 "_law_pick" 2 f_law_pick) (D__law_line : DefG P w K mg base 12 "_law_line" 1 f_law_line) (D__law_number_of : DefG P w K mg base 12 "_law_number_of" 1 f_law_number_of) (D__law_spoilt : DefG P w K mg base 12 "_law_spoilt" 2 f_law_spoilt) (D_has_form : DefG P w K mg base 12 "has_form" 2 fhas_form) (D__law_due : DefG P w K mg base 12 "_law_due" 2 f_law_due) (KD : Kinds P w K mg base "_law_kind" 12 "PartError" kf_law_kind) : DefG P w K mg base 13 "law" 1 flaw := by
  obtain ⟨f, fd, F1, hm, hb⟩ := F.ex
  exact DefG.mk' 1 13 (fun _ => false) mlaw F1 hm sclaw hb rfl rfl (fun _ h => Bool.noConfusion h) (fun cdv A outer s H E hr hg => by
    have hp := passD (P := P) (w := w) (K := K) (mg := mg) (base := base) (N := ["script", "draws", "turn", "terms", "term", "wrong", "line", "word", "small", "error", "at", "thing", "sign"]) (x := "law") (st := stlaw) (f := f) (cdv := cdv) (A := A) (outer := outer) (s := s) (H := H) (E := E)
    exact (SSs.cons (SS.set 1 sclaw.nd (SE.call D__law_draws hr hg takesD (SA.cons (SE.force (SE.var 0)) SA.nil)))
    (SSs.cons (SS.set 1 sclaw.nd (SE.call D__law_more hr hg takesD (SA.cons (SE.var 1) (SA.cons (SE.force SE.int) SA.nil))))
    (SSs.cons (SS.ifs (ST.cmp (o_ne (ru64 hr)) calm_Ne (by rfl) (SE.lst (SA.cons (SE.force (SE.call D_words_of hr hg takesD (SA.cons (SE.force SE.str) SA.nil))) (SA.cons (SE.force (SE.call D_is_name hr hg takesD (SA.cons (SE.force SE.str) SA.nil))) (SA.cons (SE.force (SE.call D_is_name hr hg takesD (SA.cons (SE.force SE.str) SA.nil))) (SA.cons (SE.force (SE.call D_number_in hr hg takesD (SA.cons (SE.force SE.str) SA.nil))) (SA.cons (SE.force (SE.call D_number_in hr hg takesD (SA.cons (SE.force SE.str) SA.nil))) SA.nil)))))) (SE.lst (SA.cons (SE.force (SE.lst (SA.cons (SE.force SE.str) (SA.cons (SE.force SE.str) SA.nil)))) (SA.cons (SE.force SE.bl) (SA.cons (SE.force SE.bl) (SA.cons (SE.force SE.non) (SA.cons (SE.force SE.int) SA.nil))))))) (SSs.one (SS.ret SE.bl)) SSs.nil)
    (SSs.cons (SS.fors hp rfl (SI.range1 T.b_range SE.int) (SG.name 2 sclaw.nd) (SSs.cons (SS.set 6 sclaw.nd (SE.join SE.str (SE.lc [("at", 10)] rfl sclaw.nd (SI.range1 T.b_range (SE.bin o_mod calm_Mod (SE.callTy c_int calm_Int T.b_int bt_int (SA.cons (SE.call D__law_next hr hg takesD (SA.cons (SE.var 1) SA.nil)) SA.nil)) SE.int)) (blkOk_by (by kernel_rfl)) (fun _ _ _ _ _ => (SG.name 10 sclaw.nd)) (fun _ _ _ _ _ => STs.nil) (fun _ _ _ _ _ => (SE.call D__law_pick hr hg takesW0 (SA.cons (SE.var 1) (SA.cons (SE.force (SE.lst (SA.cons (SE.force SE.str) (SA.cons (SE.force SE.str) (SA.cons (SE.force SE.str) (SA.cons (SE.force SE.str) (SA.cons (SE.force SE.str) (SA.cons (SE.force SE.str) (SA.cons (SE.force SE.str) (SA.cons (SE.force SE.str) (SA.cons (SE.force SE.str) (SA.cons (SE.force SE.str) (SA.cons (SE.force SE.str) (SA.cons (SE.force SE.str) (SA.cons (SE.force SE.str) SA.nil))))))))))))))) SA.nil)))))))
    (SSs.cons (SS.ifs (ST.cmp (o_ne (ru64 hr)) calm_Ne (by rfl) (SE.callB (c_repr (ru64 hr) hg) calm_Repr T.b_repr bt_repr (SA.cons (SE.call D_words_of hr hg takesD (SA.cons (SE.force (SE.var 6)) SA.nil)) SA.nil)) (SE.callB (c_repr (ru64 hr) hg) calm_Repr T.b_repr bt_repr (SA.cons (SE.call D__law_line hr hg takesD (SA.cons (SE.force (SE.var 6)) SA.nil)) SA.nil))) (SSs.one (SS.ret SE.bl)) SSs.nil)
    (SSs.cons (SS.set 7 sclaw.nd (SE.join SE.str (SE.lc [("at", 10)] rfl sclaw.nd (SI.range1 T.b_range (SE.bin o_mod calm_Mod (SE.callTy c_int calm_Int T.b_int bt_int (SA.cons (SE.call D__law_next hr hg takesD (SA.cons (SE.var 1) SA.nil)) SA.nil)) SE.int)) (blkOk_by (by kernel_rfl)) (fun _ _ _ _ _ => (SG.name 10 sclaw.nd)) (fun _ _ _ _ _ => STs.nil) (fun _ _ _ _ _ => (SE.call D__law_pick hr hg takesW0 (SA.cons (SE.var 1) (SA.cons (SE.force (SE.lst (SA.cons (SE.force SE.str) (SA.cons (SE.force SE.str) (SA.cons (SE.force SE.str) (SA.cons (SE.force SE.str) (SA.cons (SE.force SE.str) (SA.cons (SE.force SE.str) (SA.cons (SE.force SE.str) (SA.cons (SE.force SE.str) (SA.cons (SE.force SE.str) SA.nil))))))))))) SA.nil)))))))
    (SSs.cons (SS.set 8 sclaw.nd (SE.and (SE.chain o_le calm_Le o_le calm_Le SE.int (SE.callB c_len calm_Len T.b_len bt_len (SA.cons (SE.var 7) SA.nil)) SE.int) (SE.one (SE.callB (c_all rfl) calm_All T.b_all bt_all (SA.cons (SE.lc [("sign", 12)] rfl sclaw.nd (SI.seq (SE.var 7)) (blkOk_by (by kernel_rfl)) (fun _ _ _ _ _ => (SG.name 12 sclaw.nd)) (fun _ _ _ _ _ => STs.nil) (fun _ _ _ _ _ => (SE.cmp (o_in (ru65 hr)) calm_In (by rfl) (SE.var 12) SE.str))) SA.nil)))))
    (SSs.one (SS.ifs (ST.cmp (o_ne (ru64 hr)) calm_Ne (by rfl) (SE.callB (c_repr (ru64 hr) hg) calm_Repr T.b_repr bt_repr (SA.cons (SE.lst (SA.cons (SE.force (SE.call D_is_name hr hg takesD (SA.cons (SE.force (SE.var 7)) SA.nil))) (SA.cons (SE.force (SE.call D_number_in hr hg takesD (SA.cons (SE.force (SE.var 7)) SA.nil))) SA.nil))) SA.nil)) (SE.callB (c_repr (ru64 hr) hg) calm_Repr T.b_repr bt_repr (SA.cons (SE.lst (SA.cons (SE.force (SE.var 8)) (SA.cons (SE.force (SE.call D__law_number_of hr hg takesD (SA.cons (SE.force (SE.var 7)) SA.nil))) SA.nil))) SA.nil))) (SSs.one (SS.ret SE.bl)) SSs.nil)))))))
    (SSs.cons (SS.ifs (ST.cmp (o_ne (ru64 hr)) calm_Ne (by rfl) (SE.lc [("word", 7)] rfl sclaw.nd (SI.seq (SE.lst (SA.cons (SE.force SE.str) (SA.cons (SE.force SE.str) (SA.cons (SE.force SE.str) (SA.cons (SE.force SE.str) (SA.cons (SE.force SE.str) (SA.cons (SE.force SE.str) (SA.cons (SE.force SE.str) (SA.cons (SE.force SE.str) (SA.cons (SE.force SE.str) SA.nil))))))))))) (blkOk_by (by kernel_rfl)) (fun _ _ _ _ _ => (SG.name 7 sclaw.nd)) (fun _ _ _ _ _ => STs.nil) (fun _ _ _ _ _ => (SE.callB (c_repr (ru64 hr) hg) calm_Repr T.b_repr bt_repr (SA.cons (SE.call D_number_in hr hg takesW0 (SA.cons (SE.force (SE.var 7)) SA.nil)) SA.nil)))) (SE.lst (SA.cons (SE.force SE.str) (SA.cons (SE.force SE.str) (SA.cons (SE.force SE.str) (SA.cons (SE.force SE.str) (SA.cons (SE.force SE.str) (SA.cons (SE.force SE.str) (SA.cons (SE.force SE.str) (SA.cons (SE.force SE.str) (SA.cons (SE.force SE.str) SA.nil))))))))))) (SSs.one (SS.ret SE.bl)) SSs.nil)
    (SSs.cons (SS.set 3 sclaw.nd (SE.lst (SA.cons (SE.force (SE.tup (SA.cons (SE.force SE.int) (SA.cons (SE.force (SE.tup (SA.cons (SE.force SE.int) (SA.cons (SE.force SE.int) SA.nil)))) SA.nil)))) (SA.cons (SE.force (SE.tup (SA.cons (SE.force (SE.tup (SA.cons (SE.force SE.int) (SA.cons (SE.force (SE.tup (SA.cons (SE.force SE.int) (SA.cons (SE.force SE.int) SA.nil)))) SA.nil)))) (SA.cons (SE.force (SE.tup (SA.cons (SE.force SE.int) (SA.cons (SE.force (SE.tup (SA.cons (SE.force SE.int) (SA.cons (SE.force SE.int) SA.nil)))) SA.nil)))) SA.nil)))) (SA.cons (SE.force (SE.tup (SA.cons (SE.force (SE.tup (SA.cons (SE.force SE.int) (SA.cons (SE.force SE.int) SA.nil)))) (SA.cons (SE.force (SE.tup (SA.cons (SE.force SE.int) (SA.cons (SE.force SE.int) SA.nil)))) SA.nil)))) (SA.cons (SE.force (SE.tup (SA.cons (SE.force SE.int) (SA.cons (SE.force SE.int) (SA.cons (SE.force SE.int) SA.nil))))) (SA.cons (SE.force (SE.tup (SA.cons (SE.force SE.int) (SA.cons (SE.force (SE.tup (SA.cons (SE.force SE.int) SA.nil))) (SA.cons (SE.force SE.int) SA.nil))))) SA.nil)))))))
    (SSs.cons (SS.fors hp rfl (SI.seq (SE.bin o_add calm_Add (SE.bin o_add calm_Add (SE.var 3) (SE.lc [("turn", 2)] rfl sclaw.nd (SI.range1 T.b_range SE.int) (blkOk_by (by kernel_rfl)) (fun _ _ _ _ _ => (SG.name 2 sclaw.nd)) (fun _ _ _ _ _ => STs.nil) (fun _ _ _ _ _ => (SE.call D__law_spoilt hr hg takesW0 (SA.cons (SE.var 1) (SA.cons (SE.force (SE.call D__law_pick hr hg takesW0 (SA.cons (SE.var 1) (SA.cons (SE.force (SE.var 3)) SA.nil)))) SA.nil)))))) (SE.lst (SA.cons (SE.force (SE.tup SA.nil)) (SA.cons (SE.force SE.non) (SA.cons (SE.force SE.str) (SA.cons (SE.force SE.int) SA.nil))))))) (SG.name 4 sclaw.nd) (SSs.one (SS.ifs (ST.cmp (o_ne (ru64 hr)) calm_Ne (by rfl) (SE.lc [("thing", 11)] rfl sclaw.nd (SI.seq (SE.lst (SA.cons (SE.force SE.str) (SA.cons (SE.force SE.str) (SA.cons (SE.force SE.str) (SA.cons (SE.force SE.str) SA.nil)))))) (blkOk_by (by kernel_rfl)) (fun _ _ _ _ _ => (SG.name 11 sclaw.nd)) (fun _ _ _ _ _ => STs.nil) (fun _ _ _ _ _ => (SE.call D_has_form hr hg takesW0 (SA.cons (SE.force (SE.var 11)) (SA.cons (SE.force (SE.var 4)) SA.nil))))) (SE.lc [("thing", 11)] rfl sclaw.nd (SI.seq (SE.lst (SA.cons (SE.force SE.str) (SA.cons (SE.force SE.str) (SA.cons (SE.force SE.str) (SA.cons (SE.force SE.str) SA.nil)))))) (blkOk_by (by kernel_rfl)) (fun _ _ _ _ _ => (SG.name 11 sclaw.nd)) (fun _ _ _ _ _ => STs.nil) (fun _ _ _ _ _ => (SE.call D__law_due hr hg takesW0 (SA.cons (SE.force (SE.var 11)) (SA.cons (SE.force (SE.var 4)) SA.nil)))))) (SSs.one (SS.ret SE.bl)) SSs.nil)))
    (SSs.cons (SS.fors hp rfl (SI.seq (SE.lst (SA.cons (SE.force SE.str) (SA.cons (SE.force SE.str) (SA.cons (SE.force SE.str) SA.nil))))) (SG.name 5 sclaw.nd) (SSs.one (SS.tryIf 9 rfl rfl sclaw.nd hr takesD KD (fun _ _ _ tk1 hp => (SSs.cons (SS.expr (SE.call D_has_form hr hg tk1 (SA.cons (SE.force (SE.var 5)) (SA.cons (SE.force (SE.tup SA.nil)) SA.nil))))
    (SSs.one (SS.ret SE.bl)))))))
    (SSs.one (SS.ret SE.bl)))))))))))

theorem ko_law_kind_BadNumber : retOf (m_law_kind false false false false true false false (List.replicate 3 none)) = some (.str "!number") := by kernel_rfl
set_option maxHeartbeats 4000000 in
theorem all_defs {P : Program} {w : World} {K : PySem.W.Frag} {mg : Str → Option Value} {base : Heap} (T : Facts w K mg) (F__law_number : FunT K mg "_law_number" st_law_number ["cell"]) (F__law_draws : FunT K mg "_law_draws" st_law_draws ["script"]) (F__law_next : FunT K mg "_law_next" st_law_next ["draws"]) (F__law_more : FunT K mg "_law_more" st_law_more ["draws", "many"]) (F_words_of : FunT K mg "words_of" stwords_of ["line"]) (F_is_name : FunT K mg "is_name" stis_name ["word"]) (F_number_in : FunT K mg "number_in" stnumber_in ["word"]) (F_is_integer : FunT K mg "is_integer" stis_integer ["term"]) (F_is_row : FunT K mg "is_row" stis_row ["term"]) (F_is_told_system : FunT K mg "is_told_system" stis_told_system ["term"]) (F_are_pairs : FunT K mg "are_pairs" stare_pairs ["term"]) (F_is_shock : FunT K mg "is_shock" stis_shock ["term"]) (F_are_shocks : FunT K mg "are_shocks" stare_shocks ["term"]) (F_has_form : FunT K mg "has_form" sthas_form ["thing", "term"]) (F__law_pick : FunT K mg "_law_pick" st_law_pick ["draws", "some"]) (F__law_line : FunT K mg "_law_line" st_law_line ["line"]) (F__law_spoilt : FunT K mg "_law_spoilt" st_law_spoilt ["draws", "term"]) (F__law_is_row : FunT K mg "_law_is_row" st_law_is_row ["term"]) (F__law_due : FunT K mg "_law_due" st_law_due ["thing", "term"]) (F__law_number_of : FunT K mg "_law_number_of" st_law_number_of ["word"]) (F__law_kind : FunT K mg "_law_kind" st_law_kind ["error"]) (F_law : FunT K mg "law" stlaw ["script"]) (X_BadNumber : ExcF K mg "PartError" "BadNumber" (kl_law_kind false false false false true false false)) : DefG P w K mg base 13 "law" 1 flaw := by
  have D__law_number : DefG P w K mg base 1 "_law_number" 1 f_law_number := d_law_number T F__law_number
  have D__law_draws : DefG P w K mg base 2 "_law_draws" 1 f_law_draws := d_law_draws T F__law_draws (D__law_number.mono (by decide))
  have D__law_next : DefG P w K mg base 1 "_law_next" 1 f_law_next := d_law_next T F__law_next
  have D__law_more : DefG P w K mg base 2 "_law_more" 2 f_law_more := d_law_more T F__law_more (D__law_next.mono (by decide))
  have D_words_of : DefG P w K mg base 1 "words_of" 1 fwords_of := dwords_of T F_words_of
  have D_is_name : DefG P w K mg base 1 "is_name" 1 fis_name := dis_name T F_is_name
  have D_number_in : DefG P w K mg base 1 "number_in" 1 fnumber_in := dnumber_in T F_number_in
  have D_is_integer : DefG P w K mg base 1 "is_integer" 1 fis_integer := dis_integer T F_is_integer
  have D_is_row : DefG P w K mg base 2 "is_row" 1 fis_row := dis_row T F_is_row (D_is_integer.mono (by decide))
  have D_is_told_system : DefG P w K mg base 3 "is_told_system" 1 fis_told_system := dis_told_system T F_is_told_system (D_is_integer.mono (by decide)) (D_is_row.mono (by decide))
  have D_are_pairs : DefG P w K mg base 3 "are_pairs" 1 fare_pairs := dare_pairs T F_are_pairs (D_is_row.mono (by decide))
  have D_is_shock : DefG P w K mg base 3 "is_shock" 1 fis_shock := dis_shock T F_is_shock (D_is_integer.mono (by decide)) (D_is_row.mono (by decide))
  have D_are_shocks : DefG P w K mg base 4 "are_shocks" 1 fare_shocks := dare_shocks T F_are_shocks (D_is_shock.mono (by decide))
  have D_has_form : DefG P w K mg base 5 "has_form" 2 fhas_form := dhas_form T F_has_form (D_is_told_system.mono (by decide)) (D_are_pairs.mono (by decide)) (D_are_shocks.mono (by decide)) (D_is_row.mono (by decide))
  have D__law_pick : DefG P w K mg base 2 "_law_pick" 2 f_law_pick := d_law_pick T F__law_pick (D__law_next.mono (by decide))
  have D__law_line : DefG P w K mg base 1 "_law_line" 1 f_law_line := d_law_line T F__law_line
  have D__law_spoilt : DefG P w K mg base 12 "_law_spoilt" 2 f_law_spoilt := d_law_spoilt T F__law_spoilt (D__law_next.mono (by decide)) (D__law_pick.mono (by decide)) 10
  have D__law_is_row : DefG P w K mg base 1 "_law_is_row" 1 f_law_is_row := d_law_is_row T F__law_is_row
  have D__law_due : DefG P w K mg base 2 "_law_due" 2 f_law_due := d_law_due T F__law_due (D__law_is_row.mono (by decide))
  have D__law_number_of : DefG P w K mg base 1 "_law_number_of" 1 f_law_number_of := d_law_number_of T F__law_number_of
  have KD : ∀ k, Kinds P w K mg base "_law_kind" (k + 1) "PartError" kf_law_kind := fun k => by
    refine ⟨let ⟨_, Cp, _, _, h, _⟩ := X_BadNumber.ex; ⟨Cp, h⟩, fun c out h => ?_⟩
    unfold kf_law_kind at h
    split at h
    · rename_i e; cases h; subst e; exact dk_law_kind T F__law_kind X_BadNumber (ret_of ko_law_kind_BadNumber) k
    cases h
  have D_law : DefG P w K mg base 13 "law" 1 flaw := dlaw T F_law (D__law_draws.mono (by decide)) (D__law_more.mono (by decide)) (D_words_of.mono (by decide)) (D_is_name.mono (by decide)) (D_number_in.mono (by decide)) (D__law_next.mono (by decide)) (D__law_pick.mono (by decide)) (D__law_line.mono (by decide)) (D__law_number_of.mono (by decide)) (D__law_spoilt.mono (by decide)) (D_has_form.mono (by decide)) (D__law_due.mono (by decide)) (KD 11)
  exact D_law
end Lk21
set_option Elab.async false
set_option linter.all false
set_option maxRecDepth 100000
set_option maxHeartbeats 4000000
namespace Lk21
open PySem Mv
abbrev Od (xs : List Int) : SV := .own (.lst (List.map PyData.int xs).reverse)
def nx : List Int → Int
  | [] => 0
  | x :: _ => x
def rs : List Int → List Int
  | [] => []
  | _ :: r => r
theorem rs_len (xs : List Int) : (rs xs).length ≤ xs.length := by cases xs <;> simp [rs]
@[simp] theorem next_ok (xs : List Int) : f_law_next [Od xs] = .ok (.val (.int (nx xs)), [Od (rs xs)]) := by
  cases xs with
  | nil => simp [f_law_next, m_law_next, Od, nx, rs]
  | cons x r => simp [f_law_next, m_law_next, Od, nx, rs]
theorem pick_ok (xs : List Int) (ds : List Dt) (h : ds ≠ []) : ∃ d, d ∈ ds ∧ f_law_pick [Od xs, .val (.list ds)] = .ok (.val d, [Od (rs xs), .val (.list ds)]) := by
  have hl : 0 < (ds.length : Int) := by
    cases ds with
    | nil => exact absurd rfl h
    | cons => simp
  obtain ⟨d, h1, h2⟩ := atI_pos (Int.emod_nonneg (nx xs) (by omega : (ds.length : Int) ≠ 0)) (Int.emod_lt_of_pos (nx xs) hl)
  refine ⟨d, h2, ?_⟩
  simp [f_law_pick, m_law_pick, oModI _ _ hl, h1]
def small (x : Int) : Prop := 0 ≤ x ∧ x < 1000
theorem guard_and {α : Type} {c : Prop} [Decidable c] {r : R α} (h : c) : guardR c r = r := if_pos h
theorem more_ok (xs : List Int) (hs : ∀ x ∈ xs, small x) (hl : xs.length ≤ 10000) (many : Nat) (hm : many ≤ 10000) : ∃ ys, f_law_more [Od xs, .val (.int many)] = .ok (.new (.lst (List.map PyData.int ys).reverse), [Od (rs (rs xs)), .val (.int many)]) ∧ (∀ x ∈ ys, small x) ∧ ys.length ≤ 20000 := by
  have hz := line24
  have hl2 := rs_len xs
  have hl3 := rs_len (rs xs)
  have sm : ∀ x : Int, small (x / 7 % 1000) := fun x => ⟨Int.emod_nonneg _ (by decide), Int.emod_lt_of_pos _ (by decide)⟩
  have sub : ∀ xs : List Int, (∀ x ∈ xs, small x) → ∀ x ∈ rs xs, small x := fun xs h x hx => by
    cases xs with
    | nil => exact h x hx
    | cons y r => exact h x (List.mem_cons_of_mem _ hx)
  obtain ⟨ρ', e, hI⟩ := for_inv (g := tName 4) (b := mSeq (mSet 2 (mBin opMod (mCallB (on1 opInt) [mBin opAdd (mBin opMul (mVar 2) (mC (.int (48271)))) (mC (.int (12345)))]) (mC (.int (2147483647))))) (mDrop (mAppend 3 (mBin opMod (mCallB (on1 opInt) [mBin opFdiv (mVar 2) (mC (.int (7)))]) (mC (.int (1000)))))))
    (fun ds ρ => ∃ s z, ∃ ys : List Int, ρ = [some (Od (rs (rs xs))), some (.val (.int many)), some (.val (.int s)), some (.own (.lst (List.map PyData.int ys))), z] ∧ (∀ x ∈ ys, small x) ∧ ys.length + ds.length ≤ many)
    (rangeD 0 many) [some (Od (rs (rs xs))), some (.val (.int many)), some (.val (.int (1000 * nx xs + nx (rs xs) + 1))), some (.own (.lst [])), none] ⟨_, _, [], rfl, (fun x h => by cases h), by simp [rangeD]⟩ (fun d ds ρ ⟨s, z, ys, e, h1, h2⟩ => by
      subst e
      refine ⟨_, rfl, .inl ⟨_, .inl ?_, (s * 48271 + 12345) % 2147483647, some (.val d), ys ++ [(s * 48271 + 12345) % 2147483647 / 7 % 1000], rfl, ?_, ?_⟩⟩
      · have hg : ys.length < sizeLine := by simp at h2; omega
        simp [oMulI _ _ (mulR 48271 (by decide)), oFdivI _ 7 (by decide), hg]
      · intro x hx
        rcases List.mem_append.mp hx with h | h
        · exact h1 x h
        · simp at h; subst h; exact sm _
      · simp at h2 ⊢; omega)
  obtain ⟨s, z, ys, rfl, h1, h2⟩ := hI
  have hg : ys.length + (rs (rs xs)).length ≤ sizeLine := by simp at h2; omega
  have hm2 : (many : Int) ≤ 16777216 := by omega
  refine ⟨rs (rs xs) ++ ys.reverse, ?_, ?_, ?_⟩
  · simp [f_law_more, m_law_more, oMulI _ _ (mulL 1000 (by decide)), hm2, e, opAdd, hg]
  · intro x hx
    rcases List.mem_append.mp hx with h | h
    · exact sub _ (sub _ hs) x h
    · exact h1 x (List.mem_reverse.mp h)
  · simp at h2 ⊢; omega
@[simp] theorem number_ok (c : Int) : ∃ d, f_law_number [.val (.int c)] = .ok (.val (.int d), [.val (.int c)]) := by
  by_cases h : c < 0
  · exact ⟨0 - c, by simp [f_law_number, m_law_number, h]⟩
  · exact ⟨c, by simp [f_law_number, m_law_number, h]⟩
theorem small_mod (x : Int) : small (x % 1000) := ⟨Int.emod_nonneg _ (by decide), Int.emod_lt_of_pos _ (by decide)⟩
theorem draws_ok (ns : List Int) (hl : ns.length ≤ 63) : ∃ xs, f_law_draws [.val (.list (ns.map .int))] = .ok (.new (.lst (List.map PyData.int xs).reverse), [.val (.list (ns.map .int))]) ∧ (∀ x ∈ xs, small x) ∧ xs.length ≤ 3780 := by
  have hz := line24
  obtain ⟨A, hA⟩ : ∃ A : Option SV, A = some (.val (.list (ns.map .int))) := ⟨_, rfl⟩
  let inner : Stm := mSeq (mIfS (mBool (mBin opEq (mVar 3) (mC (.int (0))))) (mBrk) (mNil)) (mSeq (mDrop (mAppend 1 (mBin opMod (mCallB (on1 opInt) [mVar 3]) (mC (.int (1000)))))) (mSet 3 (mBin opFdiv (mVar 3) (mC (.int (1000))))))
  have hin : ∀ (ys : List Int) (r : Int) (z2 z4 z5 z6 : Option SV), (∀ x ∈ ys, small x) → ys.length ≤ 3720 → ∃ ρ', forLoop (tName 4) inner (rangeD 0 60) [A, some (.own (.lst (List.map PyData.int ys))), z2, some (.val (.int r)), z4, z5, z6] = .ok (.nxt, ρ') ∧
      ∃ (r' : Int) (zs : List Int) (z : Option SV), ρ' = [A, some (.own (.lst (List.map PyData.int zs))), z2, some (.val (.int r')), z, z5, z6] ∧ (∀ x ∈ zs, small x) ∧ zs.length ≤ ys.length + 60 := fun ys r z2 z4 z5 z6 hs hy => by
    obtain ⟨ρ', e, hI⟩ := for_inv (g := tName 4) (b := inner)
      (fun ds ρ => ∃ (r' : Int) (zs : List Int) (z : Option SV), ρ = [A, some (.own (.lst (List.map PyData.int zs))), z2, some (.val (.int r')), z, z5, z6] ∧ (∀ x ∈ zs, small x) ∧ zs.length + ds.length ≤ ys.length + 60)
      (rangeD 0 60) _ ⟨r, ys, z4, rfl, hs, by simp [rangeD]⟩ (fun d ds ρ ⟨r', zs, z, e, h1, h2⟩ => by
        subst e
        simp only [List.length_cons] at h2
        refine ⟨_, rfl, ?_⟩
        by_cases h0 : r' = 0
        · exact .inr ⟨[A, some (.own (.lst (List.map PyData.int zs))), z2, some (.val (.int r')), some (.val d), z5, z6], by simp [inner, h0], r', zs, some (.val d), rfl, h1, by simp; omega⟩
        · have hg : zs.length < sizeLine := by omega
          refine .inl ⟨[A, some (.own (.lst (List.map PyData.int (zs ++ [r' % 1000])))), z2, some (.val (.int (r' / 1000))), some (.val d), z5, z6], .inl (by simp [inner, h0, hg, oFdivI _ 1000 (by decide)]), r' / 1000, zs ++ [r' % 1000], some (.val d), rfl, fun x hx => ?_, by simp; omega⟩
          rcases List.mem_append.mp hx with h | h
          · exact h1 x h
          · simp at h; subst h; exact small_mod r')
    obtain ⟨r', zs, z, e2, h1, h2⟩ := hI
    exact ⟨ρ', e, r', zs, z, e2, h1, by simpa using h2⟩
  obtain ⟨ρ', e, hI⟩ := for_inv (g := tName 2) (b := mSeq (mSet 3 (mCall f_law_number [mForce (mVar 2)])) (mIfS (mBool (mBin opGe (mVar 3) (mC (.int (1000000000000000000))))) (mFor (iRange1 (mC (.int (60)))) (tName 4) inner) (mSeq (mSet 5 (mBin opMod (mCallB (on1 opInt) [mBin opAdd (mBin opMul (mVar 3) (mC (.int (48271)))) (mC (.int (11)))]) (mC (.int (2147483647))))) (mSeq (mSet 6 (mBin opMod (mCallB (on1 opInt) [mBin opAdd (mBin opMul (mVar 5) (mC (.int (69621)))) (mVar 3)]) (mC (.int (2147483629))))) (mDrop (mExtend 1 (mLst [mForce (mBin opMod (mCallB (on1 opInt) [mVar 3]) (mC (.int (1000)))), mForce (mBin opMod (mCallB (on1 opInt) [mVar 5]) (mC (.int (1000)))), mForce (mBin opMod (mCallB (on1 opInt) [mVar 6]) (mC (.int (1000))))])))))))
    (fun ds ρ => (∃ ks : List Int, ds = ks.map .int) ∧ ∃ (zs : List Int) (z2 z3 z4 z5 z6 : Option SV), ρ = [A, some (.own (.lst (List.map PyData.int zs))), z2, z3, z4, z5, z6] ∧ (∀ x ∈ zs, small x) ∧ zs.length + 60 * ds.length ≤ 3780)
    (ns.map .int) [A, some (.own (.lst [])), none, none, none, none, none] ⟨⟨ns, rfl⟩, [], none, none, none, none, none, rfl, (fun x h => by cases h), by simp; omega⟩ (fun d ds ρ ⟨⟨ks, hk⟩, zs, z2, z3, z4, z5, z6, e, h1, h2⟩ => by
      subst e
      cases ks with
      | nil => cases hk
      | cons c ks =>
        simp only [List.map_cons, List.cons.injEq] at hk
        obtain ⟨rfl, rfl⟩ := hk
        obtain ⟨r, hr⟩ := number_ok c
        simp only [List.length_cons] at h2
        refine ⟨_, rfl, .inl ?_⟩
        by_cases hb : 1000000000000000000 ≤ r
        · obtain ⟨ρ', e, r', ys, z, e2, h3, h4⟩ := hin zs r (some (.val (.int c))) z4 z5 z6 h1 (by omega)
          refine ⟨ρ', .inl (by simp [hr, hb, e]), ⟨ks, rfl⟩, ys, some (.val (.int c)), some (.val (.int r')), z, z5, z6, e2, h3, by omega⟩
        · have hg : zs.length + 3 ≤ sizeLine := by omega
          let o : Int := (r * 48271 + 11) % 2147483647
          let t : Int := (o * 69621 + r) % 2147483629
          refine ⟨[A, some (.own (.lst (List.map PyData.int (zs ++ [r % 1000, o % 1000, t % 1000])))), some (.val (.int c)), some (.val (.int r)), z4, some (.val (.int o)), some (.val (.int t))], .inl (by simp [hr, hb, o, t, hg, oMulI _ _ (mulR 48271 (by decide)), oMulI _ _ (mulR 69621 (by decide))]), ⟨ks, rfl⟩, _, _, _, _, _, _, rfl, fun x hx => ?_, by simp at h2 ⊢; omega⟩
          rcases List.mem_append.mp hx with h | h
          · exact h1 x h
          · simp at h
            rcases h with h | h | h <;> subst h <;> exact small_mod _)
  obtain ⟨_, zs, z2, z3, z4, z5, z6, rfl, h1, h2⟩ := hI
  refine ⟨zs.reverse.reverse, ?_, fun x hx => h1 x (by simpa using hx), by simpa using h2⟩
  subst hA
  simp only [inner] at e
  simp [f_law_draws, m_law_draws, e]
/-! ### terms -/
def nice : Nat → Dt → Bool
  | 0, _ => false
  | n + 1, .tuple ds => ds.all (nice n)
  | _ + 1, .none => true
  | _ + 1, .bool _ => true
  | _ + 1, .int _ => true
  | _ + 1, .str x => SeqAt.shaped (.str x)
  | _ + 1, _ => false
theorem nice_nd {n : Nat} {d : Dt} (h : nice n d = true) : noDict d = true := by
  cases n with
  | zero => cases h
  | succ n => cases d <;> first | rfl | (simp [nice] at h)
theorem nice_lay : ∀ (n : Nat) (d : Dt), nice n d = true → d.canLay0 = true ∧ d.depth ≤ n
  | 0, _, h => by cases h
  | n + 1, d, h => by
    cases d with
    | none => exact ⟨rfl, by simp [PyData.depth]⟩
    | bool b => exact ⟨rfl, by simp [PyData.depth]⟩
    | int i => exact ⟨rfl, by simp [PyData.depth]⟩
    | str x => exact ⟨SeqAt.canLay_of_shaped h, by simp [PyData.depth]⟩
    | list ds => simp [nice] at h
    | dict ds => simp [nice] at h
    | tuple ds =>
      have h' : ds.all (nice n) = true := h
      have key : PyData.canLayAll0 ds = true ∧ PyData.depthAll ds ≤ n := by
        clear h
        induction ds with
        | nil => exact ⟨rfl, by simp [PyData.depthAll]⟩
        | cons x xs ih =>
          simp only [List.all_cons, Bool.and_eq_true] at h'
          obtain ⟨a1, a2⟩ := nice_lay n x h'.1
          obtain ⟨b1, b2⟩ := ih h'.2
          exact ⟨by simp [PyData.canLayAll0, a1, b1], by simp [PyData.depthAll]; omega⟩
      exact ⟨by simpa [PyData.canLay0] using key.1, by simp [PyData.depth]; omega⟩
theorem nice_shaped {n : Nat} {d : Dt} (h : nice n d = true) (hn : n ≤ 64) : SeqAt.shaped d = true := by
  obtain ⟨a, b⟩ := nice_lay n d h
  unfold SeqAt.shaped
  simp [a]; omega
theorem nice_up : ∀ (n : Nat) (d : Dt), nice n d = true → nice (n + 1) d = true
  | 0, _, h => by cases h
  | n + 1, d, h => by
    cases d <;> simp only [nice] at h ⊢ <;> try exact h
    rename_i ds
    rw [List.all_eq_true] at h ⊢
    exact fun x hx => nice_up n x (h x hx)
theorem nice_le {n m : Nat} {d : Dt} (h : nice n d = true) (hm : n ≤ m) : nice m d = true := by
  induction hm with
  | refl => exact h
  | step _ ih => exact nice_up _ _ ih
def itemsD : Dt → List Dt
  | .tuple ds => ds
  | _ => []
theorem nice_items {n : Nat} {d : Dt} (h : nice (n + 1) d = true) : ∀ x ∈ itemsD d, nice n x = true := by
  cases d <;> simp [itemsD]
  rename_i ds
  simpa [nice] using h
def rowD (d : Dt) : Bool := isTupD d && (itemsD d).all isIntD
def toldD (d : Dt) : Bool := isTupD d && (decide ((itemsD d).length = 2) && (isIntD ((itemsD d)[0]?.getD .none) && rowD ((itemsD d)[1]?.getD .none)))
theorem integer_ok {n : Nat} {d : Dt} (h : nice n d = true) : fis_integer [.val d] = .ok (.val (.bool (isIntD d)), [.val d]) := by
  simp [fis_integer, mis_integer, isi_int (nice_nd h)]
theorem row_ok {n : Nat} {d : Dt} (h : nice n d = true) : fis_row [.val d] = .ok (.val (.bool (rowD d)), [.val d]) := by
  have hd := nice_nd h
  cases n with
  | zero => cases h
  | succ n =>
    by_cases c : isTupD d = true
    · cases d <;> simp [isTupD] at c
      rename_i ds
      have hi := nice_items h
      have e := lc_map (i := 1) (te := mCall fis_integer [mForce (mVar 1)]) (ρ := [some (.val (.tuple ds)), none]) (ds := ds) (fun x => .bool (isIntD x)) (by simp) (fun x hx => ⟨.val (.bool (isIntD x)), by simp [integer_ok (hi x hx)], .inl rfl⟩)
      simp [fis_row, mis_row, isi_tup hd, isTupD, e, rowD, itemsD]
    · simp only [Bool.not_eq_true] at c
      simp [fis_row, mis_row, isi_tup hd, c, rowD]
theorem told_two {n : Nat} {ds : List Dt} (h : nice (n + 1) (.tuple ds) = true) (h2 : ds.length = 2) : ∃ a b, ds = [a, b] ∧ nice n a = true ∧ nice n b = true := by
  match ds, h2 with
  | [a, b], _ => exact ⟨a, b, rfl, by simpa [nice] using h⟩
theorem told_ok {n : Nat} {d : Dt} (h : nice n d = true) : fis_told_system [.val d] = .ok (.val (.bool (toldD d)), [.val d]) := by
  have hd := nice_nd h
  cases n with
  | zero => cases h
  | succ n =>
    by_cases c : isTupD d = true
    · cases d <;> simp [isTupD] at c
      rename_i ds
      by_cases h2 : ds.length = 2
      · obtain ⟨a, b, rfl, ha, hb⟩ := told_two h h2
        cases ci : isIntD a <;> simp [fis_told_system, mis_told_system, isi_tup hd, isTupD, toldD, itemsD, integer_ok ha, row_ok hb, ci]
      · have h3 : ¬ ((ds.length : Int) = 2) := by omega
        simp [fis_told_system, mis_told_system, isi_tup hd, isTupD, toldD, itemsD, h2, h3]
    · simp only [Bool.not_eq_true] at c
      simp [fis_told_system, mis_told_system, isi_tup hd, c, toldD]
theorem shock_same : fis_shock = fis_told_system := rfl
def pairsD (d : Dt) : Bool := isTupD d && (itemsD d).all rowD
def shocksD (d : Dt) : Bool := isTupD d && (itemsD d).all toldD
theorem pairs_ok {n : Nat} {d : Dt} (h : nice n d = true) : fare_pairs [.val d] = .ok (.val (.bool (pairsD d)), [.val d]) := by
  have hd := nice_nd h
  cases n with
  | zero => cases h
  | succ n =>
    by_cases c : isTupD d = true
    · cases d <;> simp [isTupD] at c
      rename_i ds
      have hi := nice_items h
      have e := lc_map (i := 1) (te := mCall fis_row [mForce (mVar 1)]) (ρ := [some (.val (.tuple ds)), none]) (ds := ds) (fun x => .bool (rowD x)) (by simp) (fun x hx => ⟨.val (.bool (rowD x)), by simp [row_ok (hi x hx)], .inl rfl⟩)
      simp [fare_pairs, mare_pairs, isi_tup hd, isTupD, e, pairsD, itemsD]
    · simp only [Bool.not_eq_true] at c
      simp [fare_pairs, mare_pairs, isi_tup hd, c, pairsD]
theorem shocks_ok {n : Nat} {d : Dt} (h : nice n d = true) : fare_shocks [.val d] = .ok (.val (.bool (shocksD d)), [.val d]) := by
  have hd := nice_nd h
  cases n with
  | zero => cases h
  | succ n =>
    by_cases c : isTupD d = true
    · cases d <;> simp [isTupD] at c
      rename_i ds
      have hi := nice_items h
      have e := lc_map (i := 1) (te := mCall fis_shock [mForce (mVar 1)]) (ρ := [some (.val (.tuple ds)), none]) (ds := ds) (fun x => .bool (toldD x)) (by simp) (fun x hx => ⟨.val (.bool (toldD x)), by simp [shock_same, told_ok (hi x hx)], .inl rfl⟩)
      simp [fare_shocks, mare_shocks, isi_tup hd, isTupD, e, shocksD, itemsD]
    · simp only [Bool.not_eq_true] at c
      simp [fare_shocks, mare_shocks, isi_tup hd, c, shocksD]
theorem lrow_ok {n : Nat} {d : Dt} (h : nice n d = true) : f_law_is_row [.val d] = .ok (.val (.bool (rowD d)), [.val d]) := by
  have hd := nice_nd h
  cases n with
  | zero => cases h
  | succ n =>
    by_cases c : isTupD d = true
    · cases d <;> simp [isTupD] at c
      rename_i ds
      have hi := nice_items h
      have e := lc_map (i := 1) (te := mUn (opIsi "int") (mVar 1)) (ρ := [some (.val (.tuple ds)), none]) (ds := ds) (fun x => .bool (isIntD x)) (by simp) (fun x hx => ⟨.val (.bool (isIntD x)), by simp [isi_int (nice_nd (hi x hx))], .inl rfl⟩)
      simp [f_law_is_row, m_law_is_row, isi_tup hd, isTupD, e, rowD, itemsD]
    · simp only [Bool.not_eq_true] at c
      simp [f_law_is_row, m_law_is_row, isi_tup hd, c, rowD]
/-- what is due -/
def dueD (thing : Str) (d : Dt) : Bool := if thing = "row" then rowD d else if thing = "chances" then pairsD d else if thing = "system" then toldD d else shocksD d
theorem eqS (a b : Str) : PyData.eqv (.str a) (.str b) = decide (a = b) := by
  unfold PyData.eqv
  first
  | rfl
  | simp [PyData.eqv]
abbrev sok (x : Str) : Prop := SeqAt.shaped (.str x) = true
theorem oEqS (a b : Str) (ha : sok a) (hb : sok b) : opEq (.str a) (.str b) = .ok (.val (.bool (decide (a = b)))) := by
  unfold opEq
  rw [eqS]
  exact guardT ⟨ha, hb⟩
theorem sk1 : sok "row" := by decide +kernel
theorem sk2 : sok "chances" := by decide +kernel
theorem sk3 : sok "system" := by decide +kernel
theorem sk4 : sok "shocks" := by decide +kernel
theorem ne1 : ¬ (("chances" : Str) = "row") := by decide +kernel
theorem ne2 : ¬ (("system" : Str) = "row") := by decide +kernel
theorem ne3 : ¬ (("shocks" : Str) = "row") := by decide +kernel
theorem ne4 : ¬ (("system" : Str) = "chances") := by decide +kernel
theorem ne5 : ¬ (("shocks" : Str) = "chances") := by decide +kernel
theorem ne6 : ¬ (("shocks" : Str) = "system") := by decide +kernel
theorem pair_ok {n : Nat} {x : Dt} (h : nice n x = true) (ρ : Rho) (h3 : ρ[3]? = some (some (.val x))) : mAndV (mUn (opIsi "tuple") (mVar 3)) (mAndV (mBin opEq (mCallB (on1 opLen) [mVar 3]) (mC (.int (2)))) (mAndV (mUn (opIsi "int") (mBin opIx (mVar 3) (mC (.int (0))))) (mCall f_law_is_row [mForce (mBin opIx (mVar 3) (mC (.int (1))))]))) ρ = .ok (.val (.bool (toldD x)), ρ) := by
  have hd := nice_nd h
  cases n with
  | zero => cases h
  | succ n =>
    by_cases c : isTupD x = true
    · cases x <;> simp [isTupD] at c
      rename_i ds
      by_cases h2 : ds.length = 2
      · obtain ⟨a, b, rfl, ha, hb⟩ := told_two h h2
        cases ci : isIntD a <;> simp [h3, isi_tup hd, isTupD, toldD, itemsD, isi_int (nice_nd ha), lrow_ok hb, ci]
      · have h4 : ¬ ((ds.length : Int) = 2) := by omega
        simp [h3, isi_tup hd, isTupD, toldD, itemsD, h2, h4]
    · simp only [Bool.not_eq_true] at c
      simp [h3, isi_tup hd, c, toldD]
theorem due_row {n : Nat} {d : Dt} (h : nice n d = true) : f_law_due [.val (.str "row"), .val d] = .ok (.val (.bool (rowD d)), [.val (.str "row"), .val d]) := by
  simp [f_law_due, m_law_due, lrow_ok h, oEqS _ _ sk1 sk1]
theorem due_chances {n : Nat} {d : Dt} (h : nice n d = true) : f_law_due [.val (.str "chances"), .val d] = .ok (.val (.bool (pairsD d)), [.val (.str "chances"), .val d]) := by
  have hd := nice_nd h
  cases n with
  | zero => cases h
  | succ n =>
    by_cases c : isTupD d = true
    · cases d <;> simp [isTupD] at c
      rename_i ds
      have hi := nice_items h
      have e := lc_map (i := 4) (te := mCall f_law_is_row [mForce (mVar 4)]) (ρ := [some (.val (.str "chances")), some (.val (.tuple ds)), none, none, none]) (ds := ds) (fun x => .bool (rowD x)) (by simp) (fun x hx => ⟨.val (.bool (rowD x)), by simp [lrow_ok (hi x hx)], .inl rfl⟩)
      simp [f_law_due, m_law_due, isi_tup hd, isTupD, e, pairsD, itemsD, oEqS _ _ sk2 sk1, oEqS _ _ sk2 sk2, ne1]
    · simp only [Bool.not_eq_true] at c
      simp [f_law_due, m_law_due, isi_tup hd, c, pairsD, oEqS _ _ sk2 sk1, oEqS _ _ sk2 sk2, ne1]
theorem due_system {n : Nat} {d : Dt} (h : nice n d = true) : f_law_due [.val (.str "system"), .val d] = .ok (.val (.bool (toldD d)), [.val (.str "system"), .val d]) := by
  have hd := nice_nd h
  by_cases c : isTupD d = true
  · have e := lc_map (i := 3) (te := mAndV (mUn (opIsi "tuple") (mVar 3)) (mAndV (mBin opEq (mCallB (on1 opLen) [mVar 3]) (mC (.int (2)))) (mAndV (mUn (opIsi "int") (mBin opIx (mVar 3) (mC (.int (0))))) (mCall f_law_is_row [mForce (mBin opIx (mVar 3) (mC (.int (1))))])))) (ρ := [some (.val (.str "system")), some (.val d), some (.val (.list [d])), none, none]) (ds := [d]) (fun x => .bool (toldD x)) (by simp) (fun x hx => ⟨.val (.bool (toldD x)), by
      simp only [List.mem_singleton] at hx
      subst hx
      exact pair_ok h _ rfl, .inl rfl⟩)
    have e2 : opAll (.list [.bool (toldD d)]) = .ok (.val (.bool (toldD d))) := by simpa using oAllM toldD [d]
    simp only [List.map_cons, List.map_nil] at e
    simp [f_law_due, m_law_due, isi_tup hd, c, oEqS _ _ sk3 sk1, oEqS _ _ sk3 sk2, oEqS _ _ sk3 sk3, ne2, ne4, e, e2]
  · simp only [Bool.not_eq_true] at c
    simp [f_law_due, m_law_due, isi_tup hd, c, toldD, oEqS _ _ sk3 sk1, oEqS _ _ sk3 sk2, ne2, ne4]
@[simp] theorem oListT (ds : List Dt) : opList (.tuple ds) = .ok (.new (.lst ds)) := rfl
theorem due_shocks {n : Nat} {d : Dt} (h : nice n d = true) : f_law_due [.val (.str "shocks"), .val d] = .ok (.val (.bool (shocksD d)), [.val (.str "shocks"), .val d]) := by
  have hd := nice_nd h
  cases n with
  | zero => cases h
  | succ n =>
    by_cases c : isTupD d = true
    · cases d <;> simp [isTupD] at c
      rename_i ds
      have hi := nice_items h
      have e := lc_map (i := 3) (te := mAndV (mUn (opIsi "tuple") (mVar 3)) (mAndV (mBin opEq (mCallB (on1 opLen) [mVar 3]) (mC (.int (2)))) (mAndV (mUn (opIsi "int") (mBin opIx (mVar 3) (mC (.int (0))))) (mCall f_law_is_row [mForce (mBin opIx (mVar 3) (mC (.int (1))))])))) (ρ := [some (.val (.str "shocks")), some (.val (.tuple ds)), some (.val (.list ds)), none, none]) (ds := ds) (fun x => .bool (toldD x)) (by simp) (fun x hx => ⟨.val (.bool (toldD x)), pair_ok (hi x hx) _ rfl, .inl rfl⟩)
      simp [f_law_due, m_law_due, isi_tup hd, isTupD, shocksD, itemsD, oEqS _ _ sk4 sk1, oEqS _ _ sk4 sk2, oEqS _ _ sk4 sk3, ne3, ne5, ne6, e]
    · simp only [Bool.not_eq_true] at c
      simp [f_law_due, m_law_due, isi_tup hd, c, shocksD, oEqS _ _ sk4 sk1, oEqS _ _ sk4 sk2, ne3, ne5]
/-! has_form -/
@[simp] theorem evCallF (mf : M Mv.Fn) (ms : List (M EV)) (ρ : Rho) : mCallF mf ms ρ = (mf ρ).bind fun f => (mArgs ms f.2).bind fun a => (argSV a.1 [] a.2).bind fun as => (f.1 as).bind fun r => (noSlot r.1).bind fun v => .ok (v, putBack a.1 as r.2 a.2) := rfl
@[simp] theorem evTab (fns : List (Str × Mv.Fn)) (m : M EV) (ρ : Rho) : mTab fns m ρ = (m ρ).bind fun a => (lookEV a.1 a.2).bind fun d => (strD d).bind fun z => someR (fns.lookup z) fun f => .ok (f, a.2) := rfl
@[simp] theorem strDs (x : Str) : strD (.str x) = .ok x := rfl
theorem tabO (ks : List (Str × Option Str)) (neg : Bool) (z : Str) (r : Option Str) (h : ks.lookup z = some r) : opTab ks neg (.str z) = .ok (.val (.bool (if neg then !r.isSome else r.isSome))) := by
  simp only [opTab, h]
theorem k1 : (nameKs nmFORMS abFORMS).lookup ("row" : Str) = some (some ("is_row" : Str)) := by decide +kernel
theorem k2 : (nameKs nmFORMS abFORMS).lookup ("chances" : Str) = some (some ("are_pairs" : Str)) := by decide +kernel
theorem k3 : (nameKs nmFORMS abFORMS).lookup ("system" : Str) = some (some ("is_told_system" : Str)) := by decide +kernel
theorem k4 : (nameKs nmFORMS abFORMS).lookup ("shocks" : Str) = some (some ("are_shocks" : Str)) := by decide +kernel
theorem k5 : (nameKs nmFORMS abFORMS).lookup ("" : Str) = some none := by decide +kernel
theorem k6 : (nameKs nmFORMS abFORMS).lookup ("Form" : Str) = some none := by decide +kernel
theorem k7 : (nameKs nmFORMS abFORMS).lookup ("term" : Str) = some none := by decide +kernel
theorem l1 : (tabFns tabFORMS).lookup ("row" : Str) = some fis_row := by kernel_rfl
theorem l2 : (tabFns tabFORMS).lookup ("chances" : Str) = some fare_pairs := by kernel_rfl
theorem l3 : (tabFns tabFORMS).lookup ("system" : Str) = some fis_told_system := by kernel_rfl
theorem l4 : (tabFns tabFORMS).lookup ("shocks" : Str) = some fare_shocks := by kernel_rfl
theorem form_row {n : Nat} {d : Dt} (h : nice n d = true) : fhas_form [.val (.str "row"), .val d] = .ok (.val (.bool (rowD d)), [.val (.str "row"), .val d]) := by
  simp [fhas_form, mhas_form, tabO _ _ _ _ k1, l1, row_ok h]
theorem form_chances {n : Nat} {d : Dt} (h : nice n d = true) : fhas_form [.val (.str "chances"), .val d] = .ok (.val (.bool (pairsD d)), [.val (.str "chances"), .val d]) := by
  simp [fhas_form, mhas_form, tabO _ _ _ _ k2, l2, pairs_ok h]
theorem form_system {n : Nat} {d : Dt} (h : nice n d = true) : fhas_form [.val (.str "system"), .val d] = .ok (.val (.bool (toldD d)), [.val (.str "system"), .val d]) := by
  simp [fhas_form, mhas_form, tabO _ _ _ _ k3, l3, told_ok h]
theorem form_shocks {n : Nat} {d : Dt} (h : nice n d = true) : fhas_form [.val (.str "shocks"), .val d] = .ok (.val (.bool (shocksD d)), [.val (.str "shocks"), .val d]) := by
  simp [fhas_form, mhas_form, tabO _ _ _ _ k4, l4, shocks_ok h]
theorem form_not (z : Str) (d : Dt) (h : (nameKs nmFORMS abFORMS).lookup z = some none) : fhas_form [.val (.str z), .val d] = .ex "BadNumber" := by
  simp [fhas_form, mhas_form, tabO _ _ _ _ h, mRaise]
/-! a term spoilt -/
def short : Nat → Dt → Bool
  | 0, _ => true
  | n + 1, .tuple ds => decide (ds.length ≤ 8) && ds.all (short n)
  | _ + 1, _ => true
theorem cutL_mem {α : Type} {ds : List α} {lo hi : Option Int} {x : α} (h : x ∈ cutL ds lo hi) : x ∈ ds := List.mem_of_mem_drop (List.mem_of_mem_take h)
theorem cutL_len {α : Type} (ds : List α) (lo hi : Option Int) : (cutL ds lo hi).length ≤ ds.length := by
  unfold cutL
  rw [List.length_take, List.length_drop]; omega
@[simp] theorem oSlT (ds : List Dt) (lo hi : Option Int) : opSl (.tuple ds) lo hi = .ok (.val (.tuple (cutL ds lo hi))) := rfl
theorem oAddT (a b : List Dt) (h : a.length + b.length ≤ sizeLine) : opAdd (.tuple a) (.tuple b) = .ok (.val (.tuple (a ++ b))) := guardT h
theorem nice_tup {n : Nat} {ds : List Dt} (h : ∀ x ∈ ds, nice n x = true) : nice (n + 1) (.tuple ds) = true := by
  simpa [nice] using h
theorem eq_empty {n : Nat} {ds : List Dt} (h : nice n (.tuple ds) = true) (hn : n ≤ 60) : opEq (.tuple ds) (.tuple []) = .ok (.val (.bool (decide (ds = [])))) := by
  unfold opEq
  have e : PyData.eqv (.tuple ds) (.tuple []) = decide (ds = []) := by
    cases ds <;> simp [PyData.eqv, PyData.eqvAll]
  rw [e]
  exact guardT ⟨nice_shaped h (by omega), by decide +kernel⟩
theorem pickT (xs : List Int) (ds : List Dt) (h : ds ≠ []) : ∃ d, d ∈ ds ∧ f_law_pick [Od xs, .val (.list ds)] = .ok (.val d, [Od (rs xs), .val (.list ds)]) := pick_ok xs ds h
theorem sk5 : SeqAt.shaped (.str ("ada" : Str)) = true := by decide +kernel
theorem sk6 : SeqAt.shaped (.str ("" : Str)) = true := by decide +kernel
theorem sk7 : SeqAt.shaped (.str ("a" : Str)) = true := by decide +kernel
theorem spoilt_ok : ∀ (n : Nat) (xs : List Int) (d : Dt), n ≤ 50 → nice n d = true → short n d = true → ∃ d' xs', g_law_spoilt n [Od xs, .val d] = .ok (.val d', [Od xs', .val d]) ∧ nice (n + 2) d' = true
  | 0, _, _, _, h, _ => by cases h
  | n + 1, xs, d, hn, h, hs => by
    have hd := nice_nd h
    have hz := line24
    by_cases c : isTupD d = true
    · cases d <;> simp [isTupD] at c
      rename_i ds
      have hi := nice_items h
      simp only [itemsD] at hi
      simp only [short, Bool.and_eq_true, decide_eq_true_eq, List.all_eq_true] at hs
      have pickA : ∀ ys : List Int, ∃ d, nice (n + 1 + 2) d = true ∧ f_law_pick [Od ys, .val (.list [.none, .str "ada", .str "", .int 5, .tuple [], .tuple [.int 1], .tuple [.tuple []], .tuple [.str "a"], .tuple ds])] = .ok (.val d, [Od (rs ys), .val (.list [.none, .str "ada", .str "", .int 5, .tuple [], .tuple [.int 1], .tuple [.tuple []], .tuple [.str "a"], .tuple ds])]) := fun ys => by
        obtain ⟨d, h1, h2⟩ := pick_ok ys [.none, .str "ada", .str "", .int 5, .tuple [], .tuple [.int 1], .tuple [.tuple []], .tuple [.str "a"], .tuple ds] (by simp)
        refine ⟨d, ?_, h2⟩
        simp only [List.mem_cons, List.not_mem_nil, or_false] at h1
        rcases h1 with e | e | e | e | e | e | e | e | e <;> subst e <;> first | exact nice_le h (by omega) | simp [nice, sk5, sk6, sk7]
      by_cases c1 : nx xs % 6 = 0
      · obtain ⟨d', h1, h2⟩ := pickA (rs xs)
        exact ⟨d', rs (rs xs), by simp [g_law_spoilt, m_law_spoilt, isi_tup hd, isTupD, c1, h2, oModI _ 6 (by decide)], h1⟩
      · by_cases c2 : ds = []
        · subst c2
          obtain ⟨d', h1, h2⟩ := pick_ok (rs xs) [.tuple [.int 0], .tuple [.str ""], .tuple [.tuple []], .none] (by simp)
          refine ⟨d', rs (rs xs), by simp [g_law_spoilt, m_law_spoilt, isi_tup hd, isTupD, c1, h2, oModI _ 6 (by decide), eq_empty h (by omega)], ?_⟩
          simp only [List.mem_cons, List.not_mem_nil, or_false] at h1
          rcases h1 with e | e | e | e <;> subst e <;> simp [nice, sk6]
        · have hl : 0 < (ds.length : Int) := by
            cases ds with
            | nil => exact absurd rfl c2
            | cons => simp
          obtain ⟨e0, he, hm⟩ := atI_pos (Int.emod_nonneg (nx (rs xs)) (by omega : (ds.length : Int) ≠ 0)) (Int.emod_lt_of_pos (nx (rs xs)) hl)
          have cl := fun lo hi => cutL_len ds lo hi
          have cat : ∀ a b c d : Option Int, (cutL ds a b).length + (cutL ds c d).length ≤ sizeLine := fun a b c d => by
            have h1 := cl a b
            have h2 := cl c d
            omega
          have cm : ∀ lo hi, ∀ x ∈ cutL ds lo hi, nice (n + 2) x = true := fun lo hi' x hx => nice_le (hi x (cutL_mem hx)) (by omega)
          have cmA : ∀ a b : List Dt, (∀ x ∈ a, nice (n + 2) x = true) → (∀ x ∈ b, nice (n + 2) x = true) → nice (n + 1 + 2) (.tuple (a ++ b)) = true := fun a b ha hb => nice_tup fun x hx => (List.mem_append.mp hx).elim (ha x) (hb x)
          have h0 : nice (n + 1) (.tuple ds) = true := h
          by_cases c3 : nx (rs (rs xs)) % 5 = 0
          · refine ⟨_, rs (rs (rs xs)), by simp [g_law_spoilt, m_law_spoilt, isi_tup hd, isTupD, c1, c2, c3, oModI _ 6 (by decide), oModI _ 5 (by decide), oModI _ _ hl, eq_empty h (by omega), oAddT _ _ (cat _ _ _ _)]; rfl, cmA _ _ (cm _ _) (cm _ _)⟩
          · by_cases c4 : nx (rs (rs xs)) % 5 = 1
            · have g1 : ∀ lo hi, ds.length + (cutL ds lo hi).length ≤ sizeLine := fun lo hi => by have := cl lo hi; omega
              refine ⟨_, rs (rs (rs xs)), by simp [g_law_spoilt, m_law_spoilt, isi_tup hd, isTupD, c1, c2, c4, oModI _ 6 (by decide), oModI _ 5 (by decide), oModI _ _ hl, eq_empty h (by omega), oAddT _ _ (g1 _ _)]; rfl, cmA _ _ (fun x hx => nice_le (hi x hx) (by omega)) (cm _ _)⟩
            · obtain ⟨d', xs', e1, e2⟩ := spoilt_ok n (rs (rs (rs xs))) e0 (by omega) (hi e0 hm) (hs.2 e0 hm)
              have g1 : ∀ lo hi, (cutL ds lo hi).length + 1 ≤ sizeLine := fun lo hi => by have := cl lo hi; omega
              have g2 : ∀ a b c d, (cutL ds a b).length + 1 + (cutL ds c d).length ≤ sizeLine := fun a b c d => by have h1 := cl a b; have h2 := cl c d; omega
              refine ⟨.tuple (cutL ds none (some (nx (rs xs) % ds.length)) ++ [d'] ++ cutL ds (some (nx (rs xs) % ds.length + 1)) none), xs', ?_, cmA _ _ (fun x hx => ?_) (cm _ _)⟩
              · simp [g_law_spoilt, m_law_spoilt, isi_tup hd, isTupD, c1, c2, c3, c4, oModI _ 6 (by decide), oModI _ 5 (by decide), oModI _ _ hl, eq_empty h (by omega), he, e1, oAddT, g1, g2]
              · rcases List.mem_append.mp hx with hx | hx
                · exact cm _ _ x hx
                · simp at hx; subst hx; exact e2
    · simp only [Bool.not_eq_true] at c
      obtain ⟨d', h1, h2⟩ := pick_ok xs [.none, .str "ada", .str "", .int 5, .tuple [], .tuple [.int 1], .tuple [.tuple []], .tuple [.str "a"], d] (by simp)
      refine ⟨d', rs xs, by simp [g_law_spoilt, m_law_spoilt, isi_tup hd, c, h2], ?_⟩
      simp only [List.mem_cons, List.not_mem_nil, or_false] at h1
      rcases h1 with e | e | e | e | e | e | e | e | e <;> subst e <;> first | exact nice_le h (by omega) | simp [nice, sk5, sk6, sk7]
end Lk21
set_option Elab.async false
set_option linter.all false
set_option maxRecDepth 100000
set_option maxHeartbeats 4000000
namespace Lk21
open PySem Mv
/-! ### words -/
def memB (z : Str) : Dt → Bool
  | .str c => match signOf c with
    | some k => decide (k ∈ z.cps.toList)
    | none => false
  | _ => false
theorem oInS (c : Nat) (z : Str) : opIn (.str ⟨#[c]⟩) (.str z) = .ok (.val (.bool (memB z (.str ⟨#[c]⟩)))) := rfl
theorem sign_of {w : Str} {d : Dt} (h : d ∈ signsD w) : ∃ c, d = .str ⟨#[c]⟩ ∧ c ∈ w.cps.toList := by
  unfold signsD at h
  obtain ⟨c, h1, h2⟩ := List.mem_map.mp h
  exact ⟨c, h2.symm, h1⟩
theorem seqTupS (w : Str) (h : w.length ≤ sizeLine) : seqTupD (.str w) = .ok (signsD w) := guardT h
theorem in_te (i : Nat) (z : Str) (ρ : Rho) (w : Str) (hi : i < ρ.length) (d : Dt) (hd : d ∈ signsD w) : ∃ v, mBin opIn (mVar i) (mC (.str z)) (ρ.set i (some (.val d))) = .ok (v, ρ.set i (some (.val d))) ∧ (v = .val (.bool (memB z d)) ∨ ∃ o, v = .new o ∧ o.d = .bool (memB z d)) := by
  obtain ⟨c, rfl, _⟩ := sign_of hd
  have e : (ρ.set i (some (.val (.str ⟨#[c]⟩))))[i]? = some (some (.val (.str ⟨#[c]⟩))) := List.getElem?_set_self hi
  exact ⟨_, by rw [evBin, evVarV _ e]; simp [oInS], .inl rfl⟩
def nameB (w : Str) : Bool := decide ((1 : Int) ≤ w.length) && (decide ((w.length : Int) ≤ 12) && (signsD w).all (memB "abcdefghijklmnopqrstuvwxyz"))
theorem name_ok (w : Str) (h : w.length ≤ 1000) : fis_name [.val (.str w)] = .ok (.val (.bool (nameB w)), [.val (.str w)]) := by
  have hz := line24
  have hl : w.length ≤ sizeLine := by omega
  have e := lc_map (i := 1) (te := mBin opIn (mVar 1) (mC (.str "abcdefghijklmnopqrstuvwxyz"))) (ρ := [some (.val (.str w)), none]) (ds := signsD w) (fun x => .bool (memB "abcdefghijklmnopqrstuvwxyz" x)) (by simp) (fun x hx => in_te 1 _ _ w (by simp) x hx)
  by_cases c1 : (1 : Int) ≤ w.length
  · by_cases c2 : (w.length : Int) ≤ 12
    · simp [fis_name, mis_name, oLenS _ hl, seqTupS _ hl, e, nameB, c1, c2]
    · simp [fis_name, mis_name, oLenS _ hl, nameB, c1, c2]
  · simp [fis_name, mis_name, oLenS _ hl, nameB, c1]
def nStrs : List Str := (List.range 100).map fun (i : Nat) => Str.ofString (toString (i : Int))
def digs : List Nat := [48, 49, 50, 51, 52, 53, 54, 55, 56, 57]
def numB (w : Str) : Bool := (decide ((1 : Int) ≤ w.length) && decide ((w.length : Int) ≤ 2)) && ((signsD w).all (memB "0123456789") && !(decide ((w.length : Int) = 2) && decide (w.cps.toList[0]? = some 48)))
theorem nStrs_num : ∀ w ∈ nStrs, numB w = true ∧ (PySem.intText? w).isSome = true ∧ w.length ≤ 2 := by decide +kernel
theorem num1 : ∀ c ∈ digs, (⟨#[c]⟩ : Str) ∈ nStrs := by decide +kernel
theorem num2 : ∀ c ∈ digs, c = 48 ∨ ∀ d ∈ digs, (⟨#[c, d]⟩ : Str) ∈ nStrs := by decide +kernel
theorem dig_of {c : Nat} (h : memB "0123456789" (.str ⟨#[c]⟩) = true) : c ∈ digs := by
  have h' : decide (c ∈ ("0123456789" : Str).cps.toList) = true := h
  have e : ("0123456789" : Str).cps.toList = digs := by decide +kernel
  rw [e] at h'
  exact of_decide_eq_true h'
theorem num_nStrs {w : Str} (h : numB w = true) : w ∈ nStrs := by
  obtain ⟨⟨l⟩⟩ := w
  have hl : (⟨⟨l⟩⟩ : Str).length = l.length := rfl
  simp only [numB, Bool.and_eq_true, decide_eq_true_eq, hl, signsD, List.all_map, Bool.not_eq_true', Bool.and_eq_false_iff, decide_eq_false_iff_not] at h
  obtain ⟨⟨h1, h2⟩, h3, h4⟩ := h
  match l, h1, h2, h3, h4 with
  | [], h1, _, _, _ => simp at h1
  | [c], _, _, h3, _ => exact num1 c (dig_of (by simpa using h3))
  | [c, d], _, _, h3, h4 =>
    have h5 : memB "0123456789" (.str ⟨#[c]⟩) = true ∧ memB "0123456789" (.str ⟨#[d]⟩) = true := by simpa using h3
    rcases num2 c (dig_of h5.1) with e | e
    · exfalso
      subst e
      simp at h4
    · exact e d (dig_of h5.2)
  | a :: b :: c :: r, _, h2, _, _ => simp at h2; omega
end Lk21
set_option Elab.async false
set_option linter.all false
set_option maxRecDepth 100000
set_option maxHeartbeats 4000000
namespace Lk21
open PySem Mv
/-! ### number_in -/
theorem sk0 : sok "0" := by decide +kernel
theorem ix0 (w : Str) (h : w.length ≤ sizeLine) : opIx (.str w) (.int 0) = someR (w.cps.toList[0]?) fun c => .ok (.val (.str ⟨#[c]⟩)) := by
  show guardR (w.length ≤ sizeLine) _ = _
  rw [guardT h, atI_0]
def numV (w : Str) : Dt := if numB w = true then (match PySem.intText? w with
  | some n => .int n
  | none => .none) else .none
theorem opInt_num {w : Str} (h : numB w = true) : opInt (.str w) = .ok (.val (numV w)) := by
  obtain ⟨h1, h2, h3⟩ := nStrs_num w (num_nStrs h)
  have : opInt (.str w) = guardR (w.length ≤ 640) (match PySem.intText? w with
    | some n => iV n
    | none => .bad) := rfl
  rw [this, guardT (by omega : w.length ≤ 640)]
  cases e : PySem.intText? w with
  | none => rw [e] at h2; cases h2
  | some n => simp [numV, h, e]
def zeroB (w : Str) : Bool := decide ((w.length : Int) = 2) && decide (w.cps.toList[0]? = some 48)
theorem num_ok (w : Str) (h : w.length ≤ 1000) (hs : PyData.strOk w = true) : fnumber_in [.val (.str w)] = .ok (.val (numV w), [.val (.str w)]) := by
  have hz := line24
  have hl : w.length ≤ sizeLine := by omega
  have e := lc_map (i := 1) (te := mBin opIn (mVar 1) (mC (.str "0123456789"))) (ρ := [some (.val (.str w)), none]) (ds := signsD w) (fun x => .bool (memB "0123456789" x)) (by simp) (fun x hx => in_te 1 _ _ w (by simp) x hx)
  by_cases c1 : (1 : Int) ≤ w.length
  · by_cases c2 : (w.length : Int) ≤ 2
    · cases c3 : (signsD w).all (memB "0123456789") with
      | false =>
        have hn : numB w = false := by simp [numB, c3]
        simp [fnumber_in, mnumber_in, oLenS _ hl, seqTupS _ hl, e, c1, c2, c3, numV, hn]
      | true =>
        by_cases c4 : (w.length : Int) = 2
        · obtain ⟨⟨l⟩⟩ := w
          have hll : (⟨⟨l⟩⟩ : Str).length = l.length := rfl
          match l, c4, c1, c2, c3, hs, hl, h, e with
          | [a, b], c4, c1, c2, c3, hs, hl, h, e =>
            have i0 : opIx (.str ⟨⟨[a, b]⟩⟩) (.int 0) = .ok (.val (.str ⟨#[a]⟩)) := by rw [ix0 _ hl]; rfl
            have sa : sok ⟨#[a]⟩ := by
              have : a < 0x110000 := by simpa [PyData.strOk] using (by simpa [PyData.strOk] using hs : a < 0x110000 ∧ b < 0x110000).1
              simp [sok, SeqAt.shaped, PyData.canLay0, PyData.strOk, PyData.depth, this]
            by_cases c5 : a = 48
            · subst c5
              have e0 : ((⟨#[48]⟩ : Str) = "0") := by decide +kernel
              have hn : numB ⟨⟨[48, b]⟩⟩ = false := by simp [numB, hll]
              simp [fnumber_in, mnumber_in, oLenS _ hl, seqTupS _ hl, e, c1, c2, c3, c4, numV, hn, i0, oEqS _ _ sa sk0, oEqS _ _ sk0 sk0, e0]
            · have e0 : ¬ ((⟨#[a]⟩ : Str) = "0") := fun z => by
                have : (⟨#[a]⟩ : Str) = ⟨#[48]⟩ := z.trans (by decide +kernel)
                injection this with t
                simp at t
                exact c5 t
              have hn : numB ⟨⟨[a, b]⟩⟩ = true := by
                simp only [numB, c1, c2, c3, decide_true, Bool.true_and, c4]
                simp [c5]
              simp [fnumber_in, mnumber_in, oLenS _ hl, seqTupS _ hl, e, c1, c2, c3, c4, i0, oEqS _ _ sa sk0, e0, opInt_num hn]
        · have hn : numB w = true := by simp only [numB, c1, c2, c3, decide_true, Bool.true_and, c4]; rfl
          simp [fnumber_in, mnumber_in, oLenS _ hl, seqTupS _ hl, e, c1, c2, c3, c4, opInt_num hn]
    · have hn : numB w = false := by simp [numB, c2]
      simp [fnumber_in, mnumber_in, oLenS _ hl, c1, c2, numV, hn]
  · have hn : numB w = false := by simp [numB, c1]
    simp [fnumber_in, mnumber_in, oLenS _ hl, c1, numV, hn]
theorem str_int (i : Int) (h : i.natAbs < 100) : opStr (.int i) = .ok (.val (.str (Str.ofString (toString i)))) := guardT (by
  by_cases c : i.natAbs = 0
  · rw [c]; decide
  · exact (Nat.log2_lt c).mpr (Nat.lt_of_lt_of_le h (by decide +kernel)))
theorem nStrs_lc : lcLoop (tName 1) mYes (mCallB (on1 opStr) [mVar 1]) [1] (rangeD 0 100) [some (.val (.str w)), none] = .ok (nStrs.map .str, [some (.val (.str w)), none]) := by
  have e := lc_map (i := 1) (te := mCallB (on1 opStr) [mVar 1]) (ρ := [some (.val (.str w)), none]) (ds := rangeD 0 100) (fun d => match d with
    | .int i => .str (Str.ofString (toString i))
    | d => d) (by simp) (fun x hx => by
      simp only [rangeD, List.mem_map, List.mem_range] at hx
      obtain ⟨a, ha, rfl⟩ := hx
      have : ((a : Int)).natAbs < 100 := by omega
      exact ⟨.val (.str (Str.ofString (toString (a : Int)))), by simp [str_int _ this], .inl (by simp)⟩)
  rw [e]
  simp [rangeD, nStrs]
theorem flat_strs (ys : List Str) : (ys.map PyData.str).all flatD = true := by simp [flatD]
theorem any_strs (w : Str) : ∀ ys : List Str, ((ys.map PyData.str).any fun z => eqFlat z (.str w)) = decide (w ∈ ys)
  | [] => by simp
  | y :: ys => by
    have ih := any_strs w ys
    simp only [List.map_cons, List.any_cons, ih, List.mem_cons]
    by_cases c : w = y
    · subst c; simp [eqFlat]
    · have c' : ¬ y = w := fun z => c z.symm
      simp [eqFlat, c, c']
theorem in_strs (w : Str) (ys : List Str) : opIn (.str w) (.list (ys.map .str)) = .ok (.val (.bool (decide (w ∈ ys)))) := by
  have : opIn (.str w) (.list (ys.map .str)) = guardR (flatD (.str w) = true ∧ (ys.map PyData.str).all flatD = true ∨ SeqAt.shaped (.str w) = true ∧ SeqAt.shaped (.list (ys.map .str)) = true) (bV (if flatD (.str w) = true ∧ (ys.map PyData.str).all flatD = true then (ys.map PyData.str).any fun z => eqFlat z (.str w) else (ys.map PyData.str).any fun z => PyData.eqv z (.str w))) := rfl
  rw [this, guardT (.inl ⟨rfl, flat_strs ys⟩), if_pos ⟨rfl, flat_strs ys⟩]
  rw [any_strs]
theorem num_iff (w : Str) : (decide (w ∈ nStrs)) = numB w := by
  by_cases c : w ∈ nStrs
  · rw [decide_eq_true c, (nStrs_num w c).1]
  · rw [decide_eq_false c]
    cases e : numB w with
    | false => rfl
    | true => exact absurd (num_nStrs e) c
theorem lnum_ok (w : Str) : f_law_number_of [.val (.str w)] = .ok (.val (numV w), [.val (.str w)]) := by
  cases c : numB w with
  | true => simp [f_law_number_of, m_law_number_of, nStrs_lc, in_strs, num_iff, c, opInt_num c]
  | false => simp [f_law_number_of, m_law_number_of, nStrs_lc, in_strs, num_iff, c, numV]
theorem numV_rp (w : Str) : Rp 0 0 (numV w) := by
  unfold numV
  by_cases c : numB w = true
  · rw [if_pos c]
    have h : ∀ w ∈ nStrs, ∀ n, PySem.intText? w = some n → n.natAbs < 1000 := by decide +kernel
    cases e : PySem.intText? w with
    | none => exact Rp.none
    | some n => exact Rp.int (Nat.lt_of_lt_of_le (h w (num_nStrs c) n e) (by decide +kernel))
  · rw [if_neg c]; exact Rp.none
/-! ### words_of -/
theorem line_same : f_law_line = fwords_of := rfl
def prB : Dt → Bool
  | .str y => !decide (y.cps.toList < [33]) && !decide ([126] < y.cps.toList)
  | _ => false
theorem pr_te (i : Nat) (ρ : Rho) (w : Str) (hi : i < ρ.length) (d : Dt) (hd : d ∈ signsD w) : ∃ v, mChain opLe opLe (mC (.str "!")) (mVar i) (mC (.str "~")) (ρ.set i (some (.val d))) = .ok (v, ρ.set i (some (.val d))) ∧ (v = .val (.bool (prB d)) ∨ ∃ o, v = .new o ∧ o.d = .bool (prB d)) := by
  obtain ⟨c, rfl, _⟩ := sign_of hd
  have e : (ρ.set i (some (.val (.str ⟨#[c]⟩))))[i]? = some (some (.val (.str ⟨#[c]⟩))) := List.getElem?_set_self hi
  have e1 : opLe (.str "!") (.str ⟨#[c]⟩) = .ok (.val (.bool (!decide ([c] < [33])))) := rfl
  have e2 : opLe (.str ⟨#[c]⟩) (.str "~") = .ok (.val (.bool (!decide ([126] < [c])))) := rfl
  refine ⟨.val (.bool (prB (.str ⟨#[c]⟩))), ?_, .inl rfl⟩
  have e3 : prB (.str ⟨#[c]⟩) = (!decide ([c] < [33]) && !decide ([126] < [c])) := rfl
  have e0 := evVarV (i := i) _ e
  rw [e3]
  simp only [evChain, evC, bindK, e0, lookV, e1, e2, boolEV_b]
  cases decide ([c] < [33]) <;> simp
def goodW (x : Str) : Prop := PyData.strOk x = true ∧ x.length ≤ 100
theorem join_mem {c : Nat} {y : Str} : ∀ {l : List Str} {p : Str}, p ∈ l → c ∈ p.cps.toList → c ∈ (Str.join y l).cps.toList
  | [], _, h, _ => by cases h
  | [x], p, h, hc => by
    simp only [List.mem_singleton] at h
    subst h
    exact hc
  | x :: z :: r, p, h, hc => by
    have e : (Str.join y (x :: z :: r)).cps.toList = x.cps.toList ++ y.cps.toList ++ (Str.join y (z :: r)).cps.toList := by
      show (x ++ y ++ Str.join y (z :: r)).cps.toList = _
      have a1 : ∀ p q : Str, (p ++ q).cps.toList = p.cps.toList ++ q.cps.toList := fun p q => by
        show (p.cps ++ q.cps).toList = _
        exact Array.toList_append
      rw [a1, a1]
    rw [e]
    rcases List.mem_cons.mp h with rfl | h
    · simp [hc]
    · have := join_mem (y := y) h hc
      simp [this]
theorem part_ok {w x : Str} (h : goodW w) (hx : x ∈ Txt.split w " ") : goodW x := by
  refine ⟨?_, Nat.le_trans (PyProof.Rows.part_short hx) h.2⟩
  have h1 : ∀ c ∈ w.cps.toList, c < 0x110000 := by
    intro c hc
    have := (Array.all_eq_true_iff_forall_mem.mp h.1) c (Array.mem_toList_iff.mp hc)
    simpa using this
  unfold PyData.strOk
  rw [Array.all_eq_true_iff_forall_mem]
  intro c hc
  have := join_mem (y := " ") hx (Array.mem_toList_iff.mpr hc)
  rw [StrLaws.join_split] at this
  simpa using h1 c this
theorem sok_of {x : Str} (h : goodW x) : sok x := by
  simp [sok, SeqAt.shaped, PyData.canLay0, PyData.depth, h.1]
theorem words_ok (w : Str) (h : goodW w) : ∃ r, fwords_of [.val (.str w)] = .ok (.val r, [.val (.str w)]) ∧ Rp 1 20000 r := by
  have hz := line24
  have hl : w.length ≤ sizeLine := by have := h.2; omega
  have h2 := h.2
  have hsp : opSplit w (.str " ") = .ok (.new (.lst ((Txt.split w " ").map .str))) := by
    show guardR _ _ = _
    exact guardT ⟨rfl, by omega, by have := PyProof.Rows.split_le w " "; omega⟩
  have rp : Rp 1 20000 (.list ((Txt.split w " ").map .str)) := Rp.list (k := 0) (n := 100) (fun d hd => by
    obtain ⟨x, hx, rfl⟩ := List.mem_map.mp hd
    have := part_ok h hx
    exact Rp.str this.1 this.2) (by
    have := PyProof.Rows.split_le w " "
    rw [List.length_map]
    have e : (Txt.split w " ").length * (100 + 1) ≤ 102 * 101 := Nat.mul_le_mul_right _ (by omega)
    omega)
  have sk : sok "" := by decide +kernel
  have key := fn_ex (np := 1) (n := 4) (br := fun _ => false) (body := mwords_of) (as := [.val (.str w)]) (P := fun v as' => ∃ r, v = .val r ∧ Rp 1 20000 r ∧ as' = [.val (.str w)]) rfl rfl (by
    refine wpS.seq (ρ1 := [some (.val (.str w)), some (.own (.lst ((Txt.split w " ").map .str))), none, none]) (by simp [mTxt1, strD, hsp]) ?_
    refine wpS.seqW (wpS.forM PyData.str (Txt.split w " ") (fun r ρ => (∀ x ∈ r, goodW x) ∧ ∃ z2 z3, ρ = [some (.val (.str w)), some (.val (.list ((Txt.split w " ").map .str))), z2, z3]) (ρ0 := [some (.val (.str w)), some (.val (.list ((Txt.split w " ").map .str))), none, none]) (by simp) ⟨fun x hx => part_ok h hx, none, none, rfl⟩ (fun x r ρ ⟨hr, z2, z3, e⟩ => ?_) (fun ρ ⟨_, z2, z3, e⟩ => ?_))
    · subst e
      refine ⟨_, rfl, ?_⟩
      have hx := hr x List.mem_cons_self
      have hxl : x.length ≤ sizeLine := by have := hx.2; omega
      have hr' : ∀ y ∈ r, goodW y := fun y hy => hr y (List.mem_cons_of_mem _ hy)
      have e := lc_map (i := 3) (te := mChain opLe opLe (mC (.str "!")) (mVar 3) (mC (.str "~"))) (ρ := [some (.val (.str w)), some (.val (.list ((Txt.split w " ").map .str))), some (.val (.str x)), z3]) (ds := signsD x) (fun x => .bool (prB x)) (by simp) (fun d hd => pr_te 3 _ x (by simp) d hd)
      by_cases c1 : x = ""
      · subst c1
        exact wpS.of (fl := .ret (.val .none)) (ρ' := [some (.val (.str w)), some (.val (.list ((Txt.split w " ").map .str))), some (.val (.str "")), z3]) (by simp [oEqS _ _ sk sk]) ⟨_, _, by first | (simp; done) | (simp; exact ⟨rfl, rfl⟩), _, rfl, Rp.none, rfl⟩
      · cases c2 : (signsD x).all prB with
        | false => exact wpS.of (fl := .ret (.val .none)) (ρ' := [some (.val (.str w)), some (.val (.list ((Txt.split w " ").map .str))), some (.val (.str x)), z3]) (by simp [oEqS _ _ (sok_of hx) sk, c1, seqTupS _ hxl, e, c2]) ⟨_, _, by first | (simp; done) | (simp; exact ⟨rfl, rfl⟩), _, rfl, Rp.none, rfl⟩
        | true => exact wpS.of (fl := .nxt) (ρ' := [some (.val (.str w)), some (.val (.list ((Txt.split w " ").map .str))), some (.val (.str x)), z3]) (by simp [oEqS _ _ (sok_of hx) sk, c1, seqTupS _ hxl, e, c2]) ⟨hr', _, _, rfl⟩
    · subst e
      exact wpS.of (fl := .ret (.val (.list ((Txt.split w " ").map .str)))) (ρ' := [some (.val (.str w)), some (.val (.list ((Txt.split w " ").map .str))), z2, z3]) (by simp) ⟨_, _, by first | (simp; done) | (simp; exact ⟨rfl, rfl⟩), _, rfl, rp, rfl⟩)
  obtain ⟨v, as', e, r, rfl, hr, rfl⟩ := key
  exact ⟨r, e, hr⟩
end Lk21
set_option Elab.async false
set_option linter.all false
set_option maxRecDepth 100000
set_option maxHeartbeats 4000000
namespace Lk21
open PySem Mv
theorem strOk_join : ∀ ys : List Str, (∀ y ∈ ys, PyData.strOk y = true) → PyData.strOk (Str.join "" ys) = true
  | [], _ => by decide +kernel
  | [y], h => h y List.mem_cons_self
  | y :: z :: r, h => by
    have ih := strOk_join (z :: r) fun x hx => h x (List.mem_cons_of_mem _ hx)
    have hy := h y List.mem_cons_self
    have e : (Str.join "" (y :: z :: r)).cps = y.cps ++ (Str.join "" (z :: r)).cps := by
      show (y ++ "" ++ Str.join "" (z :: r)).cps = _
      have a1 : ∀ p q : Str, (p ++ q).cps = p.cps ++ q.cps := fun p q => rfl
      have a2 : ("" : Str).cps = #[] := by decide +kernel
      rw [a1, a1, a2, Array.append_empty]
    unfold PyData.strOk at hy ih ⊢
    rw [e, Array.all_append, hy, ih]; rfl
theorem join_good {ys : List Str} (h : ∀ y ∈ ys, PyData.strOk y = true ∧ y.length ≤ 2) (hl : ys.length ≤ 20) : goodW (Txt.join "" ys) ∧ (ys.map (·.length)).sum + ys.length * ("" : Str).length ≤ 16777216 := by
  have hs : (ys.map (·.length)).sum ≤ 2 * ys.length := by
    clear hl
    induction ys with
    | nil => simp
    | cons y ys ih =>
      have h1 := (h y List.mem_cons_self).2
      have h2 := ih fun x hx => h x (List.mem_cons_of_mem _ hx)
      simp only [List.map_cons, List.sum_cons, List.length_cons]
      omega
  have e0 : ("" : Str).length = 0 := by decide +kernel
  have ej : Txt.join "" ys = Str.join "" ys := StrLaws.glued_eq_join "" ys
  have hj := StrLaws.join_length_le "" ys
  rw [e0] at hj
  refine ⟨⟨?_, ?_⟩, by rw [e0]; omega⟩
  · rw [ej]; exact strOk_join ys fun y hy => (h y hy).1
  · rw [ej]; omega
theorem strs_of_P {out : List Dt} {L : List Str} (h : ∀ x ∈ out, ∃ s ∈ L, x = .str s) : ∃ ys : List Str, out = ys.map .str ∧ ys.length = out.length ∧ ∀ y ∈ ys, y ∈ L := by
  induction out with
  | nil => exact ⟨[], rfl, rfl, fun y h => by cases h⟩
  | cons x out ih =>
    obtain ⟨s, hs, rfl⟩ := h x List.mem_cons_self
    obtain ⟨ys, rfl, hl, hm⟩ := ih fun y hy => h y (List.mem_cons_of_mem _ hy)
    refine ⟨s :: ys, rfl, by simp, fun y hy => ?_⟩
    rcases List.mem_cons.mp hy with rfl | hy
    · exact hs
    · exact hm y hy
def P1 : List Str := ["a", "b", " ", "0", "7", "~", "!", "(", "A", "\t", "-", "z", "  "]
def P2 : List Str := ["a", "k", "z", "9", "0", "1", "", "", "B"]
theorem P1_ok : ∀ y ∈ P1, PyData.strOk y = true ∧ y.length ≤ 2 := by decide +kernel
theorem P2_ok : ∀ y ∈ P2, PyData.strOk y = true ∧ y.length ≤ 2 := by decide +kernel
theorem goodBools (a b c d : Bool) : Rp 1 10 (.list [.bool a, .bool b, .bool c, .bool d]) := Rp.list (k := 0) (n := 0) (fun x hx => by
  simp only [List.mem_cons, List.not_mem_nil, or_false] at hx
  rcases hx with rfl | rfl | rfl | rfl <;> exact Rp.bool) (by simp)
def terms0 : List Dt := [.tuple [.int 3, .tuple [.int 3, .int 5]], .tuple [.tuple [.int 1, .tuple [.int 1, .int 2]], .tuple [.int 3, .tuple [.int 1, .int 2]]], .tuple [.tuple [.int 0, .int 1], .tuple [.int 2, .int 0]], .tuple [.int 0, .int 1, .int 1], .tuple [.int 2, .tuple [.int 0], .int 1]]
theorem terms0_ok : ∀ d ∈ terms0, nice 10 d = true ∧ short 10 d = true := by decide +kernel
theorem law_ok : ∀ ns : List Int, ns.length ≤ 63 → ∃ as, flaw [.val (.list (ns.map .int))] = .ok (.val (.bool true), as) := by
  intro ns hl
  have hz := line24
  have key : ∃ v as', mkF 1 13 (fun _ => false) mlaw [.val (.list (ns.map .int))] = .ok (v, as') ∧ v = .val (.bool true) := by
    refine fn_ex rfl rfl ?_
    obtain ⟨xs, hd, hxs, hxl⟩ := draws_ok ns hl
    obtain ⟨ys, hm, hys, hyl⟩ := more_ok xs hxs (by omega) 200 (by omega)
    obtain ⟨A, hA⟩ : ∃ A : SV, A = .val (.list (ns.map .int)) := ⟨_, rfl⟩
    rw [← hA] at hd ⊢
    refine wpS.seq (ρ1 := [some A, some (Od xs), none, none, none, none, none, none, none, none, none, none, none]) (by subst hA; simp [hd]) ?_
    refine wpS.seq (ρ1 := [some A, some (Od ys), none, none, none, none, none, none, none, none, none, none, none]) (by
      have hm' : f_law_more [Od xs, .val (.int 200)] = .ok (.new (.lst (List.map PyData.int ys).reverse), [Od (rs (rs xs)), .val (.int 200)]) := hm
      simp [hm']) ?_
    refine wpS.seq (ρ1 := [some A, some (Od ys), none, none, none, none, none, none, none, none, none, none, none]) (by kernel_rfl) ?_
    refine wpS.seqN (wpS.forW (ds := rangeD 0 6) (fun ds ρ => ∃ (ys : List Int) (z2 z6 z7 z8 : Option SV), ρ = [some A, some (Od ys), z2, none, none, none, z6, z7, z8, none, none, none, none]) (by simp) ⟨ys, none, none, none, none, rfl⟩ (fun d ds ρ ⟨ys, z2, z6, z7, z8, e⟩ => ?_) (fun ρ ⟨ys, z2, z6, z7, z8, e⟩ => ⟨rfl, ?_⟩))
    · subst e
      refine ⟨_, rfl, ?_⟩
      -- the line
      refine wpS.seqN (wpS.set (wpE.join (wpE.lc (ds := rangeD 0 (nx ys % 9).toNat) (fun ds ρ => ∃ (ys : List Int), ρ = [some A, some (Od ys), some (.val d), none, none, none, z6, z7, z8, none, none, none, none]) (fun d => ∃ s ∈ P1, d = .str s) (ρ0 := [some A, some (Od (rs ys)), some (.val d), none, none, none, z6, z7, z8, none, none, none, none]) ?_ ⟨_, rfl⟩ (fun d2 ds ρ ⟨ys, e⟩ => ?_) (fun out ρ ho hlo ⟨ys2, e⟩ => ?_))))
      · have h1 := Int.emod_nonneg (nx ys) (by decide : (9 : Int) ≠ 0)
        have h2 := Int.emod_lt_of_pos (nx ys) (by decide : (0 : Int) < 9)
        have h3 : -16777216 ≤ nx ys % 9 := by omega
        have h4 : nx ys % 9 ≤ 16777216 := by omega
        simp [oModI _ 9 (by decide), h3, h4]
      · subst e
        obtain ⟨v, hv, e⟩ := pick_ok ys (P1.map .str) (by simp [P1])
        obtain ⟨s, hs, rfl⟩ := List.mem_map.mp hv
        simp only [P1, List.map_cons, List.map_nil] at e
        exact ⟨[some A, some (Od ys), some (.val d), none, none, none, z6, z7, z8, none, some (.val d2), none, none], .str s, [some A, some (Od (rs ys)), some (.val d), none, none, none, z6, z7, z8, none, some (.val d2), none, none], rfl, by simp [e], ⟨s, hs, rfl⟩, rs ys, rfl⟩
      obtain ⟨ls, rfl, hl1, hl2⟩ := strs_of_P ho
      subst e
      have h1 := Int.emod_nonneg (nx ys) (by decide : (9 : Int) ≠ 0)
      have h2 := Int.emod_lt_of_pos (nx ys) (by decide : (0 : Int) < 9)
      have hll : ls.length ≤ 20 := by simp [rangeD] at hlo; omega
      obtain ⟨gl, gz⟩ := join_good (fun y hy => P1_ok y (hl2 y hy)) hll
      refine ⟨ls, rfl, gz, _, rfl, rfl, ?_⟩
      obtain ⟨r, er, hr⟩ := words_ok _ gl
      generalize Txt.join "" ls = line at er gl
      refine wpS.seq (ρ1 := [some A, some (Od ys2), some (.val d), none, none, none, some (.val (.str line)), z7, z8, none, none, none, none]) (by simp [er, line_same, oReprR hr (by decide) (by decide), oNeShown hr]) ?_
      -- the word
      refine wpS.seqN (wpS.set (wpE.join (wpE.lc (ds := rangeD 0 (nx ys2 % 15).toNat) (fun ds ρ => ∃ (ys : List Int), ρ = [some A, some (Od ys), some (.val d), none, none, none, some (.val (.str line)), z7, z8, none, none, none, none]) (fun d => ∃ s ∈ P2, d = .str s) (ρ0 := [some A, some (Od (rs ys2)), some (.val d), none, none, none, some (.val (.str line)), z7, z8, none, none, none, none]) ?_ ⟨_, rfl⟩ (fun d2 ds ρ ⟨ys, e⟩ => ?_) (fun out ρ ho hlo ⟨ys3, e⟩ => ?_))))
      · have h1 := Int.emod_nonneg (nx ys2) (by decide : (15 : Int) ≠ 0)
        have h2 := Int.emod_lt_of_pos (nx ys2) (by decide : (0 : Int) < 15)
        have h3 : -16777216 ≤ nx ys2 % 15 := by omega
        have h4 : nx ys2 % 15 ≤ 16777216 := by omega
        simp [oModI _ 15 (by decide), h3, h4]
      · subst e
        obtain ⟨v, hv, e⟩ := pick_ok ys (P2.map .str) (by simp [P2])
        obtain ⟨s, hs, rfl⟩ := List.mem_map.mp hv
        simp only [P2, List.map_cons, List.map_nil] at e
        exact ⟨[some A, some (Od ys), some (.val d), none, none, none, some (.val (.str line)), z7, z8, none, some (.val d2), none, none], .str s, [some A, some (Od (rs ys)), some (.val d), none, none, none, some (.val (.str line)), z7, z8, none, some (.val d2), none, none], rfl, by simp [e], ⟨s, hs, rfl⟩, rs ys, rfl⟩
      obtain ⟨ls, rfl, hl3, hl4⟩ := strs_of_P ho
      subst e
      have h1 := Int.emod_nonneg (nx ys2) (by decide : (15 : Int) ≠ 0)
      have h2 := Int.emod_lt_of_pos (nx ys2) (by decide : (0 : Int) < 15)
      have hll : ls.length ≤ 20 := by simp [rangeD] at hlo; omega
      obtain ⟨gw, gz⟩ := join_good (fun y hy => P2_ok y (hl4 y hy)) hll
      refine ⟨ls, rfl, gz, _, rfl, rfl, ?_⟩
      generalize Txt.join "" ls = word at gw
      have hwl : word.length ≤ sizeLine := by have := gw.2; omega
      have en := name_ok word (by have := gw.2; omega)
      have em := num_ok word (by have := gw.2; omega) gw.1
      have el := lnum_ok word
      have rp : Rp 1 10 (.list [.bool (nameB word), numV word]) := Rp.list (k := 0) (n := 0) (fun x hx => by
        simp only [List.mem_cons, List.not_mem_nil, or_false] at hx
        rcases hx with rfl | rfl
        · exact Rp.bool
        · exact numV_rp word) (by simp)
      refine wpS.seq (ρ1 := [some A, some (Od ys3), some (.val d), none, none, none, some (.val (.str line)), some (.val (.str word)), some (.val (.bool (nameB word))), none, none, none, none]) ?_ ?_
      · have e := lc_map (i := 12) (te := mBin opIn (mVar 12) (mC (.str "abcdefghijklmnopqrstuvwxyz"))) (ρ := [some A, some (Od ys3), some (.val d), none, none, none, some (.val (.str line)), some (.val (.str word)), z8, none, none, none, none]) (ds := signsD word) (fun x => .bool (memB "abcdefghijklmnopqrstuvwxyz" x)) (by simp) (fun x hx => in_te 12 _ _ word (by simp) x hx)
        by_cases c1 : (1 : Int) ≤ word.length
        · by_cases c2 : (word.length : Int) ≤ 12
          · simp [oLenS _ hwl, seqTupS _ hwl, e, nameB, c1, c2]
          · simp [oLenS _ hwl, nameB, c1, c2]
        · simp [oLenS _ hwl, nameB, c1]
      · exact wpS.of (fl := .nxt) (ρ' := [some A, some (Od ys3), some (.val d), none, none, none, some (.val (.str line)), some (.val (.str word)), some (.val (.bool (nameB word))), none, none, none, none]) (by simp [en, em, el, oReprR rp (by decide) (by decide), oNeShown rp]) ⟨_, _, _, _, _, rfl⟩
    · subst e
      refine wpS.seq (ρ1 := [some A, some (Od ys), z2, none, none, none, z6, z7, z8, none, none, none, none]) (by kernel_rfl) ?_
      refine wpS.seq (ρ1 := [some A, some (Od ys), z2, some (.own (.lst terms0)), none, none, z6, z7, z8, none, none, none, none]) (by simp [terms0]) ?_
      have step : ∀ (ys : List Int) (s3 : Option SV) (d : Dt), (s3 = some (.own (.lst terms0)) ∨ s3 = some (.val (.list terms0))) → ∃ d' ys', mCall f_law_spoilt [mVar 1, mForce (mCall f_law_pick [mVar 1, mForce (mVar 3)])] [some A, some (Od ys), some (.val d), s3, none, none, z6, z7, z8, none, none, none, none] = .ok (.val d', [some A, some (Od ys'), some (.val d), some (.val (.list terms0)), none, none, z6, z7, z8, none, none, none, none]) ∧ nice 12 d' = true := fun ys s3 d h3 => by
        obtain ⟨t, ht, e1⟩ := pick_ok ys terms0 (by simp [terms0])
        obtain ⟨n1, n2⟩ := terms0_ok t ht
        obtain ⟨d', ys', e2, h2⟩ := spoilt_ok 10 (rs ys) t (by decide) n1 n2
        have e3 : f_law_spoilt [Od (rs ys), .val t] = .ok (.val d', [Od ys', .val t]) := e2
        refine ⟨d', ys', ?_, h2⟩
        rcases h3 with rfl | rfl <;> simp [e1, e3]
      obtain ⟨out, ρ', e1, ho, hlo, ys2, s3, rfl, h3⟩ := lc_inv (g := tName 2) (te := mCall f_law_spoilt [mVar 1, mForce (mCall f_law_pick [mVar 1, mForce (mVar 3)])]) (vs := [2]) (fun ds ρ => ∃ ys s3, ρ = [some A, some (Od ys), z2, s3, none, none, z6, z7, z8, none, none, none, none] ∧ (s3 = some (.own (.lst terms0)) ∨ s3 = some (.val (.list terms0)))) (fun d => nice 12 d = true) (rangeD 0 12) [some A, some (Od ys), z2, some (.own (.lst terms0)), none, none, z6, z7, z8, none, none, none, none] ⟨_, _, rfl, .inl rfl⟩ (fun d ds ρ ⟨ys, s3, e, h3⟩ => by
        subst e
        obtain ⟨d', ys', e, h⟩ := step ys s3 d h3
        exact ⟨_, d', _, rfl, e, h, _, _, rfl, .inr rfl⟩)
      have hol : out.length = 12 := by simpa [rangeD] using hlo
      have c1 : (terms0).length + out.length ≤ sizeLine := by rw [hol]; simp [terms0]; omega
      have c2 : (terms0 ++ out).length + 4 ≤ sizeLine := by rw [List.length_append, hol]; simp [terms0]; omega
      have a1 : opAdd (.list terms0) (.list out) = .ok (.new (.lst (terms0 ++ out))) := guardT c1
      have a2 : opAdd (.list (terms0 ++ out)) (.list [.tuple [], .none, .str "", .int 0]) = .ok (.new (.lst (terms0 ++ out ++ [.tuple [], .none, .str "", .int 0]))) := guardT c2
      have ni : ∀ x ∈ terms0 ++ out ++ [.tuple [], .none, .str "", .int 0], nice 12 x = true := fun x hx => by
        rcases List.mem_append.mp hx with hx | hx
        · rcases List.mem_append.mp hx with hx | hx
          · exact nice_le (terms0_ok x hx).1 (by decide)
          · exact ho x hx
        · simp only [List.mem_cons, List.not_mem_nil, or_false] at hx
          rcases hx with rfl | rfl | rfl | rfl <;> decide +kernel
      refine wpS.seqN (wpS.forW (ds := terms0 ++ out ++ [.tuple [], .none, .str "", .int 0]) (ρ0 := [some A, some (Od ys2), z2, s3, none, none, z6, z7, z8, none, none, none, none]) (fun ds ρ => (∀ x ∈ ds, nice 12 x = true) ∧ ∃ z4, ρ = [some A, some (Od ys2), z2, s3, z4, none, z6, z7, z8, none, none, none, none]) ?_ ⟨ni, _, rfl⟩ (fun d ds ρ ⟨hn, z4, e⟩ => ?_) (fun ρ ⟨_, z4, e⟩ => ⟨rfl, ?_⟩))
      · rcases h3 with rfl | rfl <;> simp [e1, a1, a2]
      · subst e
        refine ⟨_, rfl, ?_⟩
        have h := hn d List.mem_cons_self
        refine wpS.of (fl := .nxt) (ρ' := [some A, some (Od ys2), z2, s3, some (.val d), none, z6, z7, z8, none, none, none, none]) ?_ ⟨fun x hx => hn x (List.mem_cons_of_mem _ hx), _, rfl⟩
        simp [lcLoop, wipeR, backR, form_system h, form_chances h, form_shocks h, form_row h, due_system h, due_chances h, due_shocks h, due_row h, oNeSelf (goodBools _ _ _ _) (by decide)]
      · subst e
        refine wpS.seqN (wpS.forM PyData.str ["", "Form", "term"] (fun r ρ => ρ.length = 13 ∧ ∀ z ∈ r, (nameKs nmFORMS abFORMS).lookup z = some none) (ρ0 := [some A, some (Od ys2), z2, s3, z4, none, z6, z7, z8, none, none, none, none]) (by simp) ⟨rfl, fun z hz => by
          simp only [List.mem_cons, List.not_mem_nil, or_false] at hz
          rcases hz with rfl | rfl | rfl
          · exact k5
          · exact k6
          · exact k7⟩ (fun z r ρ ⟨hl, hz⟩ => ?_) (fun ρ ⟨hl, _⟩ => ⟨rfl, ?_⟩))
        · refine ⟨_, rfl, ?_⟩
          have h5 : (ρ.set 5 (some (.val (.str z))))[5]? = some (some (.val (.str z))) := List.getElem?_set_self (by omega)
          have e : (mSeq (mDrop (mCall fhas_form [mForce (mVar 5), mForce (mTup [])])) (mRet (mC (.bool false)))) (ρ.set 5 (some (.val (.str z)))) = .ex "BadNumber" := by
            simp [evVarV _ h5, form_not z _ (hz z List.mem_cons_self)]
          refine wpS.of (fl := .nxt) (ρ' := blankR (ρ.set 5 (some (.val (.str z))))) ?_ ⟨by simp [blankR, hl], fun y hy => hz y (List.mem_cons_of_mem _ hy)⟩
          have ek : kf_law_kind "BadNumber" = some (.str "!number") := by simp [kf_law_kind]
          simp only [mTryIf, e, ek, if_true]
        · exact wpS.of (fl := .ret (.val (.bool true))) (ρ' := ρ) rfl ⟨.val (.bool true), [A], by
            subst hA
            cases ρ with
            | nil => cases hl
            | cons x r => simp, rfl⟩
  obtain ⟨v, as', e, rfl⟩ := key
  exact ⟨as', e⟩
end Lk21
set_option Elab.async false
set_option linter.all false
set_option maxRecDepth 100000
open PySem PySem.W PyProof.Rows in
set_option maxRecDepth 100000 in
set_option maxHeartbeats 0 in
theorem PySem.Challenge.cw_partshold_k21_lines_and_forms_holds : PySem.Challenge.rw_partshold_k21_lines_and_forms.Holds := by
  w_on; o_law; k_head; (case hw => w_witness2)
  k_fill
  refine Mv.walk_ofG (l := PySem.Challenge.rw_partshold_k21_lines_and_forms) (n := 63) (k := 13) (fn := Lk21.flaw) rfl (by decide) rfl ⟨rfl, by decide, by decide⟩ rfl (fun w h Y => PySem.W.kIn_of Y) ?hL ?F Lk21.law_ok
  case hL => intro w; kernel_rfl
  case F =>
    intro w mg h KX G base B1 B2
    refine' Mv.cut (Mv.excK_mk (x := "BadNumber") KX G ?zza_1 ?zzq_1 ?zzk_1 ?zzs_1 ?zzt_1) ?zzm_1
    (case zza_1 => k_is); (case zzq_1 => k_exc); (case zzk_1 => k_is); (case zzs_1 => k_is); (case zzt_1 => k_is)
    intro e_BadNumber
    refine' Mv.cut (Mv.globS_mk (x := "FIGURES") (y := "0123456789") KX G ?zza_2) ?zzm_2
    (case zza_2 => k_is)
    intro g_FIGURES
    refine' Mv.cut (Mv.tabT_mk (x := "FORMS") (w := w) KX G ?zza_3 ?zzl_3 ?zzk_3 ?zzo_3 (Mv.tl_cons (z := "system") (y := "is_told_system") KX G ?zzta0_3 ?zztb0_3 (Mv.tl_cons (z := "chances") (y := "are_pairs") KX G ?zzta1_3 ?zztb1_3 (Mv.tl_cons (z := "shocks") (y := "are_shocks") KX G ?zzta2_3 ?zztb2_3 (Mv.tl_cons (z := "row") (y := "is_row") KX G ?zzta3_3 ?zztb3_3 Mv.tl_nil)))) (Mv.al_cons (z := "") ?zzab0_3 (Mv.al_cons (z := "Form") ?zzab1_3 (Mv.al_cons (z := "term") ?zzab2_3 Mv.al_nil)))) ?zzm_3
    (case zza_3 => k_is); (case zzl_3 => k_is); (case zzk_3 => exact ⟨⟨_, _, rfl, rfl⟩, ⟨⟨_, _, rfl, rfl⟩, ⟨⟨_, _, rfl, rfl⟩, ⟨⟨_, _, rfl, rfl⟩, trivial⟩⟩⟩⟩); (case zzo_3 => rfl); (case zzab0_3 => k_is); (case zzab1_3 => k_is); (case zzab2_3 => k_is); (case zzta0_3 => k_is); (case zztb0_3 => k_is); (case zzta1_3 => k_is); (case zztb1_3 => k_is); (case zzta2_3 => k_is); (case zztb2_3 => k_is); (case zzta3_3 => k_is); (case zztb3_3 => k_is)
    intro t_FORMS
    refine' Mv.cut (Mv.globS_mk (x := "SMALL") (y := "abcdefghijklmnopqrstuvwxyz") KX G ?zza_4) ?zzm_4
    (case zza_4 => k_is)
    intro g_SMALL
    refine' Mv.cut (Mv.bi_mk (x := "all") KX G ?zza_5) ?zzm_5
    (case zza_5 => k_is)
    intro b_all
    refine' Mv.cut (Mv.bi_mk (x := "int") KX G ?zza_6) ?zzm_6
    (case zza_6 => k_is)
    intro b_int
    refine' Mv.cut (Mv.bi_mk (x := "isinstance") KX G ?zza_7) ?zzm_7
    (case zza_7 => k_is)
    intro b_isinstance
    refine' Mv.cut (Mv.bi_mk (x := "len") KX G ?zza_8) ?zzm_8
    (case zza_8 => k_is)
    intro b_len
    refine' Mv.cut (Mv.bi_mk (x := "list") KX G ?zza_9) ?zzm_9
    (case zza_9 => k_is)
    intro b_list
    refine' Mv.cut (Mv.bi_mk (x := "range") KX G ?zza_10) ?zzm_10
    (case zza_10 => k_is)
    intro b_range
    refine' Mv.cut (Mv.bi_mk (x := "repr") KX G ?zza_11) ?zzm_11
    (case zza_11 => k_is)
    intro b_repr
    refine' Mv.cut (Mv.bi_mk (x := "str") KX G ?zza_12) ?zzm_12
    (case zza_12 => k_is)
    intro b_str
    refine' Mv.cut (Mv.bi_mk (x := "tuple") KX G ?zza_13) ?zzm_13
    (case zza_13 => k_is)
    intro b_tuple
    refine' Mv.cut (Mv.funT_mk (x := "_law_number") (st := Lk21.st_law_number) (ps := ["cell"]) KX G ?zza_14 ?zzl_14 ?zzc_14 ?zzk_14 ?zzb_14) ?zzm_14
    (case zza_14 => k_is); (case zzl_14 => k_is); (case zzc_14 => k_is); (case zzk_14 => k_is); (case zzb_14 => exact fun _ _ _ _ _ _ us hl => match us, hl with | [_], _ => rfl)
    intro F__law_number
    refine' Mv.cut (Mv.funT_mk (x := "_law_draws") (st := Lk21.st_law_draws) (ps := ["script"]) KX G ?zza_15 ?zzl_15 ?zzc_15 ?zzk_15 ?zzb_15) ?zzm_15
    (case zza_15 => k_is); (case zzl_15 => k_is); (case zzc_15 => k_is); (case zzk_15 => k_is); (case zzb_15 => exact fun _ _ _ _ _ _ us hl => match us, hl with | [_], _ => rfl)
    intro F__law_draws
    refine' Mv.cut (Mv.funT_mk (x := "_law_next") (st := Lk21.st_law_next) (ps := ["draws"]) KX G ?zza_16 ?zzl_16 ?zzc_16 ?zzk_16 ?zzb_16) ?zzm_16
    (case zza_16 => k_is); (case zzl_16 => k_is); (case zzc_16 => k_is); (case zzk_16 => k_is); (case zzb_16 => exact fun _ _ _ _ _ _ us hl => match us, hl with | [_], _ => rfl)
    intro F__law_next
    refine' Mv.cut (Mv.funT_mk (x := "_law_more") (st := Lk21.st_law_more) (ps := ["draws", "many"]) KX G ?zza_17 ?zzl_17 ?zzc_17 ?zzk_17 ?zzb_17) ?zzm_17
    (case zza_17 => k_is); (case zzl_17 => k_is); (case zzc_17 => k_is); (case zzk_17 => k_is); (case zzb_17 => exact fun _ _ _ _ _ _ us hl => match us, hl with | [_, _], _ => rfl)
    intro F__law_more
    refine' Mv.cut (Mv.funT_mk (x := "words_of") (st := Lk21.stwords_of) (ps := ["line"]) KX G ?zza_18 ?zzl_18 ?zzc_18 ?zzk_18 ?zzb_18) ?zzm_18
    (case zza_18 => k_is); (case zzl_18 => k_is); (case zzc_18 => k_is); (case zzk_18 => k_is); (case zzb_18 => exact fun _ _ _ _ _ _ us hl => match us, hl with | [_], _ => rfl)
    intro F_words_of
    refine' Mv.cut (Mv.funT_mk (x := "is_name") (st := Lk21.stis_name) (ps := ["word"]) KX G ?zza_19 ?zzl_19 ?zzc_19 ?zzk_19 ?zzb_19) ?zzm_19
    (case zza_19 => k_is); (case zzl_19 => k_is); (case zzc_19 => k_is); (case zzk_19 => k_is); (case zzb_19 => exact fun _ _ _ _ _ _ us hl => match us, hl with | [_], _ => rfl)
    intro F_is_name
    refine' Mv.cut (Mv.funT_mk (x := "number_in") (st := Lk21.stnumber_in) (ps := ["word"]) KX G ?zza_20 ?zzl_20 ?zzc_20 ?zzk_20 ?zzb_20) ?zzm_20
    (case zza_20 => k_is); (case zzl_20 => k_is); (case zzc_20 => k_is); (case zzk_20 => k_is); (case zzb_20 => exact fun _ _ _ _ _ _ us hl => match us, hl with | [_], _ => rfl)
    intro F_number_in
    refine' Mv.cut (Mv.funT_mk (x := "is_integer") (st := Lk21.stis_integer) (ps := ["term"]) KX G ?zza_21 ?zzl_21 ?zzc_21 ?zzk_21 ?zzb_21) ?zzm_21
    (case zza_21 => k_is); (case zzl_21 => k_is); (case zzc_21 => k_is); (case zzk_21 => k_is); (case zzb_21 => exact fun _ _ _ _ _ _ us hl => match us, hl with | [_], _ => rfl)
    intro F_is_integer
    refine' Mv.cut (Mv.funT_mk (x := "is_row") (st := Lk21.stis_row) (ps := ["term"]) KX G ?zza_22 ?zzl_22 ?zzc_22 ?zzk_22 ?zzb_22) ?zzm_22
    (case zza_22 => k_is); (case zzl_22 => k_is); (case zzc_22 => k_is); (case zzk_22 => k_is); (case zzb_22 => exact fun _ _ _ _ _ _ us hl => match us, hl with | [_], _ => rfl)
    intro F_is_row
    refine' Mv.cut (Mv.funT_mk (x := "is_told_system") (st := Lk21.stis_told_system) (ps := ["term"]) KX G ?zza_23 ?zzl_23 ?zzc_23 ?zzk_23 ?zzb_23) ?zzm_23
    (case zza_23 => k_is); (case zzl_23 => k_is); (case zzc_23 => k_is); (case zzk_23 => k_is); (case zzb_23 => exact fun _ _ _ _ _ _ us hl => match us, hl with | [_], _ => rfl)
    intro F_is_told_system
    refine' Mv.cut (Mv.funT_mk (x := "are_pairs") (st := Lk21.stare_pairs) (ps := ["term"]) KX G ?zza_24 ?zzl_24 ?zzc_24 ?zzk_24 ?zzb_24) ?zzm_24
    (case zza_24 => k_is); (case zzl_24 => k_is); (case zzc_24 => k_is); (case zzk_24 => k_is); (case zzb_24 => exact fun _ _ _ _ _ _ us hl => match us, hl with | [_], _ => rfl)
    intro F_are_pairs
    refine' Mv.cut (Mv.funT_mk (x := "is_shock") (st := Lk21.stis_shock) (ps := ["term"]) KX G ?zza_25 ?zzl_25 ?zzc_25 ?zzk_25 ?zzb_25) ?zzm_25
    (case zza_25 => k_is); (case zzl_25 => k_is); (case zzc_25 => k_is); (case zzk_25 => k_is); (case zzb_25 => exact fun _ _ _ _ _ _ us hl => match us, hl with | [_], _ => rfl)
    intro F_is_shock
    refine' Mv.cut (Mv.funT_mk (x := "are_shocks") (st := Lk21.stare_shocks) (ps := ["term"]) KX G ?zza_26 ?zzl_26 ?zzc_26 ?zzk_26 ?zzb_26) ?zzm_26
    (case zza_26 => k_is); (case zzl_26 => k_is); (case zzc_26 => k_is); (case zzk_26 => k_is); (case zzb_26 => exact fun _ _ _ _ _ _ us hl => match us, hl with | [_], _ => rfl)
    intro F_are_shocks
    refine' Mv.cut (Mv.funT_mk (x := "has_form") (st := Lk21.sthas_form) (ps := ["thing", "term"]) KX G ?zza_27 ?zzl_27 ?zzc_27 ?zzk_27 ?zzb_27) ?zzm_27
    (case zza_27 => k_is); (case zzl_27 => k_is); (case zzc_27 => k_is); (case zzk_27 => k_is); (case zzb_27 => exact fun _ _ _ _ _ _ us hl => match us, hl with | [_, _], _ => rfl)
    intro F_has_form
    refine' Mv.cut (Mv.funT_mk (x := "_law_pick") (st := Lk21.st_law_pick) (ps := ["draws", "some"]) KX G ?zza_28 ?zzl_28 ?zzc_28 ?zzk_28 ?zzb_28) ?zzm_28
    (case zza_28 => k_is); (case zzl_28 => k_is); (case zzc_28 => k_is); (case zzk_28 => k_is); (case zzb_28 => exact fun _ _ _ _ _ _ us hl => match us, hl with | [_, _], _ => rfl)
    intro F__law_pick
    refine' Mv.cut (Mv.funT_mk (x := "_law_line") (st := Lk21.st_law_line) (ps := ["line"]) KX G ?zza_29 ?zzl_29 ?zzc_29 ?zzk_29 ?zzb_29) ?zzm_29
    (case zza_29 => k_is); (case zzl_29 => k_is); (case zzc_29 => k_is); (case zzk_29 => k_is); (case zzb_29 => exact fun _ _ _ _ _ _ us hl => match us, hl with | [_], _ => rfl)
    intro F__law_line
    refine' Mv.cut (Mv.funT_mk (x := "_law_spoilt") (st := Lk21.st_law_spoilt) (ps := ["draws", "term"]) KX G ?zza_30 ?zzl_30 ?zzc_30 ?zzk_30 ?zzb_30) ?zzm_30
    (case zza_30 => k_is); (case zzl_30 => k_is); (case zzc_30 => k_is); (case zzk_30 => k_is); (case zzb_30 => exact fun _ _ _ _ _ _ us hl => match us, hl with | [_, _], _ => rfl)
    intro F__law_spoilt
    refine' Mv.cut (Mv.funT_mk (x := "_law_is_row") (st := Lk21.st_law_is_row) (ps := ["term"]) KX G ?zza_31 ?zzl_31 ?zzc_31 ?zzk_31 ?zzb_31) ?zzm_31
    (case zza_31 => k_is); (case zzl_31 => k_is); (case zzc_31 => k_is); (case zzk_31 => k_is); (case zzb_31 => exact fun _ _ _ _ _ _ us hl => match us, hl with | [_], _ => rfl)
    intro F__law_is_row
    refine' Mv.cut (Mv.funT_mk (x := "_law_due") (st := Lk21.st_law_due) (ps := ["thing", "term"]) KX G ?zza_32 ?zzl_32 ?zzc_32 ?zzk_32 ?zzb_32) ?zzm_32
    (case zza_32 => k_is); (case zzl_32 => k_is); (case zzc_32 => k_is); (case zzk_32 => k_is); (case zzb_32 => exact fun _ _ _ _ _ _ us hl => match us, hl with | [_, _], _ => rfl)
    intro F__law_due
    refine' Mv.cut (Mv.funT_mk (x := "_law_number_of") (st := Lk21.st_law_number_of) (ps := ["word"]) KX G ?zza_33 ?zzl_33 ?zzc_33 ?zzk_33 ?zzb_33) ?zzm_33
    (case zza_33 => k_is); (case zzl_33 => k_is); (case zzc_33 => k_is); (case zzk_33 => k_is); (case zzb_33 => exact fun _ _ _ _ _ _ us hl => match us, hl with | [_], _ => rfl)
    intro F__law_number_of
    refine' Mv.cut (Mv.funT_mk (x := "_law_kind") (st := Lk21.st_law_kind) (ps := ["error"]) KX G ?zza_34 ?zzl_34 ?zzc_34 ?zzk_34 ?zzb_34) ?zzm_34
    (case zza_34 => k_is); (case zzl_34 => k_is); (case zzc_34 => k_is); (case zzk_34 => k_is); (case zzb_34 => exact fun _ _ _ _ _ _ us hl => match us, hl with | [_], _ => rfl)
    intro F__law_kind
    refine' Mv.cut (Mv.funT_mk (x := "law") (st := Lk21.stlaw) (ps := ["script"]) KX G ?zza_35 ?zzl_35 ?zzc_35 ?zzk_35 ?zzb_35) ?zzm_35
    (case zza_35 => k_is); (case zzl_35 => k_is); (case zzc_35 => k_is); (case zzk_35 => k_is); (case zzb_35 => exact fun _ _ _ _ _ _ us hl => match us, hl with | [_], _ => rfl)
    intro F_law
    refine' Mv.cut (Mv.excF_mk (x := "BadNumber") (pe := "PartError") KX G ?zza_36 ?zzap_36 ?zzf1_36 ?zzf2_36 ?zzf3_36 ?zzf4_36 ?zzf5_36 ?zzf6_36 ?zzf7_36 ?zzf8_36 ?zzg1_36 ?zzg2_36 ?zzg3_36 ?zzg4_36 (Mv.kl_other (y := "NotSystem") (b := false) KX G ?zza0_36 ?zzn0_36 ?zzi0_36 ?zzt0_36 ?zzs0_36 (Mv.kl_other (y := "NotChances") (b := false) KX G ?zza1_36 ?zzn1_36 ?zzi1_36 ?zzt1_36 ?zzs1_36 (Mv.kl_other (y := "NotTable") (b := false) KX G ?zza2_36 ?zzn2_36 ?zzi2_36 ?zzt2_36 ?zzs2_36 (Mv.kl_other (y := "NotPaper") (b := false) KX G ?zza3_36 ?zzn3_36 ?zzi3_36 ?zzt3_36 ?zzs3_36 (Mv.kl_self (y := "BadNumber") KX G ?zza4_36 (Mv.kl_other (y := "NoAnswer") (b := false) KX G ?zza5_36 ?zzn5_36 ?zzi5_36 ?zzt5_36 ?zzs5_36 (Mv.kl_other (y := "TooLarge") (b := false) KX G ?zza6_36 ?zzn6_36 ?zzi6_36 ?zzt6_36 ?zzs6_36 Mv.kl_nil)))))))) ?zzm_36
    (case zza_36 => k_is); (case zzap_36 => k_is); (case zzf1_36 => k_is); (case zzf2_36 => k_is); (case zzf3_36 => k_is); (case zzf4_36 => k_is); (case zzf5_36 => k_is); (case zzf6_36 => k_is); (case zzf7_36 => k_is); (case zzf8_36 => k_is); (case zzg1_36 => k_is); (case zzg2_36 => k_is); (case zzg3_36 => k_is); (case zzg4_36 => k_is); (case zza0_36 => k_is); (case zzn0_36 => rfl); (case zzi0_36 => k_is); (case zzt0_36 => k_is); (case zzs0_36 => k_is); (case zza1_36 => k_is); (case zzn1_36 => rfl); (case zzi1_36 => k_is); (case zzt1_36 => k_is); (case zzs1_36 => k_is); (case zza2_36 => k_is); (case zzn2_36 => rfl); (case zzi2_36 => k_is); (case zzt2_36 => k_is); (case zzs2_36 => k_is); (case zza3_36 => k_is); (case zzn3_36 => rfl); (case zzi3_36 => k_is); (case zzt3_36 => k_is); (case zzs3_36 => k_is); (case zza4_36 => k_is); (case zza5_36 => k_is); (case zzn5_36 => rfl); (case zzi5_36 => k_is); (case zzt5_36 => k_is); (case zzs5_36 => k_is); (case zza6_36 => k_is); (case zzn6_36 => rfl); (case zzi6_36 => k_is); (case zzt6_36 => k_is); (case zzs6_36 => k_is)
    intro X_BadNumber
    exact Lk21.all_defs ⟨e_BadNumber, g_FIGURES, t_FORMS, g_SMALL, b_all, b_int, b_isinstance, b_len, b_list, b_range, b_repr, b_str, b_tuple⟩ F__law_number F__law_draws F__law_next F__law_more F_words_of F_is_name F_number_in F_is_integer F_is_row F_is_told_system F_are_pairs F_is_shock F_are_shocks F_has_form F__law_pick F__law_line F__law_spoilt F__law_is_row F__law_due F__law_number_of F__law_kind F_law X_BadNumber
