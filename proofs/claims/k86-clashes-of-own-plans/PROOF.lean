import PyProof.Rows.All
import Wide.All
import OpenK.AllK
import Wide.FinOn
import HandS.ForMost
import HandS.Star
import HandS.IsInst
import HandS.DictTup
import HandS.Conv
import HandS.Flow
import HandS.Style
import HandS.NoneIn
import HandS.TupSets
import HandS.TupLen
import HandS.Defaults
import HandS.DeepEq
import HandS.Keys
import HandS.Walk
import HandS.Zip
import KE.GoesEnum
import HandS.DictComp
import KE.KDictWalk
import HandS.SortRule
import KE.KDictCopyH
import KE.KDictSum
import HandS.ListItems
import KE.KDictItemsList
import PyProof.ReprRoads
import KE.KDictPairs
import HandS.SetBool
import HandS.Strs
import HandS.Gcd
import HandS.Deep
import HandS.IterVal
import HandS.HeadEnd
import HandS.HeadHook2
import HandS.Head2
import HandS.Head0
import HandS.Head1
import HandS.Head3
import HandS.HeadHook1
import PySem.Challenge.RW_anyload_k86_whole_clashes_of_own_plans
set_option Elab.async false
set_option linter.all false
set_option maxRecDepth 100000
set_option maxHeartbeats 4000000
/-! Pure values over the layer: a value without addresses, the world (base heap, cells), what an expression yields. -/
namespace PV
open PySem PySem.Spec PyProof.Rows L2

/-- a value without addresses -/
inductive P where
  | non | bl (b : Bool) | int (i : Int) | str (x : Str) | ty (n : String) | fn (a : Addr)
  | lst (xs : List P) | tup (xs : List P)
  | dT (kvs : List (List Key × P)) | dK (kvs : List (Key × P))
  | obj (C : Addr) (fs : List (Str × P))
  | scr (xs : List P)

/-- v stands for x, by what the heap H holds -/
inductive Rep (K : PySem.W.Frag) (H : Hp) : V → P → Prop
  | non : Rep K H .non .non
  | bl (b : Bool) : Rep K H (.bl b) (.bl b)
  | int (i : Int) : Rep K H (.int i) (.int i)
  | str (x : Str) : Rep K H (.str x) (.str x)
  | ty (n : String) : Rep K H (.ty n) (.ty n)
  | fn (a : Addr) : Rep K H (.ref a) (.fn a)
  | lst {a : Addr} {vs : List V} {xs : List P} (h : H a = some (.lst vs)) (l : vs.length = xs.length)
      (e : ∀ (i : Nat) (v : V) (x : P), vs[i]? = some v → xs[i]? = some x → Rep K H v x) : Rep K H (.ref a) (.lst xs)
  | scr {a : Addr} {vs : List V} {xs : List P} (h : SqL K H a vs) (l : vs.length = xs.length)
      (e : ∀ (i : Nat) (v : V) (x : P), vs[i]? = some v → xs[i]? = some x → Rep K H v x) : Rep K H (.ref a) (.scr xs)
  | tup {a : Addr} {vs : List V} {xs : List P} (h : H a = some (.tup vs)) (l : vs.length = xs.length)
      (e : ∀ (i : Nat) (v : V) (x : P), vs[i]? = some v → xs[i]? = some x → Rep K H v x) : Rep K H (.ref a) (.tup xs)
  | dT {a : Addr} {ks : List (List Key × V)} {kvs : List (List Key × P)} (h : H a = some (.dT ks)) (l : ks.map (·.1) = kvs.map (·.1))
      (e : ∀ (i : Nat) (v : List Key × V) (x : List Key × P), ks[i]? = some v → kvs[i]? = some x → Rep K H v.2 x.2) : Rep K H (.ref a) (.dT kvs)
  | dK {a : Addr} {ks : List (Key × V)} {kvs : List (Key × P)} (h : H a = some (.dK ks)) (l : ks.map (·.1) = kvs.map (·.1))
      (e : ∀ (i : Nat) (v : Key × V) (x : Key × P), ks[i]? = some v → kvs[i]? = some x → Rep K H v.2 x.2) : Rep K H (.ref a) (.dK kvs)
  | obj {a C dx : Addr} {fs : List (Str × V)} {gs : List (Str × P)} (h : H a = some (.ins C dx fs)) (l : fs.map (·.1) = gs.map (·.1))
      (e : ∀ (i : Nat) (v : Str × V) (x : Str × P), fs[i]? = some v → gs[i]? = some x → Rep K H v.2 x.2) : Rep K H (.ref a) (.obj C gs)

def Ex (H H' : Hp) : Prop := ∀ a o, H a = some o → H' a = some o
theorem Ex.refl (H : Hp) : Ex H H := fun _ _ h => h
theorem Ex.trans {H H1 H2 : Hp} (a : Ex H H1) (b : Ex H1 H2) : Ex H H2 := fun x o h => b x o (a x o h)
theorem Ex.new {H : Hp} {p : Addr} {o : HO} (h : H p = none) : Ex H (upd H p o) := fun a u e => by
  rw [upd_ne (ne_of_none e h)]; exact e
theorem Ex.back {H H' : Hp} {p : Addr} (e : Ex H H') (h : H' p = none) : H p = none := by
  cases q : H p with
  | none => rfl
  | some o => rw [e p o q] at h; cases h
theorem Ex.sqL {K : PySem.W.Frag} {H H' : Hp} {a : Addr} {xs : List V} (e : Ex H H') (h : SqL K H a xs) : SqL K H' a xs := by
  rcases h with (h | ⟨o, h⟩) | h
  · exact .inl (.inl (e _ _ h))
  · exact .inl (.inr ⟨o, e _ _ h⟩)
  · exact .inr h
theorem Rep.mono {K : PySem.W.Frag} {H H' : Hp} (x : Ex H H') {v : V} {p : P} (r : Rep K H v p) : Rep K H' v p := by
  induction r with
  | non => exact .non
  | bl b => exact .bl b
  | int i => exact .int i
  | str y => exact .str y
  | ty n => exact .ty n
  | fn a => exact .fn a
  | lst h l _ ih => exact .lst (x _ _ h) l ih
  | scr h l _ ih => exact .scr (x.sqL h) l ih
  | tup h l _ ih => exact .tup (x _ _ h) l ih
  | dT h l _ ih => exact .dT (x _ _ h) l ih
  | dK h l _ ih => exact .dK (x _ _ h) l ih
  | obj h l _ ih => exact .obj (x _ _ h) l ih

/-! ### lists side by side -/
theorem pd_get {α β : Type} {F : α → β → Prop} : ∀ {l₁ : List α} {l₂ : List β}, Paired F l₁ l₂ → ∀ (i : Nat) (a : α) (b : β), l₁[i]? = some a → l₂[i]? = some b → F a b
  | _, _, .nil, _, _, _, h, _ => by simp at h
  | _, _, .cons r _, 0, _, _, h, k => by simp at h k; subst h; subst k; exact r
  | _, _, .cons _ t, i + 1, a, b, h, k => pd_get t i a b (by simpa using h) (by simpa using k)
theorem pd_of {α β : Type} {F : α → β → Prop} : ∀ {l₁ : List α} {l₂ : List β}, l₁.length = l₂.length → (∀ (i : Nat) (a : α) (b : β), l₁[i]? = some a → l₂[i]? = some b → F a b) → Paired F l₁ l₂
  | [], [], _, _ => .nil
  | [], _ :: _, h, _ => by simp at h
  | _ :: _, [], h, _ => by simp at h
  | a :: l₁, b :: l₂, h, e => .cons (e 0 a b rfl rfl) (pd_of (by simpa using h) fun i x y p q => e (i + 1) x y (by simpa using p) (by simpa using q))
theorem pd_left {α β : Type} {F : α → β → Prop} : ∀ {l₁ : List α} {l₂ : List β}, Paired F l₁ l₂ → ∀ (i : Nat) (b : β), l₂[i]? = some b → ∃ a, l₁[i]? = some a ∧ F a b
  | _, _, .nil, _, _, h => by simp at h
  | _, _, .cons r _, 0, _, h => by simp at h; subst h; exact ⟨_, rfl, r⟩
  | _, _, .cons _ t, i + 1, b, h => by
    obtain ⟨a, p, q⟩ := pd_left t i b (by simpa using h)
    exact ⟨a, by simpa using p, q⟩
theorem pd_right {α β : Type} {F : α → β → Prop} : ∀ {l₁ : List α} {l₂ : List β}, Paired F l₁ l₂ → ∀ (i : Nat) (a : α), l₁[i]? = some a → ∃ b, l₂[i]? = some b ∧ F a b
  | _, _, .nil, _, _, h => by simp at h
  | _, _, .cons r _, 0, _, h => by simp at h; subst h; exact ⟨_, rfl, r⟩
  | _, _, .cons _ t, i + 1, b, h => by
    obtain ⟨a, p, q⟩ := pd_right t i b (by simpa using h)
    exact ⟨a, by simpa using p, q⟩
theorem pd_app {α β : Type} {F : α → β → Prop} : ∀ {l₁ k₁ : List α} {l₂ k₂ : List β}, Paired F l₁ l₂ → Paired F k₁ k₂ → Paired F (l₁ ++ k₁) (l₂ ++ k₂)
  | _, _, _, _, .nil, s => s
  | _, _, _, _, .cons r t, s => .cons r (pd_app t s)
theorem pd_imp {α β : Type} {F G : α → β → Prop} (h : ∀ a b, F a b → G a b) : ∀ {l₁ : List α} {l₂ : List β}, Paired F l₁ l₂ → Paired G l₁ l₂
  | _, _, .nil => .nil
  | _, _, .cons r t => .cons (h _ _ r) (pd_imp h t)
theorem pd_set {α β : Type} {F : α → β → Prop} {a : α} {b : β} (r : F a b) : ∀ {l₁ : List α} {l₂ : List β} (i : Nat), Paired F l₁ l₂ → Paired F (l₁.set i a) (l₂.set i b)
  | _, _, _, .nil => .nil
  | _, _, 0, .cons _ t => .cons r t
  | _, _, i + 1, .cons q t => .cons q (pd_set r i t)

abbrev RepL (K : PySem.W.Frag) (H : Hp) : List V → List P → Prop := Paired (Rep K H)
theorem Rep.lstL {K : PySem.W.Frag} {H : Hp} {a : Addr} {vs : List V} {xs : List P} (h : H a = some (.lst vs)) (r : RepL K H vs xs) : Rep K H (.ref a) (.lst xs) := .lst h r.length (pd_get r)
theorem Rep.tupL {K : PySem.W.Frag} {H : Hp} {a : Addr} {vs : List V} {xs : List P} (h : H a = some (.tup vs)) (r : RepL K H vs xs) : Rep K H (.ref a) (.tup xs) := .tup h r.length (pd_get r)
theorem Rep.lst_inv {K : PySem.W.Frag} {H : Hp} {v : V} {xs : List P} (r : Rep K H v (.lst xs)) : ∃ a vs, v = .ref a ∧ SqL K H a vs ∧ RepL K H vs xs := by
  cases r with
  | lst h l e => exact ⟨_, _, rfl, .inl (.inl h), pd_of l e⟩
theorem Rep.lst_at {K : PySem.W.Frag} {H : Hp} {v : V} {xs : List P} (r : Rep K H v (.lst xs)) : ∃ a vs, v = .ref a ∧ H a = some (.lst vs) ∧ RepL K H vs xs := by
  cases r with
  | lst h l e => exact ⟨_, _, rfl, h, pd_of l e⟩
theorem Rep.scr_inv {K : PySem.W.Frag} {H : Hp} {v : V} {xs : List P} (r : Rep K H v (.scr xs)) : ∃ a vs, v = .ref a ∧ SqL K H a vs ∧ RepL K H vs xs := by
  cases r with
  | scr h l e => exact ⟨_, _, rfl, h, pd_of l e⟩
theorem Rep.tup_inv {K : PySem.W.Frag} {H : Hp} {v : V} {xs : List P} (r : Rep K H v (.tup xs)) : ∃ a vs, v = .ref a ∧ H a = some (.tup vs) ∧ RepL K H vs xs := by
  cases r with
  | tup h l e => exact ⟨_, _, rfl, h, pd_of l e⟩
theorem Rep.int_inv {K : PySem.W.Frag} {H : Hp} {v : V} {i : Int} (r : Rep K H v (.int i)) : v = .int i := by cases r; rfl
theorem Rep.bl_inv {K : PySem.W.Frag} {H : Hp} {v : V} {i : Bool} (r : Rep K H v (.bl i)) : v = .bl i := by cases r; rfl
theorem Rep.str_inv {K : PySem.W.Frag} {H : Hp} {v : V} {i : Str} (r : Rep K H v (.str i)) : v = .str i := by cases r; rfl
theorem Rep.non_inv {K : PySem.W.Frag} {H : Hp} {v : V} (r : Rep K H v .non) : v = .non := by cases r; rfl
theorem Rep.obj_inv {K : PySem.W.Frag} {H : Hp} {v : V} {C : Addr} {gs : List (Str × P)} (r : Rep K H v (.obj C gs)) :
    ∃ a dx fs, v = .ref a ∧ H a = some (.ins C dx fs) ∧ Paired (fun (p : Str × V) (q : Str × P) => p.1 = q.1 ∧ Rep K H p.2 q.2) fs gs := by
  cases r with
  | obj h l e =>
    refine ⟨_, _, _, rfl, h, pd_of (by simpa using congrArg List.length l) fun i p q hp hq => ⟨?_, e i p q hp hq⟩⟩
    have h1 := congrArg (·[i]?) l
    simp only [List.getElem?_map, hp, hq, Option.map_some, Option.some.injEq] at h1
    exact h1
theorem Rep.dT_inv {K : PySem.W.Frag} {H : Hp} {v : V} {kvs : List (List Key × P)} (r : Rep K H v (.dT kvs)) :
    ∃ a ks, v = .ref a ∧ H a = some (.dT ks) ∧ Paired (fun (p : List Key × V) (q : List Key × P) => p.1 = q.1 ∧ Rep K H p.2 q.2) ks kvs := by
  cases r with
  | dT h l e =>
    refine ⟨_, _, rfl, h, pd_of (by simpa using congrArg List.length l) fun i p q hp hq => ⟨?_, e i p q hp hq⟩⟩
    have h1 := congrArg (·[i]?) l
    simp only [List.getElem?_map, hp, hq, Option.map_some, Option.some.injEq] at h1
    exact h1
theorem Rep.dK_inv {K : PySem.W.Frag} {H : Hp} {v : V} {kvs : List (Key × P)} (r : Rep K H v (.dK kvs)) :
    ∃ a ks, v = .ref a ∧ H a = some (.dK ks) ∧ Paired (fun (p : Key × V) (q : Key × P) => p.1 = q.1 ∧ Rep K H p.2 q.2) ks kvs := by
  cases r with
  | dK h l e =>
    refine ⟨_, _, rfl, h, pd_of (by simpa using congrArg List.length l) fun i p q hp hq => ⟨?_, e i p q hp hq⟩⟩
    have h1 := congrArg (·[i]?) l
    simp only [List.getElem?_map, hp, hq, Option.map_some, Option.some.injEq] at h1
    exact h1

/-! ### values and cells -/
/-- a value of a body: without addresses, or the cell j (a list, dict, instance that may change) -/
inductive E where
  | sh (x : P) | pt (j : Nat) | tp (xs : List (P ⊕ Nat))
inductive Cell where
  | lst (xs : List E) | dT (kvs : List (List Key × E)) | dK (kvs : List (Key × E)) | obj (C : Addr) (fs : List (Str × E)) | lk (o : Obj) (ks : List (List Key × V)) (kvs : List (List Key × E))
abbrev Mu := List (Option Cell)
/-- an item of a tuple that holds cells -/
def RepI (K : PySem.W.Frag) (ad : List Addr) (H : Hp) (v : V) : P ⊕ Nat → Prop
  | .inl x => Rep K H v x
  | .inr j => ∃ a, ad[j]? = some a ∧ v = .ref a
def RepE (K : PySem.W.Frag) (ad : List Addr) (H : Hp) (v : V) : E → Prop
  | .sh x => Rep K H v x
  | .pt j => ∃ a, ad[j]? = some a ∧ v = .ref a
  | .tp xs => ∃ a vs, v = .ref a ∧ H a = some (.tup vs) ∧ Paired (RepI K ad H) vs xs
def CellOk (K : PySem.W.Frag) (ad : List Addr) (Hb H : Hp) (a : Addr) : Cell → Prop
  | .lst xs => ∃ vs, H a = some (.lst vs) ∧ Paired (RepE K ad Hb) vs xs
  | .dT kvs => ∃ ks, H a = some (.dT ks) ∧ Paired (fun (p : List Key × V) (q : List Key × E) => p.1 = q.1 ∧ RepE K ad Hb p.2 q.2) ks kvs
  | .dK kvs => ∃ ks, H a = some (.dK ks) ∧ Paired (fun (p : Key × V) (q : Key × E) => p.1 = q.1 ∧ RepE K ad Hb p.2 q.2) ks kvs
  | .lk o ks kvs => H a = some (.frz o (.dT ks)) ∧ Paired (fun (p : List Key × V) (q : List Key × E) => p.1 = q.1 ∧ RepE K ad Hb p.2 q.2) ks kvs
  | .obj C gs => ∃ dx fs, H a = some (.ins C dx fs) ∧ Paired (fun (p : Str × V) (q : Str × E) => p.1 = q.1 ∧ RepE K ad Hb p.2 q.2) fs gs
/-- a base object as it stands in the heap: it, or (a dict while it is walked) it locked -/
def Std (H : Hp) (a : Addr) : HO → Prop
  | .dK kvs => Rd H a (.dK kvs)
  | .dT kvs => Rd H a (.dT kvs)
  | o => H a = some o
theorem Std.of {H : Hp} {a : Addr} {o : HO} (h : H a = some o) : Std H a o := by
  cases o <;> first | exact h | exact .inl h
structure Wd (K : PySem.W.Frag) (ad : List Addr) (Hb H : Hp) (μ : Mu) : Prop where
  len : ad.length = μ.length
  inc : ∀ a u, Hb a = some u → Std H a u
  off : ∀ (j : Nat) (a : Addr) (c : Cell), ad[j]? = some a → μ[j]? = some (some c) → Hb a = none ∧ CellOk K ad Hb H a c
  nd : ∀ (i j : Nat) (a : Addr) (c d : Cell), ad[i]? = some a → ad[j]? = some a → μ[i]? = some (some c) → μ[j]? = some (some d) → i = j
  trk : ∀ a ∈ ad, H a ≠ none
def isTup : HO → Bool
  | .tup _ => true
  | _ => false
/-- from one world to a later one -/
def isD : HO → Bool
  | .dT _ => true
  | .dK _ => true
  | _ => false
structure Step (ad : List Addr) (Hb H : Hp) (ad' : List Addr) (Hb' H' : Hp) : Prop where
  ex : Ex Hb Hb'
  pre : ∃ l, ad' = ad ++ l
  new : ∀ a ∈ ad', a ∈ ad ∨ H a = none
  fr : ∀ a o, a ∉ ad → H a = some o → H' a = some o ∨ (∃ q, isD o = true ∧ Hb a = some o ∧ H' a = some (.frz q o))
  fgn : ∀ a o, a ∉ ad → H a = some o → isTup o = false → Hb a = none → Hb' a = none
  bs : ∀ a u q, Hb a = some u → H a = some (.frz q u) → H' a = some (.frz q u)
theorem Step.refl (ad : List Addr) (Hb H : Hp) : Step ad Hb H ad Hb H := ⟨Ex.refl _, ⟨[], by simp⟩, fun _ h => .inl h, fun _ _ _ h => .inl h, fun _ _ _ _ _ h => h, fun _ _ _ _ h => h⟩
theorem Step.fr0 {ad ad' : List Addr} {Hb H Hb' H' : Hp} (s : Step ad Hb H ad' Hb' H') {a : Addr} {o : HO} (h : a ∉ ad) (n : Hb a = none) (e : H a = some o) : H' a = some o := by
  rcases s.fr a o h e with z | ⟨_, _, z, _⟩
  · exact z
  · rw [n] at z; cases z
theorem Step.fr1 {ad ad' : List Addr} {Hb H Hb' H' : Hp} (s : Step ad Hb H ad' Hb' H') {a : Addr} {o : HO} (h : a ∉ ad) (e : H a = some o) : H' a ≠ none := by
  rcases s.fr a o h e with z | ⟨_, _, _, z⟩ <;> (rw [z]; exact fun z => nomatch z)
theorem Step.trans {ad ad1 ad2 : List Addr} {Hb H Hb1 H1 Hb2 H2 : Hp} (a : Step ad Hb H ad1 Hb1 H1) (b : Step ad1 Hb1 H1 ad2 Hb2 H2) : Step ad Hb H ad2 Hb2 H2 where
  ex := a.ex.trans b.ex
  pre := by
    obtain ⟨l, e⟩ := a.pre
    obtain ⟨k, f⟩ := b.pre
    exact ⟨l ++ k, by rw [f, e, List.append_assoc]⟩
  new := fun x h => by
    rcases b.new x h with h1 | h1
    · exact a.new x h1
    · by_cases hx : x ∈ ad
      · exact .inl hx
      · cases q : H x with
        | none => exact .inr rfl
        | some o => exact absurd h1 (a.fr1 hx q)
  fr := fun x o hx q => by
    have nx : x ∉ ad1 := fun h => by
      rcases a.new x h with h1 | h1
      · exact hx h1
      · rw [q] at h1; cases h1
    rcases a.fr x o hx q with z | ⟨l, d, n, z⟩
    · rcases b.fr x o nx z with y | ⟨l, d, n, y⟩
      · exact .inl y
      · refine .inr ⟨l, d, ?_, y⟩
        cases e : Hb x with
        | none =>
          have t : isTup o = false := by cases o <;> first | rfl | cases d
          rw [a.fgn x o hx q t e] at n
          cases n
        | some u => exact (a.ex x u e).symm.trans n
    · rcases b.fr x _ nx z with y | ⟨_, d2, _⟩
      · exact .inr ⟨l, d, n, y⟩
      · cases d2
  fgn := fun x o hx q t n => by
    refine b.fgn x o (fun h => ?_) (a.fr0 hx n q) t (a.fgn x o hx q t n)
    rcases a.new x h with h1 | h1
    · exact hx h1
    · rw [q] at h1; cases h1
  bs := fun x u q h e => b.bs x u q (a.ex x u h) (a.bs x u q h e)
theorem Step.at_ {ad ad' : List Addr} {Hb H Hb' H' : Hp} (s : Step ad Hb H ad' Hb' H') {j : Nat} {a : Addr} (h : ad[j]? = some a) : ad'[j]? = some a := by
  obtain ⟨l, e⟩ := s.pre
  rw [e, List.getElem?_append_left (List.getElem?_eq_some_iff.mp h).1]
  exact h
theorem RepE.step {K : PySem.W.Frag} {ad ad' : List Addr} {Hb H Hb' H' : Hp} (s : Step ad Hb H ad' Hb' H') {v : V} {x : E} (r : RepE K ad Hb v x) : RepE K ad' Hb' v x := by
  cases x with
  | sh x => exact Rep.mono s.ex r
  | pt j => obtain ⟨a, h, e⟩ := r; exact ⟨a, s.at_ h, e⟩
  | tp xs =>
    obtain ⟨a, vs, e, h, r⟩ := r
    refine ⟨a, vs, e, s.ex _ _ h, pd_imp (fun v x q => ?_) r⟩
    cases x with
    | inl x => exact Rep.mono s.ex q
    | inr j => obtain ⟨b, h1, h2⟩ := q; exact ⟨b, s.at_ h1, h2⟩
abbrev RepEs (K : PySem.W.Frag) (ad : List Addr) (H : Hp) : List V → List E → Prop := Paired (RepE K ad H)
theorem RepEs.step {K : PySem.W.Frag} {ad ad' : List Addr} {Hb H Hb' H' : Hp} (s : Step ad Hb H ad' Hb' H') {vs : List V} {xs : List E} (r : RepEs K ad Hb vs xs) : RepEs K ad' Hb' vs xs := pd_imp (fun _ _ h => RepE.step s h) r
/-- the slots -/
abbrev Rho := List (Option E)
def Env (K : PySem.W.Frag) (ad : List Addr) (Hb : Hp) (σ : L2.St) (ρ : Rho) : Prop := σ.length = ρ.length ∧ ∀ (i : Nat) (x : E), ρ[i]? = some (some x) → ∃ v, σ[i]? = some (some v) ∧ RepE K ad Hb v x
theorem Env.step {K : PySem.W.Frag} {ad ad' : List Addr} {Hb H Hb' H' : Hp} (s : Step ad Hb H ad' Hb' H') {σ : L2.St} {ρ : Rho} (r : Env K ad Hb σ ρ) : Env K ad' Hb' σ ρ :=
  ⟨r.1, fun i x h => let ⟨v, a, b⟩ := r.2 i x h; ⟨v, a, RepE.step s b⟩⟩
theorem Env.set {K : PySem.W.Frag} {ad : List Addr} {Hb : Hp} {σ : L2.St} {ρ : Rho} (r : Env K ad Hb σ ρ) (i : Nat) {v : V} {x : E} (q : RepE K ad Hb v x) : Env K ad Hb (σ.set i (some v)) (ρ.set i (some x)) := by
  refine ⟨by rw [List.length_set, List.length_set]; exact r.1, fun j y h => ?_⟩
  by_cases e : i = j
  · subst e
    have hl : i < ρ.length := by
      have := (List.getElem?_eq_some_iff.mp h).1
      rwa [List.length_set] at this
    rw [List.getElem?_set_self hl] at h
    cases h
    exact ⟨v, by rw [List.getElem?_set_self (by rw [r.1]; exact hl)], q⟩
  · rw [List.getElem?_set_ne e] at h
    obtain ⟨w, a, b⟩ := r.2 j y h
    exact ⟨w, by rw [List.getElem?_set_ne e]; exact a, b⟩
/-- slots forgotten -/
theorem Env.weak {K : PySem.W.Frag} {ad : List Addr} {Hb : Hp} {σ : L2.St} {ρ ρ' : Rho} (r : Env K ad Hb σ ρ) (l : ρ'.length = ρ.length) (h : ∀ (i : Nat) (x : E), ρ'[i]? = some (some x) → ρ[i]? = some (some x)) : Env K ad Hb σ ρ' :=
  ⟨r.1.trans l.symm, fun i x e => r.2 i x (h i x e)⟩
end PV

/-! The judgements over pure values, the rules for expressions. -/
namespace PV
open PySem PySem.Spec PyProof.Rows L2

/-! ### what a piece of syntax asks, by itself -/
def TEV (X : Cx) (e : Expr) : TE := fun σ H Q => ∀ pins s, Inv X pins σ H s → wpAny (model X.prog X.w) X.A (eval e X.env) (EP X pins σ Q) X.xe s
def TTV (X : Cx) (e : Expr) : TT := fun σ H Q => ∀ pins s, Inv X pins σ H s → wpAny (model X.prog X.w) X.A (isTrue e X.env (eval e X.env)) (TP X pins σ Q) X.xe s
def TAV (X : Cx) (es : List Expr) : TA := fun σ H Q => ∀ pos pins s, Inv X pins σ H s → wpAny (model X.prog X.w) X.A (spliced (backTo pos (starEach es X.env))) (AP X pins σ Q) X.xe s
theorem pe_self {X : Cx} {e : Expr} : PE X e (TEV X e) := ⟨fun pins s _ _ _ I h => h pins s I⟩
theorem pt_self {X : Cx} {e : Expr} : PT X e (TTV X e) := ⟨fun pins s _ _ _ I h => h pins s I⟩
theorem pa_self {X : Cx} {es : List Expr} : PA X es (TAV X es) := ⟨fun pos pins s _ _ _ I h => h pos pins s I⟩
theorem pe_go {X : Cx} {e : Expr} {t : TE} (h : PE X e t) {σ : L2.St} {H : Hp} {Q : VK} (q : t σ H Q) : TEV X e σ H Q := fun pins s I => h.run pins s σ H Q I q
theorem pt_go {X : Cx} {e : Expr} {t : TT} (h : PT X e t) {σ : L2.St} {H : Hp} {Q : Bool → Hp → Prop} (q : t σ H Q) : TTV X e σ H Q := fun pins s I => h.run pins s σ H Q I q
theorem pa_go {X : Cx} {es : List Expr} {t : TA} (h : PA X es t) {σ : L2.St} {H : Hp} {Q : List V → Hp → Prop} (q : t σ H Q) : TAV X es σ H Q := fun pos pins s I => h.run pos pins s σ H Q I q

/-! ### the judgements -/
/-- from the world (ad, Hb, H): whatever is yielded under Q is what Q' wants -/
def Goes (K : PySem.W.Frag) (ad : List Addr) (Hb H : Hp) (Q : E → Mu → Prop) (Q' : VK) : Prop :=
  ∀ (v : V) (x : E) (μ' : Mu) (ad' : List Addr) (Hb' H' : Hp), Q x μ' → Step ad Hb H ad' Hb' H' → Wd K ad' Hb' H' μ' → RepE K ad' Hb' v x → Q' v H'
def GoesT (K : PySem.W.Frag) (ad : List Addr) (Hb H : Hp) (Q : Bool → Mu → Prop) (Q' : Bool → Hp → Prop) : Prop :=
  ∀ (b : Bool) (μ' : Mu) (ad' : List Addr) (Hb' H' : Hp), Q b μ' → Step ad Hb H ad' Hb' H' → Wd K ad' Hb' H' μ' → Q' b H'
def GoesL (K : PySem.W.Frag) (ad : List Addr) (Hb H : Hp) (Q : List E → Mu → Prop) (Q' : List V → Hp → Prop) : Prop :=
  ∀ (vs : List V) (xs : List E) (μ' : Mu) (ad' : List Addr) (Hb' H' : Hp), Q xs μ' → Step ad Hb H ad' Hb' H' → Wd K ad' Hb' H' μ' → RepEs K ad' Hb' vs xs → Q' vs H'
def TEP (X : Cx) (e : Expr) (ρ : Rho) (μ : Mu) (Q : E → Mu → Prop) : Prop :=
  ∀ (ad : List Addr) (Hb H : Hp) (σ : L2.St), Wd X.K ad Hb H μ → Env X.K ad Hb σ ρ → ∀ Q' : VK, Goes X.K ad Hb H Q Q' → TEV X e σ H Q'
def TTP (X : Cx) (e : Expr) (ρ : Rho) (μ : Mu) (Q : Bool → Mu → Prop) : Prop :=
  ∀ (ad : List Addr) (Hb H : Hp) (σ : L2.St), Wd X.K ad Hb H μ → Env X.K ad Hb σ ρ → ∀ Q', GoesT X.K ad Hb H Q Q' → TTV X e σ H Q'
def TAP (X : Cx) (es : List Expr) (ρ : Rho) (μ : Mu) (Q : List E → Mu → Prop) : Prop :=
  ∀ (ad : List Addr) (Hb H : Hp) (σ : L2.St), Wd X.K ad Hb H μ → Env X.K ad Hb σ ρ → ∀ Q', GoesL X.K ad Hb H Q Q' → TAV X es σ H Q'
/-- operations by values -/
def V1 (K : PySem.W.Frag) (r : V → Hp → VK → Prop) (x : E) (μ : Mu) (Q : E → Mu → Prop) : Prop :=
  ∀ (ad : List Addr) (Hb H : Hp) (v : V), Wd K ad Hb H μ → RepE K ad Hb v x → ∀ Q', Goes K ad Hb H Q Q' → r v H Q'
def V2 (K : PySem.W.Frag) (r : R2) (x y : E) (μ : Mu) (Q : E → Mu → Prop) : Prop :=
  ∀ (ad : List Addr) (Hb H : Hp) (v w : V), Wd K ad Hb H μ → RepE K ad Hb v x → RepE K ad Hb w y → ∀ Q', Goes K ad Hb H Q Q' → r v w H Q'
def VL (K : PySem.W.Frag) (r : List V → Hp → VK → Prop) (xs : List E) (μ : Mu) (Q : E → Mu → Prop) : Prop :=
  ∀ (ad : List Addr) (Hb H : Hp) (vs : List V), Wd K ad Hb H μ → RepEs K ad Hb vs xs → ∀ Q', Goes K ad Hb H Q Q' → r vs H Q'
/-- a method's rule: the object, the arguments -/
def VM (K : PySem.W.Frag) (r : V → List V → Hp → VK → Prop) (x : E) (xs : List E) (μ : Mu) (Q : E → Mu → Prop) : Prop :=
  ∀ (ad : List Addr) (Hb H : Hp) (v : V) (vs : List V), Wd K ad Hb H μ → RepE K ad Hb v x → RepEs K ad Hb vs xs → ∀ Q', Goes K ad Hb H Q Q' → r v vs H Q'

section
variable {K : PySem.W.Frag} {ad ad1 : List Addr} {Hb H Hb1 H1 : Hp} {μ μ1 : Mu} {Q : E → Mu → Prop} {Q' : VK}
theorem Goes.after (g : Goes K ad Hb H Q Q') (s : Step ad Hb H ad1 Hb1 H1) : Goes K ad1 Hb1 H1 Q Q' := fun v x μ' ad' Hb' H' q s' W r => g v x μ' ad' Hb' H' q (s.trans s') W r
theorem GoesT.after {Q : Bool → Mu → Prop} {Q' : Bool → Hp → Prop} (g : GoesT K ad Hb H Q Q') (s : Step ad Hb H ad1 Hb1 H1) : GoesT K ad1 Hb1 H1 Q Q' := fun b μ' ad' Hb' H' q s' W => g b μ' ad' Hb' H' q (s.trans s') W
theorem GoesL.after {Q : List E → Mu → Prop} {Q' : List V → Hp → Prop} (g : GoesL K ad Hb H Q Q') (s : Step ad Hb H ad1 Hb1 H1) : GoesL K ad1 Hb1 H1 Q Q' := fun v x μ' ad' Hb' H' q s' W r => g v x μ' ad' Hb' H' q (s.trans s') W r
theorem Goes.now (g : Goes K ad Hb H Q Q') (W : Wd K ad Hb H μ) {v : V} {x : E} (r : RepE K ad Hb v x) (q : Q x μ) : Q' v H := g v x μ ad Hb H q (Step.refl _ _ _) W r
/-- an address that the heap does not hold is none of the base's, of the living cells' -/
theorem Wd.base_none (W : Wd K ad Hb H μ) {p : Addr} (h : H p = none) : Hb p = none := by
  cases q : Hb p with
  | none => rfl
  | some u =>
    have z := W.inc p u q
    cases u <;> (simp only [Std, Rd] at z; rw [h] at z; first | (rcases z with z | ⟨_, z⟩ <;> cases z; done) | cases z)
theorem CellOk.some {a : Addr} {c : Cell} (h : CellOk K ad Hb H a c) : ∃ o, H a = some o ∧ isTup o = false := by
  cases c with
  | lst xs => obtain ⟨vs, e, _⟩ := h; exact ⟨_, e, rfl⟩
  | dT kvs => obtain ⟨vs, e, _⟩ := h; exact ⟨_, e, rfl⟩
  | dK kvs => obtain ⟨vs, e, _⟩ := h; exact ⟨_, e, rfl⟩
  | lk o ks kvs => exact ⟨_, h.1, rfl⟩
  | obj C kvs => obtain ⟨dx, vs, e, _⟩ := h; exact ⟨_, e, rfl⟩
theorem CellOk.keep {a : Addr} {c : Cell} (h : CellOk K ad Hb H a c) (e : H1 a = H a) (m : ∀ v x, RepE K ad Hb v x → RepE K ad1 Hb1 v x) : CellOk K ad1 Hb1 H1 a c := by
  cases c with
  | lst xs => obtain ⟨vs, e1, r⟩ := h; exact ⟨vs, e.trans e1, pd_imp m r⟩
  | dT kvs => obtain ⟨vs, e1, r⟩ := h; exact ⟨vs, e.trans e1, pd_imp (fun _ _ q => ⟨q.1, m _ _ q.2⟩) r⟩
  | dK kvs => obtain ⟨vs, e1, r⟩ := h; exact ⟨vs, e.trans e1, pd_imp (fun _ _ q => ⟨q.1, m _ _ q.2⟩) r⟩
  | lk o ks kvs => exact ⟨e.trans h.1, pd_imp (fun _ _ q => ⟨q.1, m _ _ q.2⟩) h.2⟩
  | obj C kvs => obtain ⟨dx, vs, e1, r⟩ := h; exact ⟨dx, vs, e.trans e1, pd_imp (fun _ _ q => ⟨q.1, m _ _ q.2⟩) r⟩
theorem Std.keep {a : Addr} {o : HO} (h : Std H a o) (e : H1 a = H a) : Std H1 a o := by
  cases o <;> (simp only [Std, Rd, e] at h ⊢; exact h)
theorem repE_mono {ad' : List Addr} {Hb' : Hp} (x : Ex Hb Hb') (p : ∃ l, ad' = ad ++ l) {v : V} {e : E} (r : RepE K ad Hb v e) : RepE K ad' Hb' v e := by
  cases e with
  | sh x' => exact Rep.mono x r
  | pt j =>
    obtain ⟨a, h, e⟩ := r
    obtain ⟨l, rfl⟩ := p
    exact ⟨a, by rw [List.getElem?_append_left (List.getElem?_eq_some_iff.mp h).1]; exact h, e⟩
  | tp xs =>
    obtain ⟨a, vs, e, h, r⟩ := r
    obtain ⟨l, rfl⟩ := p
    refine ⟨a, vs, e, x _ _ h, pd_imp (fun v y q => ?_) r⟩
    cases y with
    | inl y => exact Rep.mono x q
    | inr j => obtain ⟨b, h1, h2⟩ := q; exact ⟨b, by rw [List.getElem?_append_left (List.getElem?_eq_some_iff.mp h1).1]; exact h1, h2⟩
theorem upd_trk {a p : Addr} {o : HO} (h : H a ≠ none) : upd H p o a ≠ none := by
  by_cases e : a = p
  · subst e; rw [upd_same]; exact fun z => nomatch z
  · rw [upd_ne e]; exact h
/-- a new object, shared from now on -/
theorem Wd.alloc (W : Wd K ad Hb H μ) {p : Addr} {o : HO} (h : H p = none) : Wd K ad (upd Hb p o) (upd H p o) μ ∧ Step ad Hb H ad (upd Hb p o) (upd H p o) := by
  have hb := W.base_none h
  refine ⟨⟨W.len, fun a u e => ?_, fun j a c ha hc => ?_, W.nd, fun a ha => upd_trk (W.trk a ha)⟩, ⟨Ex.new hb, ⟨[], by simp⟩, fun _ z => .inl z, fun a u _ e => .inl (by rw [upd_ne (ne_of_none e h)]; exact e), fun a u _ e _ n => ?_, fun a u q _ e => by rw [upd_ne (ne_of_none e h)]; exact e⟩⟩
  · by_cases ea : a = p
    · subst ea
      rw [upd_same] at e
      cases e
      exact Std.of upd_same
    · rw [upd_ne ea] at e
      exact (W.inc a u e).keep (upd_ne ea)
  · obtain ⟨h1, h2⟩ := W.off j a c ha hc
    obtain ⟨o', h3, _⟩ := h2.some
    have ea : a ≠ p := ne_of_none h3 h
    exact ⟨by rw [upd_ne ea]; exact h1, h2.keep (upd_ne ea) fun v x r => repE_mono (Ex.new hb) ⟨[], by simp⟩ r⟩
  · rw [upd_ne (ne_of_none e h)]
    exact n
/-- a new object, a cell -/
theorem Wd.cell (W : Wd K ad Hb H μ) {p : Addr} {o : HO} {c : Cell} (h : H p = none) (ok : CellOk K (ad ++ [p]) Hb (upd H p o) p c) :
    Wd K (ad ++ [p]) Hb (upd H p o) (μ ++ [some c]) ∧ Step ad Hb H (ad ++ [p]) Hb (upd H p o) := by
  have hb := W.base_none h
  have live : ∀ (j : Nat) (a : Addr) (d : Cell), ad[j]? = some a → μ[j]? = some (some d) → a ≠ p := fun j a d ha hd => by
    obtain ⟨_, h2⟩ := W.off j a d ha hd
    obtain ⟨o', h3, _⟩ := h2.some
    exact ne_of_none h3 h
  have sp : ∀ (j : Nat) (a : Addr) (d : Cell), (ad ++ [p])[j]? = some a → (μ ++ [some c])[j]? = some (some d) → (ad[j]? = some a ∧ μ[j]? = some (some d)) ∨ (j = ad.length ∧ a = p ∧ d = c) := fun j a d ha hd => by
    by_cases hj : j < ad.length
    · rw [List.getElem?_append_left hj] at ha
      rw [List.getElem?_append_left (by rw [← W.len]; exact hj)] at hd
      exact .inl ⟨ha, hd⟩
    · have hj2 : j = ad.length := by
        have := (List.getElem?_eq_some_iff.mp ha).1
        rw [List.length_append, List.length_singleton] at this
        omega
      subst hj2
      rw [List.getElem?_append_right (Nat.le_refl _)] at ha
      rw [W.len, List.getElem?_append_right (Nat.le_refl _)] at hd
      simp at ha hd
      exact .inr ⟨rfl, ha.symm, hd.symm⟩
  refine ⟨⟨by simp [W.len], fun a u e => ?_, fun j a d ha hd => ?_, fun i j a d e hi hj hd he => ?_, fun a ha => ?_⟩, ⟨Ex.refl _, ⟨[p], rfl⟩, fun a z => ?_, fun a u _ e => .inl (by rw [upd_ne (ne_of_none e h)]; exact e), fun a u _ _ _ n => n, fun a u q _ e => by rw [upd_ne (ne_of_none e h)]; exact e⟩⟩
  · have ea : a ≠ p := by
      rintro rfl
      rw [hb] at e
      cases e
    exact (W.inc a u e).keep (upd_ne ea)
  · rcases sp j a d ha hd with ⟨h1, h2⟩ | ⟨_, rfl, rfl⟩
    · obtain ⟨h3, h4⟩ := W.off j a d h1 h2
      exact ⟨h3, h4.keep (upd_ne (live j a d h1 h2)) fun v x r => repE_mono (Ex.refl _) ⟨[p], rfl⟩ r⟩
    · exact ⟨hb, ok⟩
  · rcases sp i a d hi hd with ⟨h1, h2⟩ | ⟨h1, h2, h3⟩
    · rcases sp j a e hj he with ⟨h4, h5⟩ | ⟨h4, h5, h6⟩
      · exact W.nd i j a d e h1 h4 h2 h5
      · exact absurd h5 (live i a d h1 h2)
    · rcases sp j a e hj he with ⟨h4, h5⟩ | ⟨h4, h5, h6⟩
      · exact absurd h2 (live j a e h4 h5)
      · omega
  · rcases List.mem_append.mp ha with z | z
    · exact upd_trk (W.trk a z)
    · have : a = p := by simpa using z
      subst this
      rw [upd_same]
      exact fun z => nomatch z
  · rcases List.mem_append.mp z with z | z
    · exact .inl z
    · have : a = p := by simpa using z
      subst this
      exact .inr h
/-- a cell's object is changed -/
theorem Wd.put (W : Wd K ad Hb H μ) {j : Nat} {p : Addr} {o : HO} {c d : Cell} (hj : ad[j]? = some p) (hc : μ[j]? = some (some c)) (ok : CellOk K ad Hb (upd H p o) p d) :
    Wd K ad Hb (upd H p o) (μ.set j (some d)) ∧ Step ad Hb H ad Hb (upd H p o) := by
  obtain ⟨h1, h2⟩ := W.off j p c hj hc
  have hl : j < μ.length := (List.getElem?_eq_some_iff.mp hc).1
  have sp : ∀ (i : Nat) (a : Addr) (e : Cell), ad[i]? = some a → (μ.set j (some d))[i]? = some (some e) → (i ≠ j ∧ a ≠ p ∧ μ[i]? = some (some e)) ∨ (i = j ∧ a = p ∧ e = d) := fun i a e ha he => by
    by_cases hi : j = i
    · subst hi
      rw [List.getElem?_set_self hl] at he
      rw [hj] at ha
      cases ha
      cases he
      exact .inr ⟨rfl, rfl, rfl⟩
    · rw [List.getElem?_set_ne hi] at he
      refine .inl ⟨fun z => hi z.symm, fun z => ?_, he⟩
      subst z
      exact hi (W.nd j i a c e hj ha hc he)
  refine ⟨⟨by rw [List.length_set]; exact W.len, fun a u e => ?_, fun i a e ha he => ?_, fun i k a e f hi hk he hf => ?_, fun a ha => upd_trk (W.trk a ha)⟩, ⟨Ex.refl _, ⟨[], by simp⟩, fun _ z => .inl z, fun a u hn e => .inl ?_, fun a u _ _ _ n => n, fun a u q hb e => by
    have ea : a ≠ p := by
      rintro rfl
      rw [h1] at hb
      cases hb
    rw [upd_ne ea]
    exact e⟩⟩
  · have ea : a ≠ p := by
      rintro rfl
      rw [h1] at e
      cases e
    exact (W.inc a u e).keep (upd_ne ea)
  · rcases sp i a e ha he with ⟨_, na, h3⟩ | ⟨rfl, rfl, rfl⟩
    · obtain ⟨h4, h5⟩ := W.off i a e ha h3
      exact ⟨h4, h5.keep (upd_ne na) fun _ _ r => r⟩
    · exact ⟨h1, ok⟩
  · rcases sp i a e hi he with ⟨_, na, h3⟩ | ⟨h3, h4, _⟩
    · rcases sp k a f hk hf with ⟨_, _, h5⟩ | ⟨_, h5, _⟩
      · exact W.nd i k a e f hi hk h3 h5
      · exact absurd h5 na
    · rcases sp k a f hk hf with ⟨_, na, _⟩ | ⟨h5, _, _⟩
      · exact absurd h4 na
      · exact h3.trans h5.symm
  · have ea : a ≠ p := by
      rintro rfl
      exact hn (List.mem_of_getElem? hj)
    rw [upd_ne ea]
    exact e
/-- a tuple of the heap joins the base -/
theorem Wd.join (W : Wd K ad Hb H μ) {p : Addr} {vs : List V} (h : H p = some (.tup vs)) : ∃ Hb', Hb' p = some (.tup vs) ∧ Wd K ad Hb' H μ ∧ Step ad Hb H ad Hb' H := by
  cases q : Hb p with
  | some u =>
    have z := W.inc p u q
    have e : u = .tup vs := by
      cases u <;> (simp only [Std, Rd] at z; rw [h] at z; first | (cases z; rfl) | (rcases z with z | ⟨_, z⟩ <;> cases z; done) | (cases z; done))
    subst e
    exact ⟨Hb, q, W, Step.refl _ _ _⟩
  | none =>
    refine ⟨upd Hb p (.tup vs), upd_same, ⟨W.len, fun a u e => ?_, fun j a c ha hc => ?_, W.nd, W.trk⟩, ⟨Ex.new q, ⟨[], by simp⟩, fun _ z => .inl z, fun _ _ _ e => .inl e, fun a u _ e t n => ?_, fun _ _ _ _ e => e⟩⟩
    · by_cases ea : a = p
      · subst ea
        rw [upd_same] at e
        cases e
        exact h
      · rw [upd_ne ea] at e
        exact W.inc a u e
    · obtain ⟨h1, h2⟩ := W.off j a c ha hc
      obtain ⟨o', h3, h4⟩ := h2.some
      have ea : a ≠ p := by
        rintro rfl
        rw [h] at h3
        cases h3
        cases h4
      exact ⟨by rw [upd_ne ea]; exact h1, h2.keep rfl fun v x r => repE_mono (Ex.new q) ⟨[], by simp⟩ r⟩
    · have ea : a ≠ p := by
        rintro rfl
        rw [h] at e
        cases e
        cases t
      rw [upd_ne ea]
      exact n
/-- what is read of the base -/
theorem Wd.tup (W : Wd K ad Hb H μ) {p : Addr} {vs : List V} (h : Hb p = some (.tup vs)) : H p = some (.tup vs) := W.inc p _ h
theorem Wd.sqL (W : Wd K ad Hb H μ) {p : Addr} {vs : List V} (h : SqL K Hb p vs) : SqL K H p vs := by
  rcases h with (h | ⟨o, h⟩) | h
  · exact .inl (.inl (W.inc p _ h))
  · exact .inl (.inr ⟨o, W.inc p _ h⟩)
  · exact .inr h
theorem Wd.ins (W : Wd K ad Hb H μ) {p C dx : Addr} {fs : List (Str × V)} (h : Hb p = some (.ins C dx fs)) : H p = some (.ins C dx fs) := W.inc p _ h
end

/-! ### expressions -/
section
variable {X : Cx} {a b e o : Expr} {es : List Expr} {ρ : Rho} {μ : Mu} {Q : E → Mu → Prop} {pos apos cpos : Pos}
theorem tep_name (i : Nat) {x : Str} {z : E} (hN : X.N[i]? = some x) (hv : Vis X.env.scope x) (hx : ρ[i]? = some (some z)) (q : Q z μ) (hd : (x == ("__debug__" : Str)) = false := by decide) (hcd : (x == ("__classdict__" : Str)) = false := by decide) : TEP X (.Name x pos) ρ μ Q := fun ad Hb H σ W N Q' g => by
  obtain ⟨v, h1, h2⟩ := N.2 i z hx
  exact pe_go (pe_var hN hv hd hcd) ⟨v, h1, g.now W h2 q⟩
theorem tep_int {i : Int} {j} (q : Q (.sh (.int i)) μ) : TEP X (.Constant (.int i) j pos) ρ μ Q := fun ad Hb H σ W N Q' g => pe_go pe_int (g.now W (x := .sh (.int i)) (.int i) q)
theorem tep_bl {i : Bool} {j} (q : Q (.sh (.bl i)) μ) : TEP X (.Constant (.bool i) j pos) ρ μ Q := fun ad Hb H σ W N Q' g => pe_go pe_bl (g.now W (x := .sh (.bl i)) (.bl i) q)
theorem tep_non {j} (q : Q (.sh .non) μ) : TEP X (.Constant .none j pos) ρ μ Q := fun ad Hb H σ W N Q' g => pe_go pe_non (g.now W (x := .sh .non) .non q)
theorem tep_str {i : Str} {j} (q : Q (.sh (.str i)) μ) : TEP X (.Constant (.str i) j pos) ρ μ Q := fun ad Hb H σ W N Q' g => pe_go pe_str (g.now W (x := .sh (.str i)) (.str i) q)
theorem tep_fn {x : Str} {f : Addr} (hg : Gl X x) (hm : X.mg x = some (.ref f)) (q : Q (.sh (.fn f)) μ) (hd : (x == ("__debug__" : Str)) = false := by decide) : TEP X (.Name x pos) ρ μ Q := fun ad Hb H σ W N Q' g =>
  pe_go (pe_glob hg hm (v := .ref f) rfl hd) (g.now W (x := .sh (.fn f)) (.fn f) q)
theorem tep_ty {x : Str} {T : String} (hg : Gl X x) (hm : X.mg x = none) (hv : bootBuiltins x = some (.type T)) (q : Q (.sh (.ty T)) μ) (hn : x ≠ "__name__" := by decide) (hd : (x == ("__debug__" : Str)) = false := by decide) : TEP X (.Name x pos) ρ μ Q := fun ad Hb H σ W N Q' g =>
  pe_go (pe_bltn hg hm hv (v := .ty T) rfl hn hd) (g.now W (x := .sh (.ty T)) (.ty T) q)
theorem tep_op {op : Operator} {r : R2} (ho : OpR X (binaryOp op) r) (h : TEP X a ρ μ fun x μ1 => TEP X b ρ μ1 fun y μ2 => V2 X.K r x y μ2 Q) : TEP X (.BinOp a op b pos) ρ μ Q := fun ad Hb H σ W N Q' g => by
  refine pe_go (pe_op ho pe_self pe_self) (h ad Hb H σ W N _ fun v x μ1 ad1 Hb1 H1 hx s1 W1 r1 => hx ad1 Hb1 H1 σ W1 (N.step s1) _ fun w y μ2 ad2 Hb2 H2 hy s2 W2 r2 => ?_)
  exact hy ad2 Hb2 H2 v w W2 (RepE.step s2 r1) r2 _ ((g.after s1).after s2)
theorem tep_cmp {op : CmpOp} {r : R2} (ho : OpR X (compareOp op) r) (hm : behindInMarks op b = false) (h : TEP X a ρ μ fun x μ1 => TEP X b ρ μ1 fun y μ2 => V2 X.K r x y μ2 Q) : TEP X (.Compare a [op] [b] pos) ρ μ Q := fun ad Hb H σ W N Q' g => by
  refine pe_go (pe_cmpR ho pe_self pe_self hm) (h ad Hb H σ W N _ fun v x μ1 ad1 Hb1 H1 hx s1 W1 r1 => hx ad1 Hb1 H1 σ W1 (N.step s1) _ fun w y μ2 ad2 Hb2 H2 hy s2 W2 r2 => ?_)
  exact hy ad2 Hb2 H2 v w W2 (RepE.step s2 r1) r2 _ ((g.after s1).after s2)
theorem tep_un {op : UnaryOp} {r : V → Hp → VK → Prop} (ho : UnR X (unaryOp op) r) (h : TEP X a ρ μ fun x μ1 => V1 X.K r x μ1 Q) : TEP X (.UnaryOp op a pos) ρ μ Q := fun ad Hb H σ W N Q' g =>
  pe_go (pe_un ho pe_self) (h ad Hb H σ W N _ fun v x μ1 ad1 Hb1 H1 hx s1 W1 r1 => hx ad1 Hb1 H1 v W1 r1 _ (g.after s1))
/-- the argument lists -/
theorem tap_nil {Q : List E → Mu → Prop} (q : Q [] μ) : TAP X [] ρ μ Q := fun ad Hb H σ W N Q' g => pa_go pa_nil (g [] [] μ ad Hb H q (Step.refl _ _ _) W .nil)
theorem tap_cons {Q : List E → Mu → Prop} (h : TEP X e ρ μ fun x μ1 => TAP X es ρ μ1 fun xs μ2 => Q (x :: xs) μ2) (hs : starEach (e :: es) X.env = (false, eval e X.env) :: starEach es X.env := by rfl) : TAP X (e :: es) ρ μ Q := fun ad Hb H σ W N Q' g => by
  refine pa_go (pa_cons pe_self pa_self hs) (h ad Hb H σ W N _ fun v x μ1 ad1 Hb1 H1 hx s1 W1 r1 => hx ad1 Hb1 H1 σ W1 (N.step s1) _ fun vs xs μ2 ad2 Hb2 H2 hq s2 W2 r2 => ?_)
  exact g (v :: vs) (x :: xs) μ2 ad2 Hb2 H2 hq (s1.trans s2) W2 (.cons (RepE.step s2 r1) r2)
end
end PV

/-! Pure expressions: what they yield, whatever follows. -/
namespace PV
open PySem PySem.Spec PyProof.Rows L2

/-- e yields x, and no cell changes -/
def EV (X : Cx) (e : Expr) (ρ : Rho) (μ : Mu) (x : E) : Prop := ∀ Q : E → Mu → Prop, Q x μ → TEP X e ρ μ Q
def ET (X : Cx) (e : Expr) (ρ : Rho) (μ : Mu) (b : Bool) : Prop := ∀ Q : Bool → Mu → Prop, Q b μ → TTP X e ρ μ Q
def EA (X : Cx) (es : List Expr) (ρ : Rho) (μ : Mu) (xs : List E) : Prop := ∀ Q : List E → Mu → Prop, Q xs μ → TAP X es ρ μ Q
theorem EV.is {X : Cx} {e : Expr} {ρ : Rho} {μ : Mu} {x y : E} (h : EV X e ρ μ x) (q : x = y) : EV X e ρ μ y := q ▸ h
theorem ET.is {X : Cx} {e : Expr} {ρ : Rho} {μ : Mu} {x y : Bool} (h : ET X e ρ μ x) (q : x = y) : ET X e ρ μ y := q ▸ h

/-! ### the built-ins that a module leaves alone -/
structure Bl (mg : Str → Option Value) : Prop where
  len : mg "len" = none
  list : mg "list" = none
  tuple : mg "tuple" = none
  range : mg "range" = none
  enumerate : mg "enumerate" = none
  zip : mg "zip" = none
  sorted : mg "sorted" = none
  max : mg "max" = none
  min : mg "min" = none
  sum : mg "sum" = none
  all : mg "all" = none
  any : mg "any" = none
  isinstance : mg "isinstance" = none
  int : mg "int" = none
  bool : mg "bool" = none
  dict : mg "dict" = none
  repr : mg "repr" = none

section
variable {X : Cx} {a b c e o : Expr} {es rest : List Expr} {ρ : Rho} {μ : Mu} {Q : E → Mu → Prop} {pos apos cpos : Pos} {x y z : E}
theorem ev_name (i : Nat) {x : Str} {z : E} (hx : ρ[i]? = some (some z) := by rfl) (hN : X.N[i]? = some x := by rfl) (hv : Vis X.env.scope x := by first | exact Or.inl rfl | exact Or.inr (Or.inl rfl) | exact Or.inr (Or.inr rfl))
    (hd : (x == ("__debug__" : Str)) = false := by decide) (hcd : (x == ("__classdict__" : Str)) = false := by decide) : EV X (.Name x pos) ρ μ z := fun Q q => tep_name i hN hv hx q hd hcd
theorem ev_int {i : Int} {j} : EV X (.Constant (.int i) j pos) ρ μ (.sh (.int i)) := fun Q q => tep_int q
theorem ev_bl {i : Bool} {j} : EV X (.Constant (.bool i) j pos) ρ μ (.sh (.bl i)) := fun Q q => tep_bl q
theorem ev_non {j} : EV X (.Constant .none j pos) ρ μ (.sh .non) := fun Q q => tep_non q
theorem ev_str {i : Str} {j} : EV X (.Constant (.str i) j pos) ρ μ (.sh (.str i)) := fun Q q => tep_str q
theorem ev_fn {x : Str} {f : Addr} (hm : X.mg x = some (.ref f)) (hg : Gl X x := by rfl) (hd : (x == ("__debug__" : Str)) = false := by decide) : EV X (.Name x pos) ρ μ (.sh (.fn f)) := fun Q q => tep_fn hg hm q hd
theorem ev_ty {x : Str} {T : String} (hm : X.mg x = none) (hv : bootBuiltins x = some (.type T)) (hg : Gl X x := by rfl) (hn : x ≠ "__name__" := by decide) (hd : (x == ("__debug__" : Str)) = false := by decide) : EV X (.Name x pos) ρ μ (.sh (.ty T)) := fun Q q => tep_ty hg hm hv q hn hd

/-! ### operators -/
theorem v2_i {K : PySem.W.Frag} {C : Int → Int → Prop} {g : Int → Int → P} {g' : Int → Int → V} {i j : Int} (hg : ∀ H, Rep K H (g' i j) (g i j)) (hc : C i j) (q : Q (.sh (g i j)) μ) : V2 K (rI C g') (.sh (.int i)) (.sh (.int j)) μ Q := fun ad Hb H v w W r1 r2 Q' k => by
  obtain rfl := Rep.int_inv r1
  obtain rfl := Rep.int_inv r2
  exact ⟨i, j, rfl, rfl, hc, k.now W (x := .sh (g i j)) (hg _) q⟩
theorem v2_i0 {K : PySem.W.Frag} {g : Int → Int → P} {g' : Int → Int → V} {i j : Int} (hg : ∀ H, Rep K H (g' i j) (g i j)) (q : Q (.sh (g i j)) μ) : V2 K (rI0 g') (.sh (.int i)) (.sh (.int j)) μ Q := fun ad Hb H v w W r1 r2 Q' k => by
  obtain rfl := Rep.int_inv r1
  obtain rfl := Rep.int_inv r2
  exact ⟨i, j, rfl, rfl, k.now W (x := .sh (g i j)) (hg _) q⟩
theorem tep_add (h : TEP X a ρ μ fun x μ1 => TEP X b ρ μ1 fun y μ2 => ∃ i j, x = .sh (.int i) ∧ y = .sh (.int j) ∧ Q (.sh (.int (i + j))) μ2) : TEP X (.BinOp a .Add b pos) ρ μ Q := by
  refine tep_op op_add ?_
  intro ad Hb H σ W N Q' g
  refine h ad Hb H σ W N Q' fun v x μ1 ad1 Hb1 H1 hx s W1 r => g v x μ1 ad1 Hb1 H1 ?_ s W1 r
  intro ad Hb H σ W N Q' g
  refine hx ad Hb H σ W N Q' fun v x μ1 ad1 Hb1 H1 hx s W1 r => g v x μ1 ad1 Hb1 H1 ?_ s W1 r
  obtain ⟨i, j, rfl, rfl, q⟩ := hx
  exact v2_i0 (g := fun i j => .int (i + j)) (fun _ => .int _) q
/-- two-place operations on what two pure expressions yield -/
theorem ev_op {op : Operator} {r : R2} (ho : OpR X (binaryOp op) r) (ha : EV X a ρ μ x) (hb : EV X b ρ μ y) (h : ∀ Q : E → Mu → Prop, Q z μ → V2 X.K r x y μ Q) : EV X (.BinOp a op b pos) ρ μ z := fun Q q => tep_op ho (ha _ (hb _ (h Q q)))
theorem ev_cmp {op : CmpOp} {r : R2} (ho : OpR X (compareOp op) r) (hm : behindInMarks op b = false) (ha : EV X a ρ μ x) (hb : EV X b ρ μ y) (h : ∀ Q : E → Mu → Prop, Q z μ → V2 X.K r x y μ Q) : EV X (.Compare a [op] [b] pos) ρ μ z := fun Q q => tep_cmp ho hm (ha _ (hb _ (h Q q)))
section
variable {i j : Int}
theorem ev_add (ha : EV X a ρ μ (.sh (.int i))) (hb : EV X b ρ μ (.sh (.int j))) : EV X (.BinOp a .Add b pos) ρ μ (.sh (.int (i + j))) := ev_op op_add ha hb fun Q q => v2_i0 (g := fun i j => .int (i + j)) (fun _ => .int _) q
theorem ev_sub (ha : EV X a ρ μ (.sh (.int i))) (hb : EV X b ρ μ (.sh (.int j))) : EV X (.BinOp a .Sub b pos) ρ μ (.sh (.int (i - j))) := ev_op op_sub ha hb fun Q q => v2_i0 (g := fun i j => .int (i - j)) (fun _ => .int _) q
theorem ev_mul (ha : EV X a ρ μ (.sh (.int i))) (hb : EV X b ρ μ (.sh (.int j))) (hc : CMul i j) : EV X (.BinOp a .Mult b pos) ρ μ (.sh (.int (i * j))) := ev_op op_mul ha hb fun Q q => v2_i (g := fun i j => .int (i * j)) (fun _ => .int _) hc q
theorem ev_mod (ha : EV X a ρ μ (.sh (.int i))) (hb : EV X b ρ μ (.sh (.int j))) (hc : 0 < j) : EV X (.BinOp a .Mod b pos) ρ μ (.sh (.int (i % j))) := ev_op op_mod ha hb fun Q q => v2_i (g := fun i j => .int (i % j)) (fun _ => .int _) hc q
theorem ev_fdiv (ha : EV X a ρ μ (.sh (.int i))) (hb : EV X b ρ μ (.sh (.int j))) (hc : CDiv i j) : EV X (.BinOp a .FloorDiv b pos) ρ μ (.sh (.int (i / j))) := ev_op op_fdiv ha hb fun Q q => v2_i (g := fun i j => .int (i / j)) (fun _ => .int _) hc q
theorem ev_pow (ha : EV X a ρ μ (.sh (.int i))) (hb : EV X b ρ μ (.sh (.int j))) (hc : CPow i j) : EV X (.BinOp a .Pow b pos) ρ μ (.sh (.int (i ^ j.toNat))) := ev_op op_pow ha hb fun Q q => v2_i (g := fun i j => .int (i ^ j.toNat)) (fun _ => .int _) hc q
theorem ev_lt (ha : EV X a ρ μ (.sh (.int i))) (hb : EV X b ρ μ (.sh (.int j))) : EV X (.Compare a [.Lt] [b] pos) ρ μ (.sh (.bl (decide (i < j)))) := ev_cmp op_lt (nomark _) ha hb fun Q q => v2_i0 (g := fun i j => .bl (decide (i < j))) (fun _ => .bl _) q
theorem ev_le (ha : EV X a ρ μ (.sh (.int i))) (hb : EV X b ρ μ (.sh (.int j))) : EV X (.Compare a [.LtE] [b] pos) ρ μ (.sh (.bl (decide (i ≤ j)))) := ev_cmp op_le (nomark _) ha hb fun Q q => v2_i0 (g := fun i j => .bl (decide (i ≤ j))) (fun _ => .bl _) q
theorem ev_gt (ha : EV X a ρ μ (.sh (.int i))) (hb : EV X b ρ μ (.sh (.int j))) : EV X (.Compare a [.Gt] [b] pos) ρ μ (.sh (.bl (decide (j < i)))) := ev_cmp op_gt (nomark _) ha hb fun Q q => v2_i0 (g := fun i j => .bl (decide (j < i))) (fun _ => .bl _) q
theorem ev_ge (ha : EV X a ρ μ (.sh (.int i))) (hb : EV X b ρ μ (.sh (.int j))) : EV X (.Compare a [.GtE] [b] pos) ρ μ (.sh (.bl (decide (j ≤ i)))) := ev_cmp op_ge (nomark _) ha hb fun Q q => v2_i0 (g := fun i j => .bl (decide (j ≤ i))) (fun _ => .bl _) q
theorem ev_eqI (ha : EV X a ρ μ (.sh (.int i))) (hb : EV X b ρ μ (.sh (.int j))) : EV X (.Compare a [.Eq] [b] pos) ρ μ (.sh (.bl (decide (i = j)))) := ev_cmp op_eq (nomark _) ha hb fun Q q ad Hb H v w W r1 r2 Q' k => by
  obtain rfl := Rep.int_inv r1
  obtain rfl := Rep.int_inv r2
  refine ⟨rfl, ?_⟩
  rw [dec_int, Bool.beq_eq_decide_eq]
  exact k.now W (x := .sh (.bl (decide (i = j)))) (.bl _) q
theorem ev_neI (ha : EV X a ρ μ (.sh (.int i))) (hb : EV X b ρ μ (.sh (.int j))) : EV X (.Compare a [.NotEq] [b] pos) ρ μ (.sh (.bl (!decide (i = j)))) := ev_cmp op_ne (nomark _) ha hb fun Q q ad Hb H v w W r1 r2 Q' k => by
  obtain rfl := Rep.int_inv r1
  obtain rfl := Rep.int_inv r2
  refine ⟨rfl, ?_⟩
  rw [dec_int, Bool.beq_eq_decide_eq]
  exact k.now W (x := .sh (.bl (!decide (i = j)))) (.bl _) q
theorem ev_neg (ha : EV X a ρ μ (.sh (.int i))) : EV X (.UnaryOp .USub a pos) ρ μ (.sh (.int (-i))) := fun Q q => tep_un un_neg (ha _ fun ad Hb H v W r Q' k => by
  obtain rfl := Rep.int_inv r
  exact ⟨i, rfl, k.now W (x := .sh (.int (-i))) (.int _) q⟩)
theorem ev_eqB {i j : Bool} (ha : EV X a ρ μ (.sh (.bl i))) (hb : EV X b ρ μ (.sh (.bl j))) : EV X (.Compare a [.Eq] [b] pos) ρ μ (.sh (.bl (decide (i = j)))) := ev_cmp op_eq (nomark _) ha hb fun Q q ad Hb H v w W r1 r2 Q' k => by
  obtain rfl := Rep.bl_inv r1
  obtain rfl := Rep.bl_inv r2
  refine ⟨rfl, ?_⟩
  rw [dec_bl, Bool.beq_eq_decide_eq]
  exact k.now W (x := .sh (.bl (decide (i = j)))) (.bl _) q
theorem ev_neB {i j : Bool} (ha : EV X a ρ μ (.sh (.bl i))) (hb : EV X b ρ μ (.sh (.bl j))) : EV X (.Compare a [.NotEq] [b] pos) ρ μ (.sh (.bl (!decide (i = j)))) := ev_cmp op_ne (nomark _) ha hb fun Q q ad Hb H v w W r1 r2 Q' k => by
  obtain rfl := Rep.bl_inv r1
  obtain rfl := Rep.bl_inv r2
  refine ⟨rfl, ?_⟩
  rw [dec_bl, Bool.beq_eq_decide_eq]
  exact k.now W (x := .sh (.bl (!decide (i = j)))) (.bl _) q
end
/-- is it None? -/
def isN : E → Bool
  | .sh .non => true
  | _ => false
theorem isN_rep {K : PySem.W.Frag} {ad : List Addr} {H : Hp} {v : V} {x : E} (r : RepE K ad H v x) : decide (v = .non) = isN x := by
  cases x with
  | pt j => obtain ⟨a, _, rfl⟩ := r; rfl
  | tp xs => obtain ⟨a, _, rfl, _⟩ := r; rfl
  | sh x => cases (show Rep K H v x from r) <;> rfl
theorem ev_isN {j pos'} (ha : EV X a ρ μ x) : EV X (.Compare a [.Is] [.Constant .none j pos'] pos) ρ μ (.sh (.bl (isN x))) := fun Q q ad Hb H σ W N Q' g => by
  refine pe_go (pe_cmp (pc_isN pe_self) (by rfl)) (ha (fun y μ1 => y = x ∧ μ1 = μ) ⟨rfl, rfl⟩ ad Hb H σ W N _ ?_)
  rintro v y μ1 ad1 Hb1 H1 ⟨rfl, rfl⟩ s W1 r
  rw [isN_rep r]
  exact g _ (.sh (.bl (isN y))) _ _ _ _ q s W1 (.bl _)
theorem ev_notN {j pos'} (ha : EV X a ρ μ x) : EV X (.Compare a [.IsNot] [.Constant .none j pos'] pos) ρ μ (.sh (.bl (!isN x))) := fun Q q ad Hb H σ W N Q' g => by
  refine pe_go (pe_cmp (pc_notN pe_self) (by rfl)) (ha (fun y μ1 => y = x ∧ μ1 = μ) ⟨rfl, rfl⟩ ad Hb H σ W N _ ?_)
  rintro v y μ1 ad1 Hb1 H1 ⟨rfl, rfl⟩ s W1 r
  rw [isN_rep r]
  exact g _ (.sh (.bl (!isN y))) _ _ _ _ q s W1 (.bl _)

/-! ### and, or, not, if -/
theorem tep_one {op} (h : TEP X a ρ μ Q) : TEP X (.BoolOp op [a] pos) ρ μ Q := fun ad Hb H σ W N Q' g => pe_go (pe_one pe_self) (h ad Hb H σ W N Q' g)
theorem tep_and (h : TEP X a ρ μ fun x μ1 => ∃ c, x = .sh (.bl c) ∧ if c = true then TEP X (.BoolOp .And (b :: rest) pos) ρ μ1 Q else Q (.sh (.bl false)) μ1) : TEP X (.BoolOp .And (a :: b :: rest) pos) ρ μ Q := fun ad Hb H σ W N Q' g => by
  refine pe_go (pe_and pe_self pe_self) (h ad Hb H σ W N _ ?_)
  rintro v x μ1 ad1 Hb1 H1 ⟨c, rfl, q⟩ s W1 r
  obtain rfl := Rep.bl_inv r
  refine ⟨c, rfl, ?_⟩
  cases c with
  | true => exact q ad1 Hb1 H1 σ W1 (N.step s) Q' (g.after s)
  | false => exact g _ (.sh (.bl false)) _ _ _ _ q s W1 (.bl false)
theorem tep_or (h : TEP X a ρ μ fun x μ1 => ∃ c, x = .sh (.bl c) ∧ if c = true then Q (.sh (.bl true)) μ1 else TEP X (.BoolOp .Or (b :: rest) pos) ρ μ1 Q) : TEP X (.BoolOp .Or (a :: b :: rest) pos) ρ μ Q := fun ad Hb H σ W N Q' g => by
  refine pe_go (pe_or pe_self pe_self) (h ad Hb H σ W N _ ?_)
  rintro v x μ1 ad1 Hb1 H1 ⟨c, rfl, q⟩ s W1 r
  obtain rfl := Rep.bl_inv r
  refine ⟨c, rfl, ?_⟩
  cases c with
  | true => exact g _ (.sh (.bl true)) _ _ _ _ q s W1 (.bl true)
  | false => exact q ad1 Hb1 H1 σ W1 (N.step s) Q' (g.after s)
theorem tep_not (h : TEP X a ρ μ fun x μ1 => ∃ c, x = .sh (.bl c) ∧ Q (.sh (.bl (!c))) μ1) : TEP X (.UnaryOp .Not a pos) ρ μ Q := fun ad Hb H σ W N Q' g => by
  refine pe_go (pe_not pe_self) (h ad Hb H σ W N _ ?_)
  rintro v x μ1 ad1 Hb1 H1 ⟨c, rfl, q⟩ s W1 r
  obtain rfl := Rep.bl_inv r
  exact ⟨c, rfl, g _ (.sh (.bl (!c))) _ _ _ _ q s W1 (.bl _)⟩
theorem ev_one {op} (h : EV X a ρ μ x) : EV X (.BoolOp op [a] pos) ρ μ x := fun Q q => tep_one (h Q q)
theorem ev_and {p r : Bool} (ha : EV X a ρ μ (.sh (.bl p))) (hb : p = true → EV X (.BoolOp .And (b :: rest) pos) ρ μ (.sh (.bl r))) : EV X (.BoolOp .And (a :: b :: rest) pos) ρ μ (.sh (.bl (p && r))) := fun Q q => tep_and (ha _ ⟨p, rfl, by
  cases p with
  | true => exact hb rfl Q q
  | false => exact q⟩)
theorem ev_or {p r : Bool} (ha : EV X a ρ μ (.sh (.bl p))) (hb : p = false → EV X (.BoolOp .Or (b :: rest) pos) ρ μ (.sh (.bl r))) : EV X (.BoolOp .Or (a :: b :: rest) pos) ρ μ (.sh (.bl (p || r))) := fun Q q => tep_or (ha _ ⟨p, rfl, by
  cases p with
  | true => exact q
  | false => exact hb rfl Q q⟩)
theorem ev_not {p : Bool} (ha : EV X a ρ μ (.sh (.bl p))) : EV X (.UnaryOp .Not a pos) ρ μ (.sh (.bl (!p))) := fun Q q => tep_not (ha _ ⟨p, rfl, q⟩)

/-! ### tests -/
theorem ttp_val {Q : Bool → Mu → Prop} (h : TEP X e ρ μ fun x μ1 => ∃ c, x = .sh (.bl c) ∧ Q c μ1) (he : ∀ whole, isTrue e X.env whole = (do let v ← whole; standAt e.pos; holding [v] (truthy v)) := by intro _; rfl) : TTP X e ρ μ Q := fun ad Hb H σ W N Q' g => by
  refine pt_go (pt_val pe_self he) (h ad Hb H σ W N _ ?_)
  rintro v x μ1 ad1 Hb1 H1 ⟨c, rfl, q⟩ s W1 r
  obtain rfl := Rep.bl_inv r
  exact ⟨c, rfl, g c _ _ _ _ q s W1⟩
theorem et_val {p : Bool} (h : EV X e ρ μ (.sh (.bl p))) (he : ∀ whole, isTrue e X.env whole = (do let v ← whole; standAt e.pos; holding [v] (truthy v)) := by intro _; rfl) : ET X e ρ μ p := fun Q q => ttp_val (h _ ⟨p, rfl, q⟩) he
theorem ttp_cmp {op : CmpOp} {r : R2} {Q : Bool → Mu → Prop} (ho : OpR X (compareOp op) r) (hm : behindInMarks op b = false) (h : TEP X a ρ μ fun x μ1 => TEP X b ρ μ1 fun y μ2 => V2 X.K r x y μ2 fun z μ3 => ∃ c, z = .sh (.bl c) ∧ Q c μ3) : TTP X (.Compare a [op] [b] pos) ρ μ Q := fun ad Hb H σ W N Q' g => by
  refine pt_go (pt_cmpR ho pe_self pe_self hm) (h ad Hb H σ W N _ fun v x μ1 ad1 Hb1 H1 hx s1 W1 r1 => hx ad1 Hb1 H1 σ W1 (N.step s1) _ fun w y μ2 ad2 Hb2 H2 hy s2 W2 r2 => ?_)
  refine hy ad2 Hb2 H2 v w W2 (RepE.step s2 r1) r2 _ ?_
  rintro v3 x3 μ3 ad3 Hb3 H3 ⟨c, rfl, q⟩ s3 W3 r3
  obtain rfl := Rep.bl_inv r3
  exact ⟨c, rfl, g c _ _ _ _ q ((s1.trans s2).trans s3) W3⟩
theorem et_cmp {op : CmpOp} {r : R2} {p : Bool} (ho : OpR X (compareOp op) r) (hm : behindInMarks op b = false) (ha : EV X a ρ μ x) (hb : EV X b ρ μ y) (h : ∀ Q : E → Mu → Prop, Q (.sh (.bl p)) μ → V2 X.K r x y μ Q) : ET X (.Compare a [op] [b] pos) ρ μ p := fun Q q => ttp_cmp ho hm (ha _ (hb _ (h _ ⟨p, rfl, q⟩)))
theorem et_isN {j pos'} (ha : EV X a ρ μ x) : ET X (.Compare a [.Is] [.Constant .none j pos'] pos) ρ μ (isN x) := fun Q q ad Hb H σ W N Q' g => by
  refine pt_go (pt_cmp (pc_isN pe_self) (by rfl)) (ha (fun y μ1 => y = x ∧ μ1 = μ) ⟨rfl, rfl⟩ ad Hb H σ W N _ ?_)
  rintro v y μ1 ad1 Hb1 H1 ⟨rfl, rfl⟩ s W1 r
  rw [isN_rep r]
  exact ⟨_, rfl, g _ _ _ _ _ q s W1⟩
theorem et_notN {j pos'} (ha : EV X a ρ μ x) : ET X (.Compare a [.IsNot] [.Constant .none j pos'] pos) ρ μ (!isN x) := fun Q q ad Hb H σ W N Q' g => by
  refine pt_go (pt_cmp (pc_notN pe_self) (by rfl)) (ha (fun y μ1 => y = x ∧ μ1 = μ) ⟨rfl, rfl⟩ ad Hb H σ W N _ ?_)
  rintro v y μ1 ad1 Hb1 H1 ⟨rfl, rfl⟩ s W1 r
  rw [isN_rep r]
  exact ⟨_, rfl, g _ _ _ _ _ q s W1⟩
def TWP (X : Cx) (e : Expr) (ρ : Rho) (μ : Mu) (Q : Bool → Mu → Prop) : Prop :=
  ∀ (ad : List Addr) (Hb H : Hp) (σ : L2.St), Wd X.K ad Hb H μ → Env X.K ad Hb σ ρ → ∀ Q', GoesT X.K ad Hb H Q Q' → ∀ whole pins s, Inv X pins σ H s → wpAny (model X.prog X.w) X.A (isTrue e X.env whole) (TP X pins σ Q') X.xe s
theorem twp_pw {t : TT} {Q : Bool → Mu → Prop} (h : PW X e t) (k : ∀ (ad : List Addr) (Hb H : Hp) (σ : L2.St), Wd X.K ad Hb H μ → Env X.K ad Hb σ ρ → ∀ Q', GoesT X.K ad Hb H Q Q' → t σ H Q') : TWP X e ρ μ Q := fun ad Hb H σ W N Q' g whole pins s I => h.run whole pins s σ H Q' I (k ad Hb H σ W N Q' g)
def TWV (X : Cx) (e : Expr) : TT := fun σ H Q => ∀ whole pins s, Inv X pins σ H s → wpAny (model X.prog X.w) X.A (isTrue e X.env whole) (TP X pins σ Q) X.xe s
theorem pw_self : PW X e (TWV X e) := ⟨fun whole pins s _ _ _ I h => h whole pins s I⟩
theorem twp_and1 {Q : Bool → Mu → Prop} (h : TTP X a ρ μ Q) : TWP X (.BoolOp .And [a] pos) ρ μ Q := twp_pw (pw_and1 pt_self) h
theorem twp_or1 {Q : Bool → Mu → Prop} (h : TTP X a ρ μ Q) : TWP X (.BoolOp .Or [a] pos) ρ μ Q := twp_pw (pw_or1 pt_self) h
theorem twp_and {Q : Bool → Mu → Prop} (h : TTP X a ρ μ fun c μ1 => if c = true then TWP X (.BoolOp .And (b :: rest) pos) ρ μ1 Q else Q false μ1) : TWP X (.BoolOp .And (a :: b :: rest) pos) ρ μ Q := twp_pw (pw_and pt_self pw_self) fun ad Hb H σ W N Q' g => by
  refine h ad Hb H σ W N _ fun c μ1 ad1 Hb1 H1 q s W1 => ?_
  cases c with
  | true => exact q ad1 Hb1 H1 σ W1 (N.step s) Q' (g.after s)
  | false => exact g false _ _ _ _ q s W1
theorem twp_or {Q : Bool → Mu → Prop} (h : TTP X a ρ μ fun c μ1 => if c = true then Q true μ1 else TWP X (.BoolOp .Or (b :: rest) pos) ρ μ1 Q) : TWP X (.BoolOp .Or (a :: b :: rest) pos) ρ μ Q := twp_pw (pw_or pt_self pw_self) fun ad Hb H σ W N Q' g => by
  refine h ad Hb H σ W N _ fun c μ1 ad1 Hb1 H1 q s W1 => ?_
  cases c with
  | true => exact g true _ _ _ _ q s W1
  | false => exact q ad1 Hb1 H1 σ W1 (N.step s) Q' (g.after s)
theorem TWP.t {Q : Bool → Mu → Prop} (h : TWP X e ρ μ Q) : TTP X e ρ μ Q := fun ad Hb H σ W N Q' g pins s I => h ad Hb H σ W N Q' g _ pins s I
def EW (X : Cx) (e : Expr) (ρ : Rho) (μ : Mu) (b : Bool) : Prop := ∀ Q : Bool → Mu → Prop, Q b μ → TWP X e ρ μ Q
theorem ew_and1 {p : Bool} (h : ET X a ρ μ p) : EW X (.BoolOp .And [a] pos) ρ μ p := fun Q q => twp_and1 (h Q q)
theorem ew_or1 {p : Bool} (h : ET X a ρ μ p) : EW X (.BoolOp .Or [a] pos) ρ μ p := fun Q q => twp_or1 (h Q q)
theorem ew_and {p r : Bool} (ha : ET X a ρ μ p) (hb : p = true → EW X (.BoolOp .And (b :: rest) pos) ρ μ r) : EW X (.BoolOp .And (a :: b :: rest) pos) ρ μ (p && r) := fun Q q => twp_and (ha _ (by
  cases p with
  | true => exact hb rfl Q q
  | false => exact q))
theorem ew_or {p r : Bool} (ha : ET X a ρ μ p) (hb : p = false → EW X (.BoolOp .Or (b :: rest) pos) ρ μ r) : EW X (.BoolOp .Or (a :: b :: rest) pos) ρ μ (p || r) := fun Q q => twp_or (ha _ (by
  cases p with
  | true => exact q
  | false => exact hb rfl Q q))
theorem et_w {p : Bool} (h : EW X e ρ μ p) : ET X e ρ μ p := fun Q q => (h Q q).t
theorem ttp_not {Q : Bool → Mu → Prop} (h : TTP X a ρ μ fun c μ1 => Q (!c) μ1) : TTP X (.UnaryOp .Not a pos) ρ μ Q := fun ad Hb H σ W N Q' g => pt_go (pt_not pt_self) (h ad Hb H σ W N _ fun c μ1 ad1 Hb1 H1 q s W1 => g (!c) _ _ _ _ q s W1)
theorem et_not {p : Bool} (h : ET X a ρ μ p) : ET X (.UnaryOp .Not a pos) ρ μ (!p) := fun Q q => ttp_not (h _ q)
theorem tep_if (h : TTP X c ρ μ fun d μ1 => if d = true then TEP X a ρ μ1 Q else TEP X b ρ μ1 Q) : TEP X (.IfExp c a b pos) ρ μ Q := fun ad Hb H σ W N Q' g => by
  refine pe_go (pe_ifExp pt_self pe_self pe_self) (h ad Hb H σ W N _ fun d μ1 ad1 Hb1 H1 q s W1 => ?_)
  cases d with
  | true => exact q ad1 Hb1 H1 σ W1 (N.step s) Q' (g.after s)
  | false => exact q ad1 Hb1 H1 σ W1 (N.step s) Q' (g.after s)
theorem ev_if {d : Bool} (hc : ET X c ρ μ d) (h1 : d = true → EV X a ρ μ x) (h2 : d = false → EV X b ρ μ x) : EV X (.IfExp c a b pos) ρ μ x := fun Q q => tep_if (hc _ (by
  cases d with
  | true => exact h1 rfl Q q
  | false => exact h2 rfl Q q))
section
variable {i j : Int}
theorem et_lt (ha : EV X a ρ μ (.sh (.int i))) (hb : EV X b ρ μ (.sh (.int j))) : ET X (.Compare a [.Lt] [b] pos) ρ μ (decide (i < j)) := et_cmp op_lt (nomark _) ha hb fun Q q => v2_i0 (g := fun i j => .bl (decide (i < j))) (fun _ => .bl _) q
theorem et_le (ha : EV X a ρ μ (.sh (.int i))) (hb : EV X b ρ μ (.sh (.int j))) : ET X (.Compare a [.LtE] [b] pos) ρ μ (decide (i ≤ j)) := et_cmp op_le (nomark _) ha hb fun Q q => v2_i0 (g := fun i j => .bl (decide (i ≤ j))) (fun _ => .bl _) q
theorem et_gt (ha : EV X a ρ μ (.sh (.int i))) (hb : EV X b ρ μ (.sh (.int j))) : ET X (.Compare a [.Gt] [b] pos) ρ μ (decide (j < i)) := et_cmp op_gt (nomark _) ha hb fun Q q => v2_i0 (g := fun i j => .bl (decide (j < i))) (fun _ => .bl _) q
theorem et_ge (ha : EV X a ρ μ (.sh (.int i))) (hb : EV X b ρ μ (.sh (.int j))) : ET X (.Compare a [.GtE] [b] pos) ρ μ (decide (j ≤ i)) := et_cmp op_ge (nomark _) ha hb fun Q q => v2_i0 (g := fun i j => .bl (decide (j ≤ i))) (fun _ => .bl _) q
theorem v2_eqI {K : PySem.W.Frag} (q : Q (.sh (.bl (decide (i = j)))) μ) : V2 K rEq (.sh (.int i)) (.sh (.int j)) μ Q := fun ad Hb H v w W r1 r2 Q' k => by
  obtain rfl := Rep.int_inv r1
  obtain rfl := Rep.int_inv r2
  refine ⟨rfl, ?_⟩
  rw [dec_int, Bool.beq_eq_decide_eq]
  exact k.now W (x := .sh (.bl (decide (i = j)))) (.bl _) q
theorem v2_neI {K : PySem.W.Frag} (q : Q (.sh (.bl (!decide (i = j)))) μ) : V2 K rNe (.sh (.int i)) (.sh (.int j)) μ Q := fun ad Hb H v w W r1 r2 Q' k => by
  obtain rfl := Rep.int_inv r1
  obtain rfl := Rep.int_inv r2
  refine ⟨rfl, ?_⟩
  rw [dec_int, Bool.beq_eq_decide_eq]
  exact k.now W (x := .sh (.bl (!decide (i = j)))) (.bl _) q
theorem et_eqI (ha : EV X a ρ μ (.sh (.int i))) (hb : EV X b ρ μ (.sh (.int j))) : ET X (.Compare a [.Eq] [b] pos) ρ μ (decide (i = j)) := et_cmp op_eq (nomark _) ha hb fun Q q => v2_eqI q
theorem et_neI (ha : EV X a ρ μ (.sh (.int i))) (hb : EV X b ρ μ (.sh (.int j))) : ET X (.Compare a [.NotEq] [b] pos) ρ μ (!decide (i = j)) := et_cmp op_ne (nomark _) ha hb fun Q q => v2_neI q
end
end
end PV

/-! Displays, attributes, subscripts, slices, membership, calls of built-ins and of methods of built-in types. -/
namespace PV
open PySem PySem.Spec PyProof.Rows L2

/-! ### values side by side -/
theorem repEs_sh {K : PySem.W.Frag} {ad : List Addr} {H : Hp} : ∀ {vs : List V} {ys : List P}, RepEs K ad H vs (ys.map E.sh) → RepL K H vs ys
  | _, [], .nil => .nil
  | _, _ :: _, .cons r t => .cons r (repEs_sh t)
theorem repEs_of {K : PySem.W.Frag} {ad : List Addr} {H : Hp} : ∀ {vs : List V} {ys : List P}, RepL K H vs ys → RepEs K ad H vs (ys.map E.sh)
  | _, _, .nil => .nil
  | _, _, .cons r t => .cons r (repEs_of t)
theorem RepL.mono {K : PySem.W.Frag} {H H' : Hp} (x : Ex H H') {vs : List V} {ys : List P} (r : RepL K H vs ys) : RepL K H' vs ys := pd_imp (fun _ _ h => Rep.mono x h) r
theorem ixN_len {α β : Type} {xs : List α} {ys : List β} (h : xs.length = ys.length) (i : Int) : ixN xs.length i = ixN ys.length i := by rw [h]
theorem pd_atI {α β : Type} {F : α → β → Prop} {l₁ : List α} {l₂ : List β} (r : Paired F l₁ l₂) {i : Int} {b : β} (h : atI l₂ i = some b) : ∃ a, atI l₁ i = some a ∧ F a b := by
  unfold atI at h ⊢
  rw [ixN_len r.length i]
  cases e : ixN l₂.length i with
  | none => rw [e] at h; cases h
  | some j =>
    rw [e] at h
    exact pd_left r j b h
theorem pd_lookup {K : PySem.W.Frag} {F : V → P → Prop} : ∀ {fs : List (Str × V)} {gs : List (Str × P)}, Paired (fun p q => p.1 = q.1 ∧ F p.2 q.2) fs gs → ∀ {f : Str} {y : P}, gs.lookup f = some y → ∃ v, fs.lookup f = some v ∧ F v y
  | _, _, .nil, _, _, h => by cases h
  | (k, v) :: fs, (k', y') :: gs, .cons r t, f, y, h => by
    obtain ⟨e, q⟩ := r
    have e : k = k' := e
    subst e
    have q : F v y' := q
    rw [List.lookup_cons] at h ⊢
    cases c : f == k with
    | true =>
      rw [c] at h
      have h : y' = y := Option.some.inj h
      subst h
      exact ⟨v, rfl, q⟩
    | false =>
      rw [c] at h
      exact pd_lookup (K := K) t h

section
variable {X : Cx} {a b c e o : Expr} {es rest : List Expr} {ρ : Rho} {μ : Mu} {Q : E → Mu → Prop} {pos apos cpos p2 : Pos} {x y z : E} {xs ys : List P}
/-! ### argument lists -/
def EAs (X : Cx) (es : List Expr) (ρ : Rho) (μ : Mu) (ys : List P) : Prop := EA X es ρ μ (ys.map .sh)
theorem ea_nil : EA X [] ρ μ [] := fun Q q => tap_nil q
theorem ea_cons {zs : List E} (h : EV X e ρ μ x) (t : EA X es ρ μ zs) (hs : starEach (e :: es) X.env = (false, eval e X.env) :: starEach es X.env := by rfl) : EA X (e :: es) ρ μ (x :: zs) := fun Q q => tap_cons (h _ (t _ q)) hs
theorem eas_nil : EAs X [] ρ μ [] := ea_nil
theorem eas_cons {x : P} (h : EV X e ρ μ (.sh x)) (t : EAs X es ρ μ ys) (hs : starEach (e :: es) X.env = (false, eval e X.env) :: starEach es X.env := by rfl) : EAs X (e :: es) ρ μ (x :: ys) := ea_cons h t hs
/-- *e, e a list or a tuple -/
theorem tap_star {Q : List E → Mu → Prop} {zs : List P} (h : EV X e ρ μ (.sh (.lst zs))) (t : TAP X es ρ μ fun ys μ2 => Q (zs.map .sh ++ ys) μ2) (hs : starEach (.Starred e p2 :: es) X.env = (true, eval e X.env) :: starEach es X.env := by rfl) : TAP X (.Starred e p2 :: es) ρ μ Q := fun ad Hb H σ W N Q' g => by
  refine pa_go (StX.pa_star pe_self pa_self hs) (h (fun y μ1 => y = .sh (.lst zs) ∧ μ1 = μ) ⟨rfl, rfl⟩ ad Hb H σ W N _ ?_)
  rintro v x μ1 ad1 Hb1 H1 ⟨rfl, rfl⟩ s1 W1 r1
  obtain ⟨a, vs, rfl, hq, r⟩ := Rep.lst_inv r1
  refine ⟨a, vs, rfl, .inr (W1.sqL hq), t ad1 Hb1 H1 σ W1 (N.step s1) _ fun ws ys μ2 ad2 Hb2 H2 q s2 W2 r2 => ?_⟩
  exact g _ _ _ _ _ _ q (s1.trans s2) W2 (pd_app (repEs_of (RepL.mono s2.ex r)) r2)
theorem eas_star {zs : List P} (h : EV X e ρ μ (.sh (.lst zs))) (t : EAs X es ρ μ ys) (hs : starEach (.Starred e p2 :: es) X.env = (true, eval e X.env) :: starEach es X.env := by rfl) : EAs X (.Starred e p2 :: es) ρ μ (zs ++ ys) := fun Q q => tap_star h (t _ (by
  rw [List.map_append] at q
  exact q)) hs

/-! ### displays -/
theorem tep_tup {k} (h : TAP X es ρ μ fun zs μ1 => ∃ ys : List P, zs = ys.map .sh ∧ ys.length ≤ 100000 ∧ Q (.sh (.tup ys)) μ1) : TEP X (.Tuple es k pos) ρ μ Q := fun ad Hb H σ W N Q' g => by
  refine pe_go (pe_tup pa_self) (h ad Hb H σ W N _ ?_)
  rintro vs zs μ1 ad1 Hb1 H1 ⟨ys, rfl, l, q⟩ s1 W1 r1
  refine ⟨Nat.le_trans (by rw [r1.length, List.length_map]; exact l) (by decide), fun p hp => ?_⟩
  obtain ⟨W2, s2⟩ := W1.alloc (o := .tup vs) hp
  exact g _ (.sh (.tup ys)) _ _ _ _ q (s1.trans s2) W2 (Rep.tupL upd_same (RepL.mono s2.ex (repEs_sh r1)))
theorem tep_lst (h : TAP X es ρ μ fun zs μ1 => ∃ ys : List P, zs = ys.map .sh ∧ ys.length ≤ 100000 ∧ Q (.sh (.lst ys)) μ1) : TEP X (.List es pos) ρ μ Q := fun ad Hb H σ W N Q' g => by
  refine pe_go (pe_lst pa_self) (h ad Hb H σ W N _ ?_)
  rintro vs zs μ1 ad1 Hb1 H1 ⟨ys, rfl, l, q⟩ s1 W1 r1
  refine ⟨Nat.le_trans (by rw [r1.length, List.length_map]; exact l) (by decide), fun p hp => ?_⟩
  obtain ⟨W2, s2⟩ := W1.alloc (o := .lst vs) hp
  exact g _ (.sh (.lst ys)) _ _ _ _ q (s1.trans s2) W2 (Rep.lstL upd_same (RepL.mono s2.ex (repEs_sh r1)))
/-- a list that will change -/
theorem tep_lstC (h : TAP X es ρ μ fun zs μ1 => zs.length ≤ 100000 ∧ Q (.pt μ1.length) (μ1 ++ [some (.lst zs)])) : TEP X (.List es pos) ρ μ Q := fun ad Hb H σ W N Q' g => by
  refine pe_go (pe_lst pa_self) (h ad Hb H σ W N _ ?_)
  rintro vs zs μ1 ad1 Hb1 H1 ⟨l, q⟩ s1 W1 r1
  refine ⟨Nat.le_trans (by rw [r1.length]; exact l) (by decide), fun p hp => ?_⟩
  obtain ⟨W2, s2⟩ := W1.cell (o := .lst vs) (c := .lst zs) hp ⟨vs, upd_same, pd_imp (fun _ _ r => repE_mono (Ex.refl _) ⟨[p], rfl⟩ r) r1⟩
  exact g _ (.pt μ1.length) _ _ _ _ q (s1.trans s2) W2 ⟨p, by rw [← W1.len]; simp, rfl⟩
theorem ev_tup {k} (h : EAs X es ρ μ ys) (l : ys.length ≤ 100000 := by simp) : EV X (.Tuple es k pos) ρ μ (.sh (.tup ys)) := fun Q q => tep_tup (h _ ⟨ys, rfl, l, q⟩)
theorem ev_lst (h : EAs X es ρ μ ys) (l : ys.length ≤ 100000 := by simp) : EV X (.List es pos) ρ μ (.sh (.lst ys)) := fun Q q => tep_lst (h _ ⟨ys, rfl, l, q⟩)
/-- {} that will change: keys tuples, keys ints and texts -/
theorem tep_dTC (q : Q (.pt μ.length) (μ ++ [some (.dT [])])) : TEP X (.Dict [] [] pos) ρ μ Q := fun ad Hb H σ W N Q' g => by
  refine pe_go pe_dnewT fun p hp => ?_
  obtain ⟨W2, s2⟩ := W.cell (o := .dT []) (c := .dT []) hp ⟨[], upd_same, .nil⟩
  exact g _ (.pt μ.length) _ _ _ _ q s2 W2 ⟨p, by rw [← W.len]; simp, rfl⟩
theorem tep_dKC (q : Q (.pt μ.length) (μ ++ [some (.dK [])])) : TEP X (.Dict [] [] pos) ρ μ Q := fun ad Hb H σ W N Q' g => by
  refine pe_go pe_dnewK fun p hp => ?_
  obtain ⟨W2, s2⟩ := W.cell (o := .dK []) (c := .dK []) hp ⟨[], upd_same, .nil⟩
  exact g _ (.pt μ.length) _ _ _ _ q s2 W2 ⟨p, by rw [← W.len]; simp, rfl⟩
theorem ev_dT0 : EV X (.Dict [] [] pos) ρ μ (.sh (.dT [])) := fun Q q ad Hb H σ W N Q' g => by
  refine pe_go pe_dnewT fun p hp => ?_
  obtain ⟨W2, s2⟩ := W.alloc (o := .dT []) hp
  exact g _ (.sh (.dT [])) _ _ _ _ q s2 W2 (.dT upd_same rfl fun _ _ _ h => by cases h)

/-! ### attributes -/
theorem ev_attr {C : Addr} {gs : List (Str × P)} {f : Str} {y : P} (h : EV X o ρ μ (.sh (.obj C gs))) (hC : Cls X.K C) (hn : NoAttr X.K C f) (hl : gs.lookup f = some y) (hb : attributeBase o f X.env (eval o X.env) = eval o X.env := by rfl) : EV X (.Attribute o f pos) ρ μ (.sh y) := fun Q q ad Hb H σ W N Q' g => by
  refine pe_go (pe_fld pe_self hb) (h (fun y μ1 => y = .sh (.obj C gs) ∧ μ1 = μ) ⟨rfl, rfl⟩ ad Hb H σ W N _ ?_)
  rintro v x μ1 ad1 Hb1 H1 ⟨rfl, rfl⟩ s1 W1 r1
  obtain ⟨a, dx, fs, rfl, ha, r⟩ := Rep.obj_inv r1
  obtain ⟨v, hv, rv⟩ := pd_lookup (K := X.K) r hl
  exact ⟨a, C, dx, fs, v, rfl, W1.ins ha, hC, hn, hv, g v (.sh y) _ _ _ _ q s1 W1 rv⟩

/-! ### subscripts -/
theorem tep_ix {r : R2} (hr : IxR X r) (hs : PlainIx b) (h : TEP X a ρ μ fun x μ1 => TEP X b ρ μ1 fun y μ2 => V2 X.K r x y μ2 Q) : TEP X (.Subscript a b pos) ρ μ Q := fun ad Hb H σ W N Q' g => by
  refine pe_go (pe_ix hr pe_self pe_self hs) (h ad Hb H σ W N _ fun v x μ1 ad1 Hb1 H1 hx s1 W1 r1 => hx ad1 Hb1 H1 σ W1 (N.step s1) _ fun w y μ2 ad2 Hb2 H2 hy s2 W2 r2 => ?_)
  exact hy ad2 Hb2 H2 v w W2 (RepE.step s2 r1) r2 _ ((g.after s1).after s2)
theorem v2_ixL {K : PySem.W.Frag} {i : Int} {x : P} (h : atI xs i = some x) (q : Q (.sh x) μ) : V2 K (rIxL K) (.sh (.lst xs)) (.sh (.int i)) μ Q := fun ad Hb H v w W r1 r2 Q' k => by
  obtain ⟨a, vs, rfl, hq, r⟩ := Rep.lst_inv r1
  obtain rfl := Rep.int_inv r2
  obtain ⟨v, hv, rv⟩ := pd_atI r h
  exact ⟨a, vs, i, v, rfl, rfl, W.sqL hq, hv, k.now W (x := .sh x) rv q⟩
theorem v2_ixT {K : PySem.W.Frag} {i : Int} {x : P} (h : atI xs i = some x) (q : Q (.sh x) μ) : V2 K (rIxT K) (.sh (.tup xs)) (.sh (.int i)) μ Q := fun ad Hb H v w W r1 r2 Q' k => by
  obtain ⟨a, vs, rfl, hq, r⟩ := Rep.tup_inv r1
  obtain rfl := Rep.int_inv r2
  obtain ⟨v, hv, rv⟩ := pd_atI r h
  exact ⟨a, vs, i, v, rfl, rfl, .inl (.inl (W.tup hq)), hv, k.now W (x := .sh x) rv q⟩
theorem v2_ixC {K : PySem.W.Frag} {i : Int} {j : Nat} {zs : List E} (hj : μ[j]? = some (some (.lst zs))) (h : atI zs i = some x) (q : Q x μ) : V2 K (rIxL K) (.pt j) (.sh (.int i)) μ Q := fun ad Hb H v w W r1 r2 Q' k => by
  obtain ⟨a, ha, rfl⟩ := r1
  obtain rfl := Rep.int_inv r2
  obtain ⟨_, vs, hv, r⟩ := W.off j a _ ha hj
  obtain ⟨v, hv2, rv⟩ := pd_atI r h
  exact ⟨a, vs, i, v, rfl, rfl, .inl (.inl hv), hv2, k.now W rv q⟩
section
variable {i : Int} {x : P}
theorem ev_ixL (ha : EV X a ρ μ (.sh (.lst xs))) (hb : EV X b ρ μ (.sh (.int i))) (h : atI xs i = some x) (hs : PlainIx b := by intro _ _; rfl) : EV X (.Subscript a b pos) ρ μ (.sh x) := fun Q q => tep_ix ix_list hs (ha _ (hb _ (v2_ixL h q)))
theorem ev_ixT (ha : EV X a ρ μ (.sh (.tup xs))) (hb : EV X b ρ μ (.sh (.int i))) (h : atI xs i = some x) (hs : PlainIx b := by intro _ _; rfl) : EV X (.Subscript a b pos) ρ μ (.sh x) := fun Q q => tep_ix ix_tup hs (ha _ (hb _ (v2_ixT h q)))
theorem ev_ixC {j : Nat} {zs : List E} {x : E} (ha : EV X a ρ μ (.pt j)) (hb : EV X b ρ μ (.sh (.int i))) (hj : μ[j]? = some (some (.lst zs))) (h : atI zs i = some x) (hs : PlainIx b := by intro _ _; rfl) : EV X (.Subscript a b pos) ρ μ x := fun Q q => tep_ix ix_list hs (ha _ (hb _ (v2_ixC hj h q)))
end
/-! ### slices -/
def cutP {α : Type} (xs : List α) (lo hi : Option Int) : List α := (xs.drop (HT.sIx xs.length 0 lo)).take (HT.sIx xs.length xs.length hi - HT.sIx xs.length 0 lo)
theorem pd_drop {α β : Type} {F : α → β → Prop} : ∀ (n : Nat) {l₁ : List α} {l₂ : List β}, Paired F l₁ l₂ → Paired F (l₁.drop n) (l₂.drop n)
  | 0, _, _, r => r
  | _ + 1, _, _, .nil => .nil
  | n + 1, _, _, .cons _ t => pd_drop n t
theorem pd_take {α β : Type} {F : α → β → Prop} : ∀ (n : Nat) {l₁ : List α} {l₂ : List β}, Paired F l₁ l₂ → Paired F (l₁.take n) (l₂.take n)
  | 0, _, _, _ => .nil
  | _ + 1, _, _, .nil => .nil
  | n + 1, _, _, .cons r t => .cons r (pd_take n t)
theorem pd_cut {α : Type} {F : V → α → Prop} {l₁ : List V} {l₂ : List α} (r : Paired F l₁ l₂) (lo hi : Option Int) : Paired F (cutV l₁ lo hi) (cutP l₂ lo hi) := by
  unfold cutV cutP
  rw [r.length]
  exact pd_take _ (pd_drop _ r)
theorem pd_rev {α β : Type} {F : α → β → Prop} : ∀ {l₁ : List α} {l₂ : List β}, Paired F l₁ l₂ → Paired F l₁.reverse l₂.reverse
  | _, _, .nil => .nil
  | _, _, .cons r t => by
    rw [List.reverse_cons, List.reverse_cons]
    exact pd_app (pd_rev t) (.cons r .nil)
/-- a part of a slice -/
def EO (X : Cx) (o : Option Expr) (ρ : Rho) (μ : Mu) (i : Option Int) : Prop := match o, i with
  | none, none => True
  | some e, some i => EV X e ρ μ (.sh (.int i))
  | _, _ => False
def TOV (X : Cx) (o : Option Expr) : TO := match o with
  | none => tNoPart
  | some e => tPart (TEV X e)
theorem po_self {o : Option Expr} : PO X o (TOV X o) := by
  cases o with
  | none => exact po_none
  | some e => exact po_some pe_self
theorem EO.run {o : Option Expr} {i : Option Int} (h : EO X o ρ μ i) {ad : List Addr} {Hb H : Hp} {σ : L2.St} (W : Wd X.K ad Hb H μ) (N : Env X.K ad Hb σ ρ) {Q' : Option Int → Hp → Prop} (g : ∀ ad' Hb' H', Step ad Hb H ad' Hb' H' → Wd X.K ad' Hb' H' μ → Q' i H') : TOV X o σ H Q' := by
  cases o with
  | none =>
    cases i with
    | none => exact g _ _ _ (Step.refl _ _ _) W
    | some i => exact h.elim
  | some e =>
    cases i with
    | none => exact h.elim
    | some i =>
      refine h (fun y μ1 => y = .sh (.int i) ∧ μ1 = μ) ⟨rfl, rfl⟩ ad Hb H σ W N _ ?_
      rintro v x μ1 ad1 Hb1 H1 ⟨rfl, rfl⟩ s1 W1 r1
      obtain rfl := Rep.int_inv r1
      exact ⟨i, rfl, g _ _ _ s1 W1⟩
theorem ev_slice {lo hi : Option Expr} {i j : Option Int} (ha : EV X a ρ μ (.sh (.lst xs))) (hl : EO X lo ρ μ i) (hh : EO X hi ρ μ j) : EV X (.Subscript a (.Slice lo hi none p2) pos) ρ μ (.sh (.lst (cutP xs i j))) := fun Q q ad Hb H σ W N Q' g => by
  refine pe_go (pe_slice sl_list pe_self po_self po_self) (ha (fun y μ1 => y = .sh (.lst xs) ∧ μ1 = μ) ⟨rfl, rfl⟩ ad Hb H σ W N _ ?_)
  rintro v x μ1 ad1 Hb1 H1 ⟨rfl, rfl⟩ s1 W1 r1
  refine hl.run W1 (N.step s1) fun ad2 Hb2 H2 s2 W2 => hh.run W2 ((N.step s1).step s2) fun ad3 Hb3 H3 s3 W3 => ?_
  obtain ⟨a, vs, rfl, hq, r⟩ := Rep.lst_inv (Rep.mono (s2.trans s3).ex r1)
  refine ⟨a, vs, rfl, W3.sqL hq, fun p hp => ?_⟩
  obtain ⟨W4, s4⟩ := W3.alloc (o := .lst (cutV vs i j)) hp
  exact g _ (.sh (.lst (cutP xs i j))) _ _ _ _ q ((s1.trans (s2.trans s3)).trans s4) W4 (Rep.lstL upd_same (RepL.mono s4.ex (pd_cut r i j)))
theorem ev_revL {k : Nat} {p1 p3 : Pos} (ha : EV X a ρ μ (.sh (.lst xs))) : EV X (.Subscript a (.Slice none none (some (.UnaryOp .USub (.Constant (.int 1) k p1) p2)) p3) pos) ρ μ (.sh (.lst xs.reverse)) := fun Q q ad Hb H σ W N Q' g => by
  refine pe_go (pe_revL pe_self) (ha (fun y μ1 => y = .sh (.lst xs) ∧ μ1 = μ) ⟨rfl, rfl⟩ ad Hb H σ W N _ ?_)
  rintro v x μ1 ad1 Hb1 H1 ⟨rfl, rfl⟩ s1 W1 r1
  obtain ⟨a, vs, rfl, hq, r⟩ := Rep.lst_inv r1
  refine ⟨a, vs, rfl, W1.sqL hq, fun p hp => ?_⟩
  obtain ⟨W4, s4⟩ := W1.alloc (o := .lst vs.reverse) hp
  exact g _ (.sh (.lst xs.reverse)) _ _ _ _ q (s1.trans s4) W4 (Rep.lstL upd_same (RepL.mono s4.ex (pd_rev r)))

/-! ### calls of built-ins -/
section
variable {nm : Str} {r : List V → Hp → VK → Prop} {zs : List E} {T id : String}
theorem tep_callB (hc : CallR X (.builtin id) r) (hg : Gl X nm) (hm : X.mg nm = none) (hv : bootBuiltins nm = some (.builtin id)) (h : TAP X (e :: es) ρ μ fun zs μ1 => VL X.K r zs μ1 Q) (hn : nm ≠ "__name__" := by decide) (hdb : (nm == ("__debug__" : Str)) = false := by decide)
    (he : starEach (e :: es) X.env = (false, eval e X.env) :: starEach es X.env := by rfl) (hpl : (backTo pos (starEach es X.env)).any (·.1) = false := by rfl) : TEP X (.Call (.Name nm p2) (e :: es) [] pos) ρ μ Q := fun ad Hb H σ W N Q' g =>
  pe_go (pe_callB hc hg hm hv pa_self hn hdb he hpl) (h ad Hb H σ W N _ fun vs zs μ1 ad1 Hb1 H1 hq s1 W1 r1 => hq ad1 Hb1 H1 vs W1 r1 Q' (g.after s1))
theorem tep_callTy (hc : CallR X (.type T) r) (hg : Gl X nm) (hm : X.mg nm = none) (hv : bootBuiltins nm = some (.type T)) (h : TAP X (e :: es) ρ μ fun zs μ1 => VL X.K r zs μ1 Q) (hn : nm ≠ "__name__" := by decide) (hdb : (nm == ("__debug__" : Str)) = false := by decide)
    (he : starEach (e :: es) X.env = (false, eval e X.env) :: starEach es X.env := by rfl) (hpl : (backTo pos (starEach es X.env)).any (·.1) = false := by rfl) : TEP X (.Call (.Name nm p2) (e :: es) [] pos) ρ μ Q := fun ad Hb H σ W N Q' g =>
  pe_go (pe_callTy hc hg hm hv pa_self hn hdb he hpl) (h ad Hb H σ W N _ fun vs zs μ1 ad1 Hb1 H1 hq s1 W1 r1 => hq ad1 Hb1 H1 vs W1 r1 Q' (g.after s1))
theorem ev_callB (hc : CallR X (.builtin id) r) (hg : Gl X nm) (hm : X.mg nm = none) (hv : bootBuiltins nm = some (.builtin id)) (h : EA X (e :: es) ρ μ zs) (k : ∀ Q : E → Mu → Prop, Q x μ → VL X.K r zs μ Q) (hn : nm ≠ "__name__" := by decide) (hdb : (nm == ("__debug__" : Str)) = false := by decide)
    (he : starEach (e :: es) X.env = (false, eval e X.env) :: starEach es X.env := by rfl) (hpl : (backTo pos (starEach es X.env)).any (·.1) = false := by rfl) : EV X (.Call (.Name nm p2) (e :: es) [] pos) ρ μ x := fun Q q => tep_callB hc hg hm hv (h _ (k Q q)) hn hdb he hpl
theorem ev_callTy (hc : CallR X (.type T) r) (hg : Gl X nm) (hm : X.mg nm = none) (hv : bootBuiltins nm = some (.type T)) (h : EA X (e :: es) ρ μ zs) (k : ∀ Q : E → Mu → Prop, Q x μ → VL X.K r zs μ Q) (hn : nm ≠ "__name__" := by decide) (hdb : (nm == ("__debug__" : Str)) = false := by decide)
    (he : starEach (e :: es) X.env = (false, eval e X.env) :: starEach es X.env := by rfl) (hpl : (backTo pos (starEach es X.env)).any (·.1) = false := by rfl) : EV X (.Call (.Name nm p2) (e :: es) [] pos) ρ μ x := fun Q q => tep_callTy hc hg hm hv (h _ (k Q q)) hn hdb he hpl
end
theorem bo_all : bootBuiltins "all" = some (.builtin "all") := PyProof.Rows.boot_all
theorem bo_any : bootBuiltins "any" = some (.builtin "any") := PyProof.Rows.boot_any
theorem bo_len : bootBuiltins "len" = some (.builtin "len") := PySem.boot_len
theorem bo_max : bootBuiltins "max" = some (.builtin "max") := PyProof.Rows.boot_max
theorem bo_min : bootBuiltins "min" = some (.builtin "min") := PyProof.Rows.boot_min
theorem bo_sum : bootBuiltins "sum" = some (.builtin "sum") := PyProof.Rows.boot_sum
theorem bo_sorted : bootBuiltins "sorted" = some (.builtin "sorted") := PyProof.Rows.boot_sorted
theorem bo_isinstance : bootBuiltins "isinstance" = some (.builtin "isinstance") := PyProof.Rows.boot_isinstance
theorem bo_repr : bootBuiltins "repr" = some (.builtin "repr") := PyProof.Rows.boot_repr
theorem bo_int : bootBuiltins "int" = some (.type "int") := PyProof.Rows.boot_int
theorem bo_bool : bootBuiltins "bool" = some (.type "bool") := PyProof.Rows.boot_bool
theorem bo_list : bootBuiltins "list" = some (.type "list") := PyProof.Rows.boot_list
theorem bo_tuple : bootBuiltins "tuple" = some (.type "tuple") := PyProof.Rows.boot_tuple
theorem bo_dict : bootBuiltins "dict" = some (.type "dict") := PyProof.Rows.boot_dict
theorem bo_str : bootBuiltins "str" = some (.type "str") := PyProof.Rows.boot_str
theorem rep_ints {K : PySem.W.Frag} {H : Hp} : ∀ {vs : List V} {ns : List Int}, RepL K H vs (ns.map P.int) → vs = ns.map V.int
  | _, [], .nil => rfl
  | _, n :: ns, .cons r t => by rw [Rep.int_inv r, rep_ints t]; rfl
theorem rep_bls {K : PySem.W.Frag} {H : Hp} : ∀ {vs : List V} {ns : List Bool}, RepL K H vs (ns.map P.bl) → vs = ns.map V.bl
  | _, [], .nil => rfl
  | _, n :: ns, .cons r t => by rw [Rep.bl_inv r, rep_bls t]; rfl
theorem vals1 {K : PySem.W.Frag} {ad : List Addr} {H : Hp} {vs : List V} {x : E} (r : RepEs K ad H vs [x]) : ∃ v, vs = [v] ∧ RepE K ad H v x := by
  cases r with
  | cons r t => cases t; exact ⟨_, rfl, r⟩
theorem vals2E {K : PySem.W.Frag} {ad : List Addr} {H : Hp} {vs : List V} {x y : E} (r : RepEs K ad H vs [x, y]) : ∃ v w, vs = [v, w] ∧ RepE K ad H v x ∧ RepE K ad H w y := by
  cases r with
  | cons r t => cases t with
    | cons r2 t => cases t; exact ⟨_, _, rfl, r, r2⟩
section
variable {nm : Str} {ns : List Int} {bs : List Bool}
theorem ev_len (hm : X.mg "len" = none) (h : EV X e ρ μ (.sh (.lst xs))) (hg : Gl X "len" := by rfl) (hs : starEach [e] X.env = (false, eval e X.env) :: starEach [] X.env := by rfl) : EV X (.Call (.Name "len" p2) [e] [] pos) ρ μ (.sh (.int (xs.length : Int))) :=
  ev_callB call_len_seq hg hm bo_len (ea_cons h ea_nil hs) (fun Q q ad Hb H vs W r0 Q' g => by
    obtain ⟨v, rfl, r⟩ := vals1 r0
    obtain ⟨a, ws, rfl, hq, r⟩ := Rep.lst_inv r
    refine ⟨a, ws, rfl, .inl (W.sqL hq), ?_⟩
    rw [r.length]
    exact g.now W (x := .sh (.int _)) (.int _) q) (by decide) (by decide) hs rfl
theorem ev_lenT (hm : X.mg "len" = none) (h : EV X e ρ μ (.sh (.tup xs))) (hg : Gl X "len" := by rfl) (hs : starEach [e] X.env = (false, eval e X.env) :: starEach [] X.env := by rfl) : EV X (.Call (.Name "len" p2) [e] [] pos) ρ μ (.sh (.int (xs.length : Int))) :=
  ev_callB call_len_seq hg hm bo_len (ea_cons h ea_nil hs) (fun Q q ad Hb H vs W r0 Q' g => by
    obtain ⟨v, rfl, r⟩ := vals1 r0
    obtain ⟨a, ws, rfl, hq, r⟩ := Rep.tup_inv r
    refine ⟨a, ws, rfl, .inr (.inl (.inl (W.tup hq))), ?_⟩
    rw [r.length]
    exact g.now W (x := .sh (.int _)) (.int _) q) (by decide) (by decide) hs rfl
theorem ev_lenC {j : Nat} {zs : List E} (hm : X.mg "len" = none) (h : EV X e ρ μ (.pt j)) (hj : μ[j]? = some (some (.lst zs))) (hg : Gl X "len" := by rfl) (hs : starEach [e] X.env = (false, eval e X.env) :: starEach [] X.env := by rfl) : EV X (.Call (.Name "len" p2) [e] [] pos) ρ μ (.sh (.int (zs.length : Int))) :=
  ev_callB call_len_seq hg hm bo_len (ea_cons h ea_nil hs) (fun Q q ad Hb H vs W r0 Q' g => by
    obtain ⟨v, rfl, a, ha, rfl⟩ := vals1 r0
    obtain ⟨_, ws, hv, r⟩ := W.off j a _ ha hj
    refine ⟨a, ws, rfl, .inl (.inl (.inl hv)), ?_⟩
    rw [r.length]
    exact g.now W (x := .sh (.int _)) (.int _) q) (by decide) (by decide) hs rfl
theorem ev_all (hc : X.calm = true) (hm : X.mg "all" = none) (h : EV X e ρ μ (.sh (.lst (bs.map .bl)))) (hg : Gl X "all" := by rfl) (hs : starEach [e] X.env = (false, eval e X.env) :: starEach [] X.env := by rfl) : EV X (.Call (.Name "all" p2) [e] [] pos) ρ μ (.sh (.bl (bs.all id))) :=
  ev_callB (cr_all hc) hg hm bo_all (ea_cons h ea_nil hs) (fun Q q ad Hb H vs W r0 Q' g => by
    obtain ⟨v, rfl, r⟩ := vals1 r0
    obtain ⟨a, ws, rfl, hq, r⟩ := Rep.lst_inv r
    rw [rep_bls r] at hq
    exact ⟨a, bs, rfl, W.sqL hq, g.now W (x := .sh (.bl _)) (.bl _) q⟩) (by decide) (by decide) hs rfl
theorem ev_any (hc : X.calm = true) (hm : X.mg "any" = none) (h : EV X e ρ μ (.sh (.lst (bs.map .bl)))) (hg : Gl X "any" := by rfl) (hs : starEach [e] X.env = (false, eval e X.env) :: starEach [] X.env := by rfl) : EV X (.Call (.Name "any" p2) [e] [] pos) ρ μ (.sh (.bl (bs.any id))) :=
  ev_callB (cr_any hc) hg hm bo_any (ea_cons h ea_nil hs) (fun Q q ad Hb H vs W r0 Q' g => by
    obtain ⟨v, rfl, r⟩ := vals1 r0
    obtain ⟨a, ws, rfl, hq, r⟩ := Rep.lst_inv r
    rw [rep_bls r] at hq
    exact ⟨a, bs, rfl, W.sqL hq, g.now W (x := .sh (.bl _)) (.bl _) q⟩) (by decide) (by decide) hs rfl
theorem ev_sum (hc : X.calm = true) (hm : X.mg "sum" = none) (h : EV X e ρ μ (.sh (.lst (ns.map .int)))) (hg : Gl X "sum" := by rfl) (hs : starEach [e] X.env = (false, eval e X.env) :: starEach [] X.env := by rfl) : EV X (.Call (.Name "sum" p2) [e] [] pos) ρ μ (.sh (.int ns.sum)) :=
  ev_callB (cr_sum hc) hg hm bo_sum (ea_cons h ea_nil hs) (fun Q q ad Hb H vs W r0 Q' g => by
    obtain ⟨v, rfl, r⟩ := vals1 r0
    obtain ⟨a, ws, rfl, hq, r⟩ := Rep.lst_inv r
    rw [rep_ints r] at hq
    exact ⟨a, ns, rfl, W.sqL hq, g.now W (x := .sh (.int _)) (.int _) q⟩) (by decide) (by decide) hs rfl
/-- the greatest, the least of a list of ints -/
def maxL : List Int → Int
  | [] => 0
  | n :: ns => ns.foldl max n
def minL : List Int → Int
  | [] => 0
  | n :: ns => ns.foldl min n
theorem foldl_max_mem : ∀ (ns : List Int) (n : Int), ns.foldl max n = n ∨ ns.foldl max n ∈ ns
  | [], _ => .inl rfl
  | m :: ns, n => by
    rw [List.foldl_cons]
    rcases foldl_max_mem ns (max n m) with h | h
    · rw [h]
      by_cases c : n ≤ m
      · right; rw [Int.max_eq_right c]; exact List.mem_cons_self
      · left; rw [Int.max_eq_left (by omega)]
    · exact .inr (List.mem_cons_of_mem _ h)
theorem foldl_max_le : ∀ (ns : List Int) (n y : Int), (y = n ∨ y ∈ ns) → y ≤ ns.foldl max n
  | [], n, y, h => by
    rcases h with rfl | h
    · exact Int.le_refl _
    · cases h
  | m :: ns, n, y, h => by
    rw [List.foldl_cons]
    rcases h with rfl | h
    · exact Int.le_trans (Int.le_max_left y m) (foldl_max_le ns _ _ (.inl rfl))
    · rcases List.mem_cons.mp h with rfl | h
      · exact Int.le_trans (Int.le_max_right n y) (foldl_max_le ns _ _ (.inl rfl))
      · exact foldl_max_le ns _ _ (.inr h)
theorem maxL_mem {ns : List Int} (h : ns ≠ []) : maxL ns ∈ ns := by
  cases ns with
  | nil => exact absurd rfl h
  | cons n ns =>
    rcases foldl_max_mem ns n with e | e
    · show ns.foldl max n ∈ _
      rw [e]; exact List.mem_cons_self
    · exact List.mem_cons_of_mem _ e
theorem le_maxL {ns : List Int} {y : Int} (h : y ∈ ns) : y ≤ maxL ns := by
  cases ns with
  | nil => cases h
  | cons n ns => exact foldl_max_le ns n y (List.mem_cons.mp h)
theorem maxL_uniq {ns : List Int} {m : Int} (h : m ∈ ns) (k : ∀ y, y ∈ ns → y ≤ m) : m = maxL ns :=
  Int.le_antisymm (le_maxL h) (k _ (maxL_mem (List.ne_nil_of_mem h)))
theorem minL_eq : ∀ ns : List Int, minL ns = -(maxL (ns.map (-·)))
  | [] => rfl
  | n :: ns => by
    show ns.foldl min n = -((ns.map (-·)).foldl max (-n))
    induction ns generalizing n with
    | nil => show n = -(-n); omega
    | cons m ns ih =>
      rw [List.foldl_cons, List.map_cons, List.foldl_cons, ih (min n m)]
      congr 2
      omega
theorem minL_mem {ns : List Int} (h : ns ≠ []) : minL ns ∈ ns := by
  rw [minL_eq]
  have := maxL_mem (ns := ns.map (-·)) (by simpa using h)
  obtain ⟨m, hm, e⟩ := List.mem_map.mp this
  rw [← e]
  simpa using hm
theorem minL_le {ns : List Int} {y : Int} (h : y ∈ ns) : minL ns ≤ y := by
  rw [minL_eq]
  have := le_maxL (ns := ns.map (-·)) (y := -y) (List.mem_map.mpr ⟨y, h, rfl⟩)
  omega
theorem minL_uniq {ns : List Int} {m : Int} (h : m ∈ ns) (k : ∀ y, y ∈ ns → m ≤ y) : m = minL ns :=
  Int.le_antisymm (k _ (minL_mem (List.ne_nil_of_mem h))) (minL_le h)
theorem ev_max (hc : X.calm = true) (hm : X.mg "max" = none) (h : EV X e ρ μ (.sh (.lst (ns.map .int)))) (h0 : ns ≠ []) (hg : Gl X "max" := by rfl) (hs : starEach [e] X.env = (false, eval e X.env) :: starEach [] X.env := by rfl) : EV X (.Call (.Name "max" p2) [e] [] pos) ρ μ (.sh (.int (maxL ns))) :=
  ev_callB (cr_max hc) hg hm bo_max (ea_cons h ea_nil hs) (fun Q q ad Hb H vs W r0 Q' g => by
    obtain ⟨v, rfl, r⟩ := vals1 r0
    obtain ⟨a, ws, rfl, hq, r⟩ := Rep.lst_inv r
    rw [rep_ints r] at hq
    refine ⟨a, ns, rfl, W.sqL hq, List.length_pos_iff.mpr h0, fun m h1 h2 => ?_⟩
    rw [maxL_uniq h1 h2]
    exact g.now W (x := .sh (.int _)) (.int _) q) (by decide) (by decide) hs rfl
theorem ev_min (hc : X.calm = true) (hm : X.mg "min" = none) (h : EV X e ρ μ (.sh (.lst (ns.map .int)))) (h0 : ns ≠ []) (hg : Gl X "min" := by rfl) (hs : starEach [e] X.env = (false, eval e X.env) :: starEach [] X.env := by rfl) : EV X (.Call (.Name "min" p2) [e] [] pos) ρ μ (.sh (.int (minL ns))) :=
  ev_callB (cr_min hc) hg hm bo_min (ea_cons h ea_nil hs) (fun Q q ad Hb H vs W r0 Q' g => by
    obtain ⟨v, rfl, r⟩ := vals1 r0
    obtain ⟨a, ws, rfl, hq, r⟩ := Rep.lst_inv r
    rw [rep_ints r] at hq
    refine ⟨a, ns, rfl, W.sqL hq, List.length_pos_iff.mpr h0, fun m h1 h2 => ?_⟩
    rw [minL_uniq h1 h2]
    exact g.now W (x := .sh (.int _)) (.int _) q) (by decide) (by decide) hs rfl
theorem ev_max2 {i j : Int} (hc : X.calm = true) (hm : X.mg "max" = none) (h1 : EV X a ρ μ (.sh (.int i))) (h2 : EV X b ρ μ (.sh (.int j))) (hg : Gl X "max" := by rfl) (hs : starEach [a, b] X.env = (false, eval a X.env) :: starEach [b] X.env := by rfl) (hs2 : starEach [b] X.env = (false, eval b X.env) :: starEach [] X.env := by rfl) : EV X (.Call (.Name "max" p2) [a, b] [] pos) ρ μ (.sh (.int (max i j))) :=
  ev_callB (call_max2 hc) hg hm bo_max (ea_cons h1 (ea_cons h2 ea_nil hs2) hs) (fun Q q ad Hb H vs W r0 Q' g => by
    obtain ⟨v, w, rfl, r1, r2⟩ := vals2E r0
    obtain rfl := Rep.int_inv r1
    obtain rfl := Rep.int_inv r2
    refine ⟨i, j, rfl, ?_⟩
    rw [show (if j > i then j else i) = max i j by split <;> omega]
    exact g.now W (x := .sh (.int _)) (.int _) q) (by decide) (by decide) hs (by rw [hs2]; rfl)
theorem ev_min2 {i j : Int} (hc : X.calm = true) (hm : X.mg "min" = none) (h1 : EV X a ρ μ (.sh (.int i))) (h2 : EV X b ρ μ (.sh (.int j))) (hg : Gl X "min" := by rfl) (hs : starEach [a, b] X.env = (false, eval a X.env) :: starEach [b] X.env := by rfl) (hs2 : starEach [b] X.env = (false, eval b X.env) :: starEach [] X.env := by rfl) : EV X (.Call (.Name "min" p2) [a, b] [] pos) ρ μ (.sh (.int (min i j))) :=
  ev_callB (call_min2 hc) hg hm bo_min (ea_cons h1 (ea_cons h2 ea_nil hs2) hs) (fun Q q ad Hb H vs W r0 Q' g => by
    obtain ⟨v, w, rfl, r1, r2⟩ := vals2E r0
    obtain rfl := Rep.int_inv r1
    obtain rfl := Rep.int_inv r2
    refine ⟨i, j, rfl, ?_⟩
    rw [show (if j < i then j else i) = min i j by split <;> omega]
    exact g.now W (x := .sh (.int _)) (.int _) q) (by decide) (by decide) hs (by rw [hs2]; rfl)
theorem ev_intI {i : Int} (hm : X.mg "int" = none) (h : EV X e ρ μ (.sh (.int i))) (hg : Gl X "int" := by rfl) (hs : starEach [e] X.env = (false, eval e X.env) :: starEach [] X.env := by rfl) : EV X (.Call (.Name "int" p2) [e] [] pos) ρ μ (.sh (.int i)) :=
  ev_callTy call_int1 hg hm bo_int (ea_cons h ea_nil hs) (fun Q q ad Hb H vs W r0 Q' g => by
    obtain ⟨v, rfl, r⟩ := vals1 r0
    obtain rfl := Rep.int_inv r
    exact .inl ⟨i, rfl, g.now W (x := .sh (.int _)) (.int _) q⟩) (by decide) (by decide) hs rfl
theorem ev_intB {k : Bool} (hm : X.mg "int" = none) (h : EV X e ρ μ (.sh (.bl k))) (hg : Gl X "int" := by rfl) (hs : starEach [e] X.env = (false, eval e X.env) :: starEach [] X.env := by rfl) : EV X (.Call (.Name "int" p2) [e] [] pos) ρ μ (.sh (.int (if k then 1 else 0))) :=
  ev_callTy call_int1 hg hm bo_int (ea_cons h ea_nil hs) (fun Q q ad Hb H vs W r0 Q' g => by
    obtain ⟨v, rfl, r⟩ := vals1 r0
    obtain rfl := Rep.bl_inv r
    exact .inr ⟨k, rfl, g.now W (x := .sh (.int _)) (.int _) q⟩) (by decide) (by decide) hs rfl
/-- list(xs), tuple(xs) of a list, of a tuple -/
theorem tep_listC (hm : X.mg "list" = none) (h : TEP X e ρ μ fun z μ1 => ∃ xs : List P, (z = .sh (.lst xs) ∨ z = .sh (.tup xs)) ∧ Q (.pt μ1.length) (μ1 ++ [some (.lst (xs.map .sh))])) (hg : Gl X "list" := by rfl) (hs : starEach [e] X.env = (false, eval e X.env) :: starEach [] X.env := by rfl) : TEP X (.Call (.Name "list" p2) [e] [] pos) ρ μ Q :=
  tep_callTy call_list_of hg hm bo_list (tap_cons (fun ad Hb H σ W N Q' g => h ad Hb H σ W N Q' fun v x μ1 ad1 Hb1 H1 q s W1 r => g v x μ1 ad1 Hb1 H1 (tap_nil (fun ad Hb H vs W r0 Q' g => by
    obtain ⟨v, rfl, r⟩ := vals1 r0
    obtain ⟨xs, e, q⟩ := q
    have fin : ∀ (ws : List V), RepL X.K Hb ws xs → ∀ l, H l = none → Q' (.ref l) (upd H l (.lst ws)) := fun ws rw_ l hl => by
      obtain ⟨W2, s2⟩ := W.cell (o := .lst ws) (c := .lst (xs.map .sh)) hl ⟨ws, upd_same, repEs_of rw_⟩
      exact g _ (.pt μ1.length) _ _ _ _ q s2 W2 ⟨l, by rw [← W.len]; simp, rfl⟩
    rcases e with rfl | rfl
    · obtain ⟨a, ws, rfl, hq, r⟩ := Rep.lst_inv r
      exact ⟨a, ws, rfl, .inl (W.sqL hq), fin ws r⟩
    · obtain ⟨a, ws, rfl, hq, r⟩ := Rep.tup_inv r
      exact ⟨a, ws, rfl, .inr (.inl (.inl (W.tup hq))), fin ws r⟩)) s W1 r) hs) (by decide) (by decide) hs rfl
theorem ev_list {x : P} (hm : X.mg "list" = none) (h : EV X e ρ μ (.sh x)) (hx : x = .lst xs ∨ x = .tup xs) (hg : Gl X "list" := by rfl) (hs : starEach [e] X.env = (false, eval e X.env) :: starEach [] X.env := by rfl) : EV X (.Call (.Name "list" p2) [e] [] pos) ρ μ (.sh (.lst xs)) :=
  ev_callTy call_list_of hg hm bo_list (ea_cons h ea_nil hs) (fun Q q ad Hb H vs W r0 Q' g => by
    obtain ⟨v, rfl, r⟩ := vals1 r0
    have fin : ∀ (ws : List V), RepL X.K Hb ws xs → ∀ l, H l = none → Q' (.ref l) (upd H l (.lst ws)) := fun ws rw_ l hl => by
      obtain ⟨W2, s2⟩ := W.alloc (o := .lst ws) hl
      exact g _ (.sh (.lst xs)) _ _ _ _ q s2 W2 (Rep.lstL upd_same (RepL.mono s2.ex rw_))
    rcases hx with rfl | rfl
    · obtain ⟨a, ws, rfl, hq, r⟩ := Rep.lst_inv r
      exact ⟨a, ws, rfl, .inl (W.sqL hq), fin ws r⟩
    · obtain ⟨a, ws, rfl, hq, r⟩ := Rep.tup_inv r
      exact ⟨a, ws, rfl, .inr (.inl (.inl (W.tup hq))), fin ws r⟩) (by decide) (by decide) hs rfl
theorem ev_tuple {x : P} (hm : X.mg "tuple" = none) (h : EV X e ρ μ (.sh x)) (hx : x = .lst xs ∨ x = .tup xs) (hg : Gl X "tuple" := by rfl) (hs : starEach [e] X.env = (false, eval e X.env) :: starEach [] X.env := by rfl) : EV X (.Call (.Name "tuple" p2) [e] [] pos) ρ μ (.sh (.tup xs)) :=
  ev_callTy call_tuple_of hg hm bo_tuple (ea_cons h ea_nil hs) (fun Q q ad Hb H vs W r0 Q' g => by
    obtain ⟨v, rfl, r⟩ := vals1 r0
    rcases hx with rfl | rfl
    · obtain ⟨a, ws, rfl, hq, r⟩ := Rep.lst_inv r
      refine ⟨a, ws, rfl, .inl ⟨W.sqL hq, fun l hl => ?_⟩⟩
      obtain ⟨W2, s2⟩ := W.alloc (o := .tup ws) hl
      exact g _ (.sh (.tup xs)) _ _ _ _ q s2 W2 (Rep.tupL upd_same (RepL.mono s2.ex r))
    · obtain ⟨a, ws, rfl, hq, r2⟩ := Rep.tup_inv r
      exact ⟨a, ws, rfl, .inr ⟨.inl (.inl (W.tup hq)), g.now W (x := .sh (.tup xs)) r q⟩⟩) (by decide) (by decide) hs rfl
end
end
end PV

/-! What a for walks, targets, comprehensions. -/
namespace PV
open PySem PySem.Spec PyProof.Rows L2

def TIV (X : Cx) (tg iter : Expr) : TI := fun σ H R => ∀ pins s, Inv X pins σ H s → wpAny (model X.prog X.w) X.A (eval iter X.env) (fun v s1 => wpAny (model X.prog X.w) X.A (pyIter v) (PIE X pins σ tg R) X.xe s1) X.xe s
theorem pi_self {X : Cx} {tg iter : Expr} : PI X tg iter (TIV X tg iter) := ⟨fun pins s _ _ _ I h => h pins s I⟩
theorem pi_go {X : Cx} {tg iter : Expr} {t : TI} (h : PI X tg iter t) {σ : L2.St} {H : Hp} {R : It → Hp → Prop} (q : t σ H R) : TIV X tg iter σ H R := fun pins s I => h.run pins s σ H R I q

/-- J walks the items, from the world (ad, Hb, H) on, as long as G holds of the cells -/
structure PWalk (K : PySem.W.Frag) (J : It) (ad : List Addr) (Hb H : Hp) (items : List E) (G : Mu → Prop) : Prop where
  goes : ∀ (i : Nat) (ad2 : List Addr) (Hb2 H2 : Hp) (μ2 : Mu), i < items.length → Step ad Hb H ad2 Hb2 H2 → Wd K ad2 Hb2 H2 μ2 → G μ2 → J.go i H2
  stops : ∀ (ad2 : List Addr) (Hb2 H2 : Hp) (μ2 : Mu), Step ad Hb H ad2 Hb2 H2 → Wd K ad2 Hb2 H2 μ2 → G μ2 → J.stop items.length H2
  yields : ∀ (i : Nat) (ad2 : List Addr) (Hb2 H2 : Hp) (μ2 : Mu) (x : V) (H3 : Hp), i < items.length → Step ad Hb H ad2 Hb2 H2 → Wd K ad2 Hb2 H2 μ2 → G μ2 → J.yld i H2 x H3 →
    ∃ Hb3 e, Step ad2 Hb2 H2 ad2 Hb3 H3 ∧ Wd K ad2 Hb3 H3 μ2 ∧ items[i]? = some e ∧ RepE K ad2 Hb3 x e
def TIP (X : Cx) (tg iter : Expr) (ρ : Rho) (μ : Mu) (R : List E → (Mu → Prop) → Mu → Prop) : Prop :=
  ∀ (ad : List Addr) (Hb H : Hp) (σ : L2.St), Wd X.K ad Hb H μ → Env X.K ad Hb σ ρ → ∀ R' : It → Hp → Prop,
    (∀ (J : It) (items : List E) (G : Mu → Prop) (μ' : Mu) (ad' : List Addr) (Hb' H' : Hp), R items G μ' → Step ad Hb H ad' Hb' H' → Wd X.K ad' Hb' H' μ' → PWalk X.K J ad' Hb' H' items G → R' J H') → TIV X tg iter σ H R'
def EI (X : Cx) (tg iter : Expr) (ρ : Rho) (μ : Mu) (items : List E) : Prop := ∀ R : List E → (Mu → Prop) → Mu → Prop, R items (fun _ => True) μ → TIP X tg iter ρ μ R
/-- a walk that yields what stands side by side with the items, the heap as it was -/
theorem pwalk_at {K : PySem.W.Frag} {J : It} {ad : List Addr} {Hb H : Hp} {items : List E} {vs : List V} {Gh : Hp → Prop} (w : Walk J items.length Gh (YAt vs)) (r : RepEs K ad Hb vs items)
    (hG : ∀ (ad2 : List Addr) (Hb2 H2 : Hp) (μ2 : Mu), Step ad Hb H ad2 Hb2 H2 → Wd K ad2 Hb2 H2 μ2 → Gh H2) : PWalk K J ad Hb H items (fun _ => True) where
  goes := fun i ad2 Hb2 H2 μ2 hi s W _ => w.goes i H2 hi (hG ad2 Hb2 H2 μ2 s W)
  stops := fun ad2 Hb2 H2 μ2 s W _ => w.stops H2 (hG ad2 Hb2 H2 μ2 s W)
  yields := fun i ad2 Hb2 H2 μ2 x H3 hi s W _ y => by
    obtain ⟨rfl, e⟩ := w.yields i H2 x H3 hi (hG ad2 Hb2 H2 μ2 s W) y
    obtain ⟨z, h1, h2⟩ := pd_right r i x e
    exact ⟨Hb2, z, Step.refl _ _ _, W, h1, RepE.step s h2⟩
section
variable {X : Cx} {tg a b c e iter : Expr} {es : List Expr} {ρ : Rho} {μ : Mu} {pos tpos p2 : Pos} {xs ys : List P}
theorem ei_list (h : EV X e ρ μ (.sh (.lst xs))) : EI X tg e ρ μ (xs.map .sh) := fun R q ad Hb H σ W N R' g => by
  refine pi_go (pi_list pe_self) (h (fun y μ1 => y = .sh (.lst xs) ∧ μ1 = μ) ⟨rfl, rfl⟩ ad Hb H σ W N _ ?_)
  rintro v x μ1 ad1 Hb1 H1 ⟨rfl, rfl⟩ s1 W1 r1
  obtain ⟨a, vs, rfl, hq, r⟩ := Rep.lst_inv r1
  refine ⟨a, rfl, ⟨vs, W1.sqL hq⟩, g _ (xs.map .sh) _ _ _ _ _ q s1 W1 (pwalk_at (Gh := fun H => SqL X.K H a vs) ?_ (repEs_of r) fun ad2 Hb2 H2 μ2 s W => W.sqL (s.ex.sqL hq))⟩
  have w := walk_list (K := X.K) (a := a) (xs := vs)
  rw [r.length] at w
  rw [List.length_map]
  exact w
theorem ei_scr (h : EV X e ρ μ (.sh (.scr xs))) : EI X tg e ρ μ (xs.map .sh) := fun R q ad Hb H σ W N R' g => by
  refine pi_go (pi_list pe_self) (h (fun y μ1 => y = .sh (.scr xs) ∧ μ1 = μ) ⟨rfl, rfl⟩ ad Hb H σ W N _ ?_)
  rintro v x μ1 ad1 Hb1 H1 ⟨rfl, rfl⟩ s1 W1 r1
  obtain ⟨a, vs, rfl, hq, r⟩ := Rep.scr_inv r1
  refine ⟨a, rfl, ⟨vs, W1.sqL hq⟩, g _ (xs.map .sh) _ _ _ _ _ q s1 W1 (pwalk_at (Gh := fun H => SqL X.K H a vs) ?_ (repEs_of r) fun ad2 Hb2 H2 μ2 s W => W.sqL (s.ex.sqL hq))⟩
  have w := walk_list (K := X.K) (a := a) (xs := vs)
  rw [r.length] at w
  rw [List.length_map]
  exact w
theorem ei_tup (h : EV X e ρ μ (.sh (.tup xs))) : EI X tg e ρ μ (xs.map .sh) := fun R q ad Hb H σ W N R' g => by
  refine pi_go (pi_tup pe_self) (h (fun y μ1 => y = .sh (.tup xs) ∧ μ1 = μ) ⟨rfl, rfl⟩ ad Hb H σ W N _ ?_)
  rintro v x μ1 ad1 Hb1 H1 ⟨rfl, rfl⟩ s1 W1 r1
  obtain ⟨a, vs, rfl, hq, r⟩ := Rep.tup_inv r1
  refine ⟨a, rfl, ⟨vs, .inl (.inl (W1.tup hq))⟩, g _ (xs.map .sh) _ _ _ _ _ q s1 W1 (pwalk_at (Gh := fun H => SqT X.K H a vs) ?_ (repEs_of r) fun ad2 Hb2 H2 μ2 s W => .inl (.inl (W.tup (s.ex _ _ hq))))⟩
  have w := walk_tup (K := X.K) (a := a) (xs := vs)
  rw [r.length] at w
  rw [List.length_map]
  exact w
/-- over a list that may change, not while it is walked -/
theorem tip_cell {j : Nat} {zs : List E} {R : List E → (Mu → Prop) → Mu → Prop} (h : EV X e ρ μ (.pt j)) (hj : μ[j]? = some (some (.lst zs))) (q : R zs (fun μ2 => μ2[j]? = some (some (.lst zs))) μ) : TIP X tg e ρ μ R := fun ad Hb H σ W N R' g => by
  refine pi_go (pi_list pe_self) (h (fun y μ1 => y = .pt j ∧ μ1 = μ) ⟨rfl, rfl⟩ ad Hb H σ W N _ ?_)
  rintro v x μ1 ad1 Hb1 H1 ⟨rfl, rfl⟩ s1 W1 ⟨a, ha, rfl⟩
  obtain ⟨_, vs, hv, r⟩ := W1.off j a _ ha hj
  refine ⟨a, rfl, ⟨vs, .inl (.inl hv)⟩, g _ zs (fun μ2 => μ2[j]? = some (some (.lst zs))) _ _ _ _ q s1 W1 ⟨?_, ?_, ?_⟩⟩
  · intro i ad2 Hb2 H2 μ2 hi s W G
    obtain ⟨_, ws, hw, r2⟩ := W.off j a _ (s.at_ ha) G
    have hl := r2.length
    exact ⟨ws, ws[i]'(by omega), .inl (.inl hw), by rw [List.getElem?_eq_getElem (by omega)]⟩
  · intro ad2 Hb2 H2 μ2 s W G
    obtain ⟨_, ws, hw, r2⟩ := W.off j a _ (s.at_ ha) G
    exact ⟨ws, .inl (.inl hw), by rw [r2.length]; exact Nat.le_refl _⟩
  · intro i ad2 Hb2 H2 μ2 x H3 hi s W G y
    obtain ⟨_, ws, hw, r2⟩ := W.off j a _ (s.at_ ha) G
    obtain ⟨rfl, y⟩ := y
    obtain ⟨z, h1, h2⟩ := pd_right r2 i x (y ws (.inl (.inl hw)))
    exact ⟨Hb2, z, Step.refl _ _ _, W, h1, h2⟩
theorem pwalk_fn {K : PySem.W.Frag} {J : It} {ad : List Addr} {Hb H : Hp} {n : Nat} {f : Nat → V} {f' : Nat → P} (w : Walk J n (fun _ => True) (YFn f)) (r : ∀ i H, Rep K H (f i) (f' i)) : PWalk K J ad Hb H ((List.range n).map fun i => .sh (f' i)) (fun _ => True) where
  goes := fun i ad2 Hb2 H2 μ2 hi s W _ => w.goes i H2 (by simpa using hi) trivial
  stops := fun ad2 Hb2 H2 μ2 s W _ => by
    have := w.stops H2 trivial
    simpa using this
  yields := fun i ad2 Hb2 H2 μ2 x H3 hi s W _ y => by
    have hi2 : i < n := by simpa using hi
    obtain ⟨rfl, rfl⟩ := w.yields i H2 x H3 hi2 trivial y
    exact ⟨Hb2, .sh (f' i), Step.refl _ _ _, W, by simp [hi2], r i _⟩
theorem ei_range1 {n : Int} (hm : X.mg "range" = none) (h : EV X e ρ μ (.sh (.int n))) (hb : -(2 ^ 62) ≤ n ∧ n < 2 ^ 62) (hg : Gl X "range" := by rfl) (hs : starEach [e] X.env = [(false, eval e X.env)] := by rfl) : EI X tg (.Call (.Name "range" p2) [e] [] pos) ρ μ ((List.range n.toNat).map fun i => .sh (.int (i : Nat))) := fun R q ad Hb H σ W N R' g => by
  refine pi_go (pi_range1 hg hm pa_self hs) ((ea_cons h ea_nil hs) (fun ys μ1 => ys = [.sh (.int n)] ∧ μ1 = μ) ⟨rfl, rfl⟩ ad Hb H σ W N _ ?_)
  rintro vs ys μ1 ad1 Hb1 H1 ⟨rfl, rfl⟩ s1 W1 r1
  obtain ⟨v, rfl, r⟩ := vals1 r1
  obtain rfl := Rep.int_inv r
  refine ⟨n, rfl, hb.1, hb.2, g _ _ _ _ _ _ _ q s1 W1 (pwalk_fn walk_range fun i H => ?_)⟩
  rw [Int.zero_add]
  exact .int _
theorem ei_range2 {i j : Int} (hm : X.mg "range" = none) (ha : EV X a ρ μ (.sh (.int i))) (hb : EV X b ρ μ (.sh (.int j))) (hc : -(2 ^ 62) ≤ i ∧ i < 2 ^ 62 ∧ -(2 ^ 62) ≤ j ∧ j < 2 ^ 62) (hg : Gl X "range" := by rfl) (hs : starEach [a, b] X.env = [(false, eval a X.env), (false, eval b X.env)] := by rfl) (hs2 : starEach [b] X.env = [(false, eval b X.env)] := by rfl) :
    EI X tg (.Call (.Name "range" p2) [a, b] [] pos) ρ μ ((List.range (j - i).toNat).map fun k => .sh (.int (i + (k : Nat)))) := fun R q ad Hb H σ W N R' g => by
  refine pi_go (pi_range2 hg hm pa_self hs hs2) ((ea_cons ha (ea_cons hb ea_nil hs2) (by rw [hs, hs2])) (fun ys μ1 => ys = [.sh (.int i), .sh (.int j)] ∧ μ1 = μ) ⟨rfl, rfl⟩ ad Hb H σ W N _ ?_)
  rintro vs ys μ1 ad1 Hb1 H1 ⟨rfl, rfl⟩ s1 W1 r0
  obtain ⟨v, w, rfl, r1, r2⟩ := vals2E r0
  obtain rfl := Rep.int_inv r1
  obtain rfl := Rep.int_inv r2
  exact ⟨i, j, rfl, hc, g _ _ _ _ _ _ _ q s1 W1 (pwalk_fn walk_range fun k H => .int _)⟩
theorem vals3E {K : PySem.W.Frag} {ad : List Addr} {H : Hp} {vs : List V} {x y z : E} (r : RepEs K ad H vs [x, y, z]) : ∃ u v w, vs = [u, v, w] ∧ RepE K ad H u x ∧ RepE K ad H v y ∧ RepE K ad H w z := by
  cases r with
  | cons r t => cases t with
    | cons r2 t => cases t with
      | cons r3 t => cases t; exact ⟨_, _, _, rfl, r, r2, r3⟩
theorem pwalk_pair {K : PySem.W.Frag} {J : It} {ad : List Addr} {Hb H : Hp} {n : Nat} {f g : Nat → Option V} {f' g' : Nat → P} {Gh : Hp → Prop} (w : Walk J n Gh (YPair f g))
    (hG : ∀ (ad2 : List Addr) (Hb2 H2 : Hp) (μ2 : Mu), Step ad Hb H ad2 Hb2 H2 → Wd K ad2 Hb2 H2 μ2 → Gh H2) (rf : ∀ i v, i < n → f i = some v → Rep K Hb v (f' i)) (rg : ∀ i v, i < n → g i = some v → Rep K Hb v (g' i)) :
    PWalk K J ad Hb H ((List.range n).map fun i => .sh (.tup [f' i, g' i])) (fun _ => True) where
  goes := fun i ad2 Hb2 H2 μ2 hi s W _ => w.goes i H2 (by simpa using hi) (hG ad2 Hb2 H2 μ2 s W)
  stops := fun ad2 Hb2 H2 μ2 s W _ => by
    have := w.stops H2 (hG ad2 Hb2 H2 μ2 s W)
    simpa using this
  yields := fun i ad2 Hb2 H2 μ2 x H3 hi s W _ y => by
    have hi2 : i < n := by simpa using hi
    obtain ⟨T, u, v, rfl, hT, rfl, h1, h2⟩ := w.yields i H2 x H3 hi2 (hG ad2 Hb2 H2 μ2 s W) y
    obtain ⟨W2, s2⟩ := W.alloc (o := .tup [u, v]) hT
    exact ⟨_, .sh (.tup [f' i, g' i]), s2, W2, by simp [hi2], Rep.tupL upd_same (.cons (Rep.mono (s.ex.trans s2.ex) (rf i u hi2 h1)) (.cons (Rep.mono (s.ex.trans s2.ex) (rg i v hi2 h2)) .nil))⟩
theorem ei_enum {elts : List Expr} {kk : Nat} (hm : X.mg "enumerate" = none) (h : EV X e ρ μ (.sh (.lst xs))) (hg : Gl X "enumerate" := by rfl) (hs : starEach [e] X.env = [(false, eval e X.env)] := by rfl) :
    EI X (.Tuple elts kk tpos) (.Call (.Name "enumerate" p2) [e] [] pos) ρ μ ((List.range xs.length).map fun i => .sh (.tup [.int (i : Nat), xs.getD i .non])) := fun R q ad Hb H σ W N R' g => by
  refine pi_go (pi_enum hg hm pa_self hs) ((ea_cons h ea_nil hs) (fun ys μ1 => ys = [.sh (.lst xs)] ∧ μ1 = μ) ⟨rfl, rfl⟩ ad Hb H σ W N _ ?_)
  rintro vs ys μ1 ad1 Hb1 H1 ⟨rfl, rfl⟩ s1 W1 r1
  obtain ⟨v, rfl, r⟩ := vals1 r1
  obtain ⟨a, vs, rfl, hq, r⟩ := Rep.lst_inv r
  have w := walk_enum (K := X.K) (a := a) (xs := vs)
  refine ⟨a, vs, rfl, W1.sqL hq, g _ _ _ _ _ _ _ q s1 W1 (pwalk_pair (K := X.K) (f' := fun i => .int (i : Nat)) (g' := fun i => xs.getD i .non) (by rw [r.length] at w; exact w) (fun ad2 Hb2 H2 μ2 s W => W.sqL (s.ex.sqL hq)) (fun i v _ h => by cases h; exact .int _) fun i v hi h => ?_)⟩
  obtain ⟨z, h1, h2⟩ := pd_right r i v h
  rw [List.getD_eq_getElem?_getD, h1]
  exact h2
theorem ei_zip {elts : List Expr} {kk : Nat} (hm : X.mg "zip" = none) (ha : EV X a ρ μ (.sh (.lst xs))) (hb : EV X b ρ μ (.sh (.lst ys))) (hg : Gl X "zip" := by rfl) (hs : starEach [a, b] X.env = (false, eval a X.env) :: starEach [b] X.env := by rfl) (hs2 : starEach [b] X.env = (false, eval b X.env) :: starEach [] X.env := by rfl) :
    EI X (.Tuple elts kk tpos) (.Call (.Name "zip" p2) [a, b] [] pos) ρ μ ((List.range (min xs.length ys.length)).map fun i => .sh (.tup [xs.getD i .non, ys.getD i .non])) := fun R q ad Hb H σ W N R' g => by
  refine pi_go (pi_zip hg hm pa_self hs (by rw [hs2]; rfl)) ((ea_cons ha (ea_cons hb ea_nil hs2) hs) (fun zs μ1 => zs = [.sh (.lst xs), .sh (.lst ys)] ∧ μ1 = μ) ⟨rfl, rfl⟩ ad Hb H σ W N _ ?_)
  rintro vs zs μ1 ad1 Hb1 H1 ⟨rfl, rfl⟩ s1 W1 r0
  obtain ⟨v, w, rfl, r1, r2⟩ := vals2E r0
  obtain ⟨a, vs, rfl, hq, t1⟩ := Rep.lst_inv r1
  obtain ⟨b, ws, rfl, hq2, t2⟩ := Rep.lst_inv r2
  have w := walk_zip (K := X.K) (a := a) (b := b) (xs := vs) (ys := ws) (n := min xs.length ys.length) (by rw [t1.length, t2.length])
  refine ⟨a, b, vs, ws, rfl, W1.sqL hq, W1.sqL hq2, g _ _ _ _ _ _ _ q s1 W1 (pwalk_pair (K := X.K) (f' := fun i => xs.getD i .non) (g' := fun i => ys.getD i .non) w (fun ad2 Hb2 H2 μ2 s W => ⟨W.sqL (s.ex.sqL hq), W.sqL (s.ex.sqL hq2)⟩) (fun i v hi h => ?_) fun i v hi h => ?_)⟩
  · obtain ⟨z, h1, h2⟩ := pd_right t1 i v h
    rw [List.getD_eq_getElem?_getD, h1]
    exact h2
  · obtain ⟨z, h1, h2⟩ := pd_right t2 i v h
    rw [List.getD_eq_getElem?_getD, h1]
    exact h2

/-! ### targets -/
def TGV (X : Cx) (tg : Expr) : TG := fun v σ H Q => ∀ pins s u, Inv X pins σ H s → RelV v u → wpAny (model X.prog X.w) X.A (assign tg X.env u) (fun _ s' => ∃ σ' H', Inv X pins σ' H' s' ∧ Q σ' H') X.xe s
theorem pg_self : PG X tg (TGV X tg) := ⟨fun pins s _ _ _ u _ I r h => h pins s u I r⟩
theorem pg_go {t : TG} (h : PG X tg t) {v : V} {σ : L2.St} {H : Hp} {Q : L2.St → Hp → Prop} (q : t v σ H Q) : TGV X tg v σ H Q := fun pins s u I r => h.run pins s σ H v u Q I r q
/-- the slots but those of js are as they were -/
def But (js : List Nat) (σ σ' : L2.St) : Prop := σ'.length = σ.length ∧ ∀ i, i ∉ js → σ'[i]? = σ[i]?
theorem But.refl (js : List Nat) (σ : L2.St) : But js σ σ := ⟨rfl, fun _ _ => rfl⟩
theorem But.set {js : List Nat} {σ σ' : L2.St} (h : But js σ σ') {i : Nat} (hi : i ∈ js) (v : Option V) : But js σ (σ'.set i v) := ⟨by rw [List.length_set]; exact h.1, fun k hk => by
  rw [List.getElem?_set_ne (fun z : i = k => hk (by rw [← z]; exact hi))]
  exact h.2 k hk⟩
theorem wipe_get {σ σ' : L2.St} : ∀ (vs : List Nat), σ'.length = σ.length → (∀ i, i ∉ vs → σ'[i]? = σ[i]?) → wipe σ' vs = wipe σ vs := by
  intro vs hl h
  refine List.ext_getElem? fun i => ?_
  by_cases hi : i ∈ vs
  · have key : ∀ (vs : List Nat) (τ : L2.St), i ∈ vs → (wipe τ vs)[i]? = if i < τ.length then some none else none := by
      intro vs
      induction vs with
      | nil => intro τ h; cases h
      | cons v vs ih =>
        intro τ h
        unfold wipe
        by_cases e : v = i
        · subst e
          by_cases hv : v < τ.length
          · rw [List.getElem?_set_self (by rw [wipe_length]; exact hv), if_pos hv]
          · rw [List.getElem?_eq_none (by rw [List.length_set, wipe_length]; omega), if_neg hv]
        · rw [List.getElem?_set_ne e]
          exact ih τ ((List.mem_cons.mp h).resolve_left (fun z => e z.symm))
    rw [key vs σ' hi, key vs σ hi, hl]
  · rw [wipe_out hi, wipe_out hi, h i hi]
def TGP (X : Cx) (tg : Expr) (js : List Nat) (x : E) (ρ : Rho) (μ : Mu) (R : Rho → Mu → Prop) : Prop :=
  ∀ (ad : List Addr) (Hb H : Hp) (σ : L2.St) (v : V), Wd X.K ad Hb H μ → Env X.K ad Hb σ ρ → RepE X.K ad Hb v x → ∀ Q' : L2.St → Hp → Prop,
    (∀ (ρ' : Rho) (μ' : Mu) (ad' : List Addr) (Hb' H' : Hp) (σ' : L2.St), R ρ' μ' → Step ad Hb H ad' Hb' H' → Wd X.K ad' Hb' H' μ' → Env X.K ad' Hb' σ' ρ' → But js σ σ' → Q' σ' H') → TGV X tg v σ H Q'
theorem tgp_name (i : Nat) {js : List Nat} {n : Str} {x : E} {R : Rho → Mu → Prop} (q : R (ρ.set i (some x)) μ) (hj : i ∈ js) (hN : X.N.Nodup) (hi : X.N[i]? = some n) (hx : Loc X.env.scope n) (hf : X.fn n = true ∨ X.env.scope.names.lookup n = some .local) : TGP X (.Name n pos) js x ρ μ R := fun ad Hb H σ v W N r Q' g =>
  pg_go (pg_name hN hi hx hf) (g _ _ _ _ _ _ q (Step.refl _ _ _) W (N.set i r) ((But.refl js σ).set hj _))
def TGsV (X : Cx) (ts : List Expr) : TGs := fun vs σ H Q => ∀ pins s us, Inv X pins σ H s → Vals vs us → wpAny (model X.prog X.w) X.A (assignInOrder ((assignEach ts X.env).map (·.2)) us) (fun _ s' => ∃ σ' H', Inv X pins σ' H' s' ∧ Q σ' H') X.xe s
theorem pgs_self {ts : List Expr} : PGs X ts (TGsV X ts) := ⟨fun pins s _ _ _ us _ I r h => h pins s us I r⟩
theorem pgs_go {ts : List Expr} {t : TGs} (h : PGs X ts t) {vs : List V} {σ : L2.St} {H : Hp} {Q : L2.St → Hp → Prop} (q : t vs σ H Q) : TGsV X ts vs σ H Q := fun pins s us I r => h.run pins s σ H vs us Q I r q
def TGsP (X : Cx) (ts : List Expr) (js : List Nat) (xs : List E) (ρ : Rho) (μ : Mu) (R : Rho → Mu → Prop) : Prop :=
  ∀ (ad : List Addr) (Hb H : Hp) (σ : L2.St) (vs : List V), Wd X.K ad Hb H μ → Env X.K ad Hb σ ρ → RepEs X.K ad Hb vs xs → ∀ Q' : L2.St → Hp → Prop,
    (∀ (ρ' : Rho) (μ' : Mu) (ad' : List Addr) (Hb' H' : Hp) (σ' : L2.St), R ρ' μ' → Step ad Hb H ad' Hb' H' → Wd X.K ad' Hb' H' μ' → Env X.K ad' Hb' σ' ρ' → But js σ σ' → Q' σ' H') → TGsV X ts vs σ H Q'
theorem tgs_nil {js : List Nat} {R : Rho → Mu → Prop} (q : R ρ μ) : TGsP X [] js [] ρ μ R := fun ad Hb H σ vs W N r Q' g => by
  cases r
  exact pgs_go pgs_nil ⟨rfl, g _ _ _ _ _ _ q (Step.refl _ _ _) W N (But.refl _ _)⟩
theorem tgs_cons {js : List Nat} {x : E} {zs : List E} {R : Rho → Mu → Prop} (h : TGP X e js x ρ μ fun ρ1 μ1 => TGsP X es js zs ρ1 μ1 R) (hs : (assignEach (e :: es) X.env).map (·.2) = assign e X.env :: (assignEach es X.env).map (·.2) := by rfl) : TGsP X (e :: es) js (x :: zs) ρ μ R := fun ad Hb H σ vs W N r Q' g => by
  cases r with
  | cons r t =>
    refine pgs_go (pgs_cons pg_self pgs_self hs) ⟨_, _, rfl, h ad Hb H σ _ W N r _ fun ρ1 μ1 ad1 Hb1 H1 σ1 q1 s1 W1 N1 b1 => ?_⟩
    exact q1 ad1 Hb1 H1 σ1 _ W1 N1 (RepEs.step s1 t) Q' fun ρ2 μ2 ad2 Hb2 H2 σ2 q2 s2 W2 N2 b2 => g _ _ _ _ _ _ q2 (s1.trans s2) W2 N2 ⟨b2.1.trans b1.1, fun i hi => (b2.2 i hi).trans (b1.2 i hi)⟩
theorem tgp_tup {js : List Nat} {k n : Nat} {R : Rho → Mu → Prop} (hc : X.calm = true) (h : TGsP X es js (xs.map .sh) ρ μ R) (hl : xs.length = n)
    (hn : (assignEach es X.env).length = n := by rfl) (hst : (assignEach es X.env).findIdx? (·.1) = none := by rfl) : TGP X (.Tuple es k pos) js (.sh (.tup xs)) ρ μ R := fun ad Hb H σ v W N r Q' g => by
  obtain ⟨a, vs, rfl, hq, r⟩ := Rep.tup_inv r
  exact pg_go (pg_tup hc pgs_self hn hst) ⟨a, vs, rfl, .inl (.inl (W.tup hq)), by rw [r.length]; exact hl, h ad Hb H σ vs W N (repEs_of r) Q' g⟩

/-! ### comprehensions -/
def TTsV (X : Cx) (ifs : List Expr) : TT := fun σ H Q => ∀ pins s, Inv X pins σ H s →
  wpAny (model X.prog X.w) X.A (forIn ifs true fun c r => if r = true then do let ok ← isTrue c X.env (eval c X.env); pure (ForInStep.yield ok) else pure (ForInStep.yield r)) (TP X pins σ Q) X.xe s
theorem pts_self {ifs : List Expr} : PTs X ifs (TTsV X ifs) := ⟨fun pins s _ _ _ I h => h pins s I⟩
theorem pts_go {ifs : List Expr} {t : TT} (h : PTs X ifs t) {σ : L2.St} {H : Hp} {Q : Bool → Hp → Prop} (q : t σ H Q) : TTsV X ifs σ H Q := fun pins s I => h.run pins s σ H Q I q
def TTsP (X : Cx) (ifs : List Expr) (ρ : Rho) (μ : Mu) (Q : Bool → Mu → Prop) : Prop :=
  ∀ (ad : List Addr) (Hb H : Hp) (σ : L2.St), Wd X.K ad Hb H μ → Env X.K ad Hb σ ρ → ∀ Q', GoesT X.K ad Hb H Q Q' → TTsV X ifs σ H Q'
theorem tts_nil {Q : Bool → Mu → Prop} (q : Q true μ) : TTsP X [] ρ μ Q := fun ad Hb H σ W N Q' g => pts_go pts_nil (g true μ ad Hb H q (Step.refl _ _ _) W)
theorem tts_one {Q : Bool → Mu → Prop} (h : TTP X c ρ μ Q) : TTsP X [c] ρ μ Q := fun ad Hb H σ W N Q' g => pts_go (pts_one pt_self) (h ad Hb H σ W N Q' g)
/-- within a comprehension's block -/
def blkX (X : Cx) (scope : Scope) (s : Shared) (H : Hp) (C : Addr) (cl : List (Str × Addr)) (fp : List Addr) : Cx := X.blk s H scope (compEnvC scope cl C X.env) fp
def TEB (X : Cx) (scope : Scope) (e : Expr) (ρ : Rho) (μ : Mu) (Q : E → Mu → Prop) : Prop := ∀ s H C cl fp, TEP (X.blk s H scope (compEnvC scope cl C X.env) fp) e ρ μ Q
def TTsB (X : Cx) (scope : Scope) (ifs : List Expr) (ρ : Rho) (μ : Mu) (Q : Bool → Mu → Prop) : Prop := ∀ s H C cl fp, TTsP (X.blk s H scope (compEnvC scope cl C X.env) fp) ifs ρ μ Q
def TGB (X : Cx) (scope : Scope) (tg : Expr) (js : List Nat) (x : E) (ρ : Rho) (μ : Mu) (R : Rho → Mu → Prop) : Prop := ∀ s H C cl fp, TGP (X.blk s H scope (compEnvC scope cl C X.env) fp) tg js x ρ μ R
def wipeR (ρ : Rho) : List Nat → Rho
  | [] => ρ
  | v :: vs => (wipeR ρ vs).set v none
theorem wipeR_len (ρ : Rho) : ∀ vs : List Nat, (wipeR ρ vs).length = ρ.length
  | [] => rfl
  | v :: vs => by unfold wipeR; rw [List.length_set, wipeR_len ρ vs]
theorem wipeR_some {ρ : Rho} {i : Nat} {x : E} : ∀ {vs : List Nat}, (wipeR ρ vs)[i]? = some (some x) → ρ[i]? = some (some x) ∧ i ∉ vs
  | [], h => ⟨h, by simp⟩
  | v :: vs, h => by
    unfold wipeR at h
    by_cases hi : v = i
    · subst hi
      by_cases hv : v < (wipeR ρ vs).length
      · rw [List.getElem?_set_self hv] at h; cases h
      · rw [List.getElem?_eq_none (by simpa using hv)] at h; cases h
    · rw [List.getElem?_set_ne hi] at h
      obtain ⟨h1, h2⟩ := wipeR_some h
      exact ⟨h1, by simp only [List.mem_cons, not_or]; exact ⟨fun e => hi e.symm, h2⟩⟩
theorem Env.wipe {K : PySem.W.Frag} {ad : List Addr} {Hb : Hp} {σ : L2.St} (N : Env K ad Hb σ ρ) (vs : List Nat) : Env K ad Hb (wipe σ vs) (wipeR ρ vs) :=
  ⟨by rw [wipe_length, wipeR_len]; exact N.1, fun i x h => by
    obtain ⟨h1, h2⟩ := wipeR_some h
    obtain ⟨v, a, b⟩ := N.2 i x h1
    exact ⟨v, by rw [wipe_out h2]; exact a, b⟩⟩
/-- an object that is none of the world's is laid, changed -/
theorem Wd.apart {K : PySem.W.Frag} {ad : List Addr} {Hb H : Hp} {μ : Mu} {D : Addr} {o : HO} (W : Wd K ad Hb H μ) (h1 : D ∉ ad) (h2 : Hb D = none) : Wd K ad Hb (upd H D o) μ := by
  refine ⟨W.len, fun a u e => ?_, fun j a c ha hc => ?_, W.nd, fun a ha => upd_trk (W.trk a ha)⟩
  · have ea : a ≠ D := by
      rintro rfl
      rw [h2] at e
      cases e
    exact (W.inc a u e).keep (upd_ne ea)
  · obtain ⟨h3, h4⟩ := W.off j a c ha hc
    have ea : a ≠ D := by
      rintro rfl
      exact h1 (List.mem_of_getElem? ha)
    exact ⟨h3, h4.keep (upd_ne ea) fun _ _ r => r⟩
theorem Step.apart {ad ad2 : List Addr} {Hb H Hb2 H2 : Hp} {D : Addr} {o : HO} (s : Step ad Hb H ad2 Hb2 H2) (h : H D = none) : Step ad Hb H ad2 Hb2 (upd H2 D o) :=
  ⟨s.ex, s.pre, s.new, fun a u ha e => by rw [upd_ne (ne_of_none e h)]; exact s.fr a u ha e, s.fgn, fun a u q hb e => by rw [upd_ne (ne_of_none e h)]; exact s.bs a u q hb e⟩
/-- .. and becomes a part of it: of the base, a cell -/
theorem Wd.adopt {K : PySem.W.Frag} {ad ad2 : List Addr} {Hb H Hb2 H2 : Hp} {μ : Mu} {D : Addr} {o : HO} (s : Step ad Hb H ad2 Hb2 H2) (W : Wd K ad2 Hb2 H2 μ) (h : H D = none) (h1 : D ∉ ad2) (h2 : Hb2 D = none) (h3 : H2 D = some o) :
    Wd K ad2 (upd Hb2 D o) H2 μ ∧ Step ad Hb H ad2 (upd Hb2 D o) H2 := by
  refine ⟨⟨W.len, fun a u e => ?_, fun j a c ha hc => ?_, W.nd, W.trk⟩, ⟨s.ex.trans (Ex.new h2), s.pre, s.new, s.fr, fun a u ha e t n => ?_, s.bs⟩⟩
  · by_cases ea : a = D
    · subst ea
      rw [upd_same] at e
      cases e
      exact Std.of h3
    · rw [upd_ne ea] at e
      exact W.inc a u e
  · obtain ⟨h4, h5⟩ := W.off j a c ha hc
    have ea : a ≠ D := by
      rintro rfl
      exact h1 (List.mem_of_getElem? ha)
    exact ⟨by rw [upd_ne ea]; exact h4, h5.keep rfl fun v x r => repE_mono (Ex.new h2) ⟨[], by simp⟩ r⟩
  · rw [upd_ne (ne_of_none e h)]
    exact s.fgn a u ha e t n
theorem Wd.adoptC {K : PySem.W.Frag} {ad ad2 : List Addr} {Hb H Hb2 H2 : Hp} {μ : Mu} {D : Addr} {c : Cell} (s : Step ad Hb H ad2 Hb2 H2) (W : Wd K ad2 Hb2 H2 μ) (h : H D = none) (h1 : D ∉ ad2) (h2 : Hb2 D = none) (ok : CellOk K ad2 Hb2 H2 D c) :
    Wd K (ad2 ++ [D]) Hb2 H2 (μ ++ [some c]) ∧ Step ad Hb H (ad2 ++ [D]) Hb2 H2 := by
  have sp : ∀ (j : Nat) (a : Addr) (d : Cell), (ad2 ++ [D])[j]? = some a → (μ ++ [some c])[j]? = some (some d) → (ad2[j]? = some a ∧ μ[j]? = some (some d)) ∨ (j = ad2.length ∧ a = D ∧ d = c) := fun j a d ha hd => by
    by_cases hj : j < ad2.length
    · rw [List.getElem?_append_left hj] at ha
      rw [List.getElem?_append_left (by rw [← W.len]; exact hj)] at hd
      exact .inl ⟨ha, hd⟩
    · have hj2 : j = ad2.length := by
        have := (List.getElem?_eq_some_iff.mp ha).1
        rw [List.length_append, List.length_singleton] at this
        omega
      subst hj2
      rw [List.getElem?_append_right (Nat.le_refl _)] at ha
      rw [W.len, List.getElem?_append_right (Nat.le_refl _)] at hd
      simp at ha hd
      exact .inr ⟨rfl, ha.symm, hd.symm⟩
  have tr : H2 D ≠ none := by
    obtain ⟨o, e, _⟩ := ok.some
    rw [e]
    exact fun z => nomatch z
  refine ⟨⟨by simp [W.len], W.inc, fun j a d ha hd => ?_, fun i j a d e hi hj hd he => ?_, fun a ha => ?_⟩, ⟨s.ex, ?_, fun a z => ?_, s.fr, s.fgn, s.bs⟩⟩
  · rcases sp j a d ha hd with ⟨h3, h4⟩ | ⟨_, rfl, rfl⟩
    · obtain ⟨h5, h6⟩ := W.off j a d h3 h4
      exact ⟨h5, h6.keep rfl fun v x r => repE_mono (Ex.refl _) ⟨[D], rfl⟩ r⟩
    · exact ⟨h2, ok.keep rfl fun v x r => repE_mono (Ex.refl _) ⟨[a], rfl⟩ r⟩
  · rcases sp i a d hi hd with ⟨h3, h4⟩ | ⟨h3, h4, _⟩
    · rcases sp j a e hj he with ⟨h5, h6⟩ | ⟨_, h6, _⟩
      · exact W.nd i j a d e h3 h5 h4 h6
      · subst h6
        exact absurd (List.mem_of_getElem? h3) h1
    · rcases sp j a e hj he with ⟨h5, _⟩ | ⟨h5, _, _⟩
      · subst h4
        exact absurd (List.mem_of_getElem? h5) h1
      · omega
  · rcases List.mem_append.mp ha with z | z
    · exact W.trk a z
    · have : a = D := by simpa using z
      subst this
      exact tr
  · obtain ⟨l, e⟩ := s.pre
    exact ⟨l ++ [D], by rw [e, List.append_assoc]⟩
  · rcases List.mem_append.mp z with z | z
    · exact s.new a z
    · have : a = D := by simpa using z
      subst this
      exact .inr h
abbrev gB (X : Cx) (scope : Scope) (tg : Expr) : TG := fun v σ H Q => ∀ s H0 C cl fp, TGV (X.blk s H0 scope (compEnvC scope cl C X.env) fp) tg v σ H Q
abbrev tB (X : Cx) (scope : Scope) (ifs : List Expr) : TT := fun σ H Q => ∀ s H0 C cl fp, TTsV (X.blk s H0 scope (compEnvC scope cl C X.env) fp) ifs σ H Q
abbrev eB (X : Cx) (scope : Scope) (e : Expr) : TE := fun σ H Q => ∀ s H0 C cl fp, TEV (X.blk s H0 scope (compEnvC scope cl C X.env) fp) e σ H Q
theorem pgB {scope : Scope} (s : Shared) (H : Hp) (C : Addr) (cl : List (Str × Addr)) (fp : List Addr) : PG (X.blk s H scope (compEnvC scope cl C X.env) fp) tg (gB X scope tg) := ⟨fun pins s1 σ1 H1 v u Q I r h => h s H C cl fp pins s1 u I r⟩
theorem ptB {scope : Scope} {ifs : List Expr} (s : Shared) (H : Hp) (C : Addr) (cl : List (Str × Addr)) (fp : List Addr) : PTs (X.blk s H scope (compEnvC scope cl C X.env) fp) ifs (tB X scope ifs) := ⟨fun pins s1 σ1 H1 Q I h => h s H C cl fp pins s1 I⟩
theorem peB {scope : Scope} (s : Shared) (H : Hp) (C : Addr) (cl : List (Str × Addr)) (fp : List Addr) : PE (X.blk s H scope (compEnvC scope cl C X.env) fp) e (eB X scope e) := ⟨fun pins s1 σ1 H1 Q I h => h s H C cl fp pins s1 I⟩
/-- the comprehension's loop; Fin: what is wanted of the new list's items -/
theorem lc_main {elt : Expr} {ifs : List Expr} {scope : Scope} {own : List (Str × Nat)} {js : List Nat} {Q' : VK} {ad : List Addr} {Hb H : Hp} {σ : L2.St} {Fin : List E → Mu → Prop} (hjs : ∀ j ∈ js, j ∈ own.map (·.2))
    (h : TIP X tg iter ρ μ fun items G μ1 => ∃ I : Nat → List E → Mu → Prop, I 0 [] μ1 ∧ (∀ i acc μ2, i ≤ items.length → I i acc μ2 → G μ2) ∧
      (∀ i x acc μ2, items[i]? = some x → I i acc μ2 → TGB X scope tg js x (wipeR ρ (own.map (·.2))) μ2 fun ρ3 μ3 => TTsB X scope ifs ρ3 μ3 fun b μ4 => if b = true then TEB X scope elt ρ3 μ4 (fun y μ5 => acc.length < 100000 ∧ I (i + 1) (acc ++ [y]) μ5) else I (i + 1) acc μ4) ∧
      ∀ acc μ2, I items.length acc μ2 → Fin acc μ2)
    (W : Wd X.K ad Hb H μ) (N : Env X.K ad Hb σ ρ)
    (fin : ∀ (D : Addr) (acc : List E) (μ2 : Mu) (vs : List V) (ad1 : List Addr) (Hb1 H1 : Hp) (ad2 : List Addr) (Hb2 H2 : Hp), Step ad Hb H ad1 Hb1 H1 → Step ad1 Hb1 H1 ad2 Hb2 H2 → Wd X.K ad2 Hb2 H2 μ2 → H1 D = none → D ∉ ad2 → Hb2 D = none → H2 D = some (.lst vs) → RepEs X.K ad2 Hb2 vs acc → Fin acc μ2 → Q' (.ref D) H2)
    : tLc (TIV X tg iter) (gB X scope tg) (tB X scope ifs) (eB X scope elt) (own.map (·.2)) σ H Q' := by
  refine h ad Hb H σ W N _ fun J items G μ1 ad1 Hb1 H1 ⟨I, i0, hG, turn, done⟩ s1 W1 w D hD => ?_
  have nD : D ∉ ad1 := fun z => W1.trk D z hD
  have bD : Hb1 D = none := W1.base_none hD
  -- the state between two turns
  let Pv : Nat → Hp → Prop := fun i H' => ∃ acc μ2 vs ad2 Hb2, I i acc μ2 ∧ Step ad1 Hb1 H1 ad2 Hb2 H' ∧ Wd X.K ad2 Hb2 H' μ2 ∧ D ∉ ad2 ∧ Hb2 D = none ∧ H' D = some (.lst vs) ∧ RepEs X.K ad2 Hb2 vs acc
  refine ⟨fun i m H' => m = items.length - i ∧ i ≤ items.length ∧ Pv i H', ⟨items.length, rfl, Nat.zero_le _, [], μ1, [], ad1, Hb1, i0, (Step.refl _ _ _).apart hD, W1.apart nD bD, nD, bD, upd_same, .nil⟩, ?_⟩
  rintro i m H' ⟨rfl, hi, acc, μ2, vs, ad2, Hb2, iI, s2, W2, n2, b2, d2, r2⟩
  by_cases hlt : i < items.length
  · refine .inr ⟨w.goes i ad2 Hb2 H' μ2 hlt s2 W2 (hG i acc μ2 hi iI), Pv (i + 1), fun H'' p => ⟨items.length - (i + 1), by omega, rfl, hlt, p⟩, fun x H3 y => ?_⟩
    obtain ⟨Hb3, e, s3, W3, he, re⟩ := w.yields i ad2 Hb2 H' μ2 x H3 hlt s2 W2 (hG i acc μ2 hi iI) y
    have t3 := s2.trans s3
    intro s H0 C cl fp
    refine turn i e acc μ2 he iI s H0 C cl fp ad2 Hb3 H3 _ x W3 ((Env.step (s1.trans t3) N).wipe _) re _ fun ρ4 μ4 ad4 Hb4 H4 σ4 q4 s4 W4 N4 b4 => ?_
    refine ⟨?_, ?_⟩
    · have e1 := wipe_get (σ := wipe σ (own.map (·.2))) (σ' := σ4) (own.map (·.2)) b4.1 fun k hk => b4.2 k fun z => hk (hjs k z)
      rw [e1]
      exact wipe_get _ (wipe_length _ _) fun k hk => wipe_out hk
    intro s H0 C cl fp
    refine q4 s H0 C cl fp ad4 Hb4 H4 σ4 W4 N4 _ fun b μ5 ad5 Hb5 H5 q5 s5 W5 => ?_
    have k1 : D ∉ ad5 ∧ Hb5 D = none ∧ H5 D = some (.lst vs) := by
      have d3 := s3.fr0 n2 b2 d2
      have b3 := s3.fgn D _ n2 d2 rfl b2
      have d4 := s4.fr0 n2 b3 d3
      have b4' := s4.fgn D _ n2 d3 rfl b3
      have n4 : D ∉ ad4 := fun z => by
        rcases s4.new D z with z | z
        · exact n2 z
        · rw [d3] at z; cases z
      have n5 : D ∉ ad5 := fun z => by
        rcases s5.new D z with z | z
        · exact n4 z
        · rw [d4] at z; cases z
      exact ⟨n5, s5.fgn D _ n4 d4 rfl b4', s5.fr0 n4 b4' d4⟩
    have t5 := t3.trans (s4.trans s5)
    have r5 := RepEs.step (s3.trans (s4.trans s5)) r2
    cases b with
    | false => exact ⟨acc, μ5, vs, ad5, Hb5, q5, t5, W5, k1.1, k1.2.1, k1.2.2, r5⟩
    | true =>
      intro s H0 C cl fp
      refine q5 s H0 C cl fp ad5 Hb5 H5 σ4 W5 (Env.step s5 N4) _ fun z y μ6 ad6 Hb6 H6 q6 s6 W6 r6 => ?_
      have d6 := s6.fr0 k1.1 k1.2.1 k1.2.2
      have b6 := s6.fgn D _ k1.1 k1.2.2 rfl k1.2.1
      have n6 : D ∉ ad6 := fun z => by
        rcases s6.new D z with z | z
        · exact k1.1 z
        · rw [k1.2.2] at z; cases z
      have r7 := RepEs.step s6 r5
      refine ⟨vs, d6, Nat.lt_of_lt_of_le (by rw [r2.length]; exact q6.1) (by decide), acc ++ [y], μ6, vs ++ [z], ad6, Hb6, q6.2, (t5.trans s6).apart hD, W6.apart n6 b6, n6, b6, upd_same, pd_app r7 (.cons r6 .nil)⟩
  · have e : i = items.length := by omega
    subst e
    exact .inl ⟨w.stops ad2 Hb2 H' μ2 s2 W2 (hG _ acc μ2 hi iI), fin D acc μ2 vs ad1 Hb1 H1 ad2 Hb2 H' s1 s2 W2 hD n2 b2 d2 r2 (done acc μ2 iI)⟩

/-- [elt for tg in iter if ..]: shared; a cell -/
theorem tep_lc {elt : Expr} {ifs : List Expr} {scope : Scope} {Q : E → Mu → Prop} (own : List (Str × Nat)) (js : List Nat) (hc : X.calm = true) (hN : X.N.Nodup) (ok : BlkOk X.N X.env.scope scope own) (hjs : ∀ j ∈ js, j ∈ own.map (·.2))
    (h : TIP X tg iter ρ μ fun items G μ1 => ∃ I : Nat → List E → Mu → Prop, I 0 [] μ1 ∧ (∀ i acc μ2, i ≤ items.length → I i acc μ2 → G μ2) ∧
      (∀ i x acc μ2, items[i]? = some x → I i acc μ2 → TGB X scope tg js x (wipeR ρ (own.map (·.2))) μ2 fun ρ3 μ3 => TTsB X scope ifs ρ3 μ3 fun b μ4 => if b = true then TEB X scope elt ρ3 μ4 (fun y μ5 => acc.length < 100000 ∧ I (i + 1) (acc ++ [y]) μ5) else I (i + 1) acc μ4) ∧
      ∀ acc μ2, I items.length acc μ2 → ∃ zs : List P, acc = zs.map .sh ∧ Q (.sh (.lst zs)) μ2)
    (hs : ∀ x, foldedSetIterable iter X.env x = pure x := by intro _; rfl) : TEP X (.ListComp elt [⟨tg, iter, ifs, 0⟩] scope pos) ρ μ Q := fun ad Hb H σ W N Q' g => by
  refine pe_go (pe_lc hc hN pi_self ok pgB ptB peB hs) (lc_main (Fin := fun acc μ2 => ∃ zs : List P, acc = zs.map .sh ∧ Q (.sh (.lst zs)) μ2) hjs h W N ?_)
  rintro D acc μ2 vs ad1 Hb1 H1 ad2 Hb2 H2 s1 s2 W2 h1 h2 h3 h4 r ⟨zs, rfl, q⟩
  obtain ⟨W3, s3⟩ := W2.adopt s2 h1 h2 h3 h4
  exact g _ (.sh (.lst zs)) _ _ _ _ q (s1.trans s3) W3 (Rep.lstL upd_same (RepL.mono (Ex.new h3) (repEs_sh r)))
theorem tep_lcC {elt : Expr} {ifs : List Expr} {scope : Scope} {Q : E → Mu → Prop} (own : List (Str × Nat)) (js : List Nat) (hc : X.calm = true) (hN : X.N.Nodup) (ok : BlkOk X.N X.env.scope scope own) (hjs : ∀ j ∈ js, j ∈ own.map (·.2))
    (h : TIP X tg iter ρ μ fun items G μ1 => ∃ I : Nat → List E → Mu → Prop, I 0 [] μ1 ∧ (∀ i acc μ2, i ≤ items.length → I i acc μ2 → G μ2) ∧
      (∀ i x acc μ2, items[i]? = some x → I i acc μ2 → TGB X scope tg js x (wipeR ρ (own.map (·.2))) μ2 fun ρ3 μ3 => TTsB X scope ifs ρ3 μ3 fun b μ4 => if b = true then TEB X scope elt ρ3 μ4 (fun y μ5 => acc.length < 100000 ∧ I (i + 1) (acc ++ [y]) μ5) else I (i + 1) acc μ4) ∧
      ∀ acc μ2, I items.length acc μ2 → Q (.pt μ2.length) (μ2 ++ [some (.lst acc)]))
    (hs : ∀ x, foldedSetIterable iter X.env x = pure x := by intro _; rfl) : TEP X (.ListComp elt [⟨tg, iter, ifs, 0⟩] scope pos) ρ μ Q := fun ad Hb H σ W N Q' g => by
  refine pe_go (pe_lc hc hN pi_self ok pgB ptB peB hs) (lc_main (Fin := fun acc μ2 => Q (.pt μ2.length) (μ2 ++ [some (.lst acc)])) hjs h W N ?_)
  intro D acc μ2 vs ad1 Hb1 H1 ad2 Hb2 H2 s1 s2 W2 h1 h2 h3 h4 r q
  obtain ⟨W3, s3⟩ := W2.adoptC (c := .lst acc) s2 h1 h2 h3 ⟨vs, h4, r⟩
  exact g _ (.pt μ2.length) _ _ _ _ q (s1.trans s3) W3 ⟨D, by rw [← W2.len]; simp, rfl⟩
/-- a pure one, over what a list of any type gives -/
theorem lc_inv {α : Type} {l : List α} {f : α → P} {p : α → Bool} {g : α → P} {ρ' : α → Rho} {elt : Expr} {ifs : List Expr} {scope : Scope} {own : List (Str × Nat)} {js : List Nat} {Fin : List E → Mu → Prop} (hi : EI X tg iter ρ μ (l.map fun a => .sh (f a))) (hl : l.length ≤ 100000)
    (ht : ∀ a ∈ l, ∀ R : Rho → Mu → Prop, R (ρ' a) μ → TGB X scope tg js (.sh (f a)) (wipeR ρ (own.map (·.2))) μ R)
    (hp : ∀ a ∈ l, ∀ Q : Bool → Mu → Prop, Q (p a) μ → TTsB X scope ifs (ρ' a) μ Q) (he : ∀ a ∈ l, p a = true → ∀ Q : E → Mu → Prop, Q (.sh (g a)) μ → TEB X scope elt (ρ' a) μ Q) (q : Fin (((l.filter p).map g).map .sh) μ) :
    TIP X tg iter ρ μ fun items G μ1 => ∃ I : Nat → List E → Mu → Prop, I 0 [] μ1 ∧ (∀ i acc μ2, i ≤ items.length → I i acc μ2 → G μ2) ∧
      (∀ i x acc μ2, items[i]? = some x → I i acc μ2 → TGB X scope tg js x (wipeR ρ (own.map (·.2))) μ2 fun ρ3 μ3 => TTsB X scope ifs ρ3 μ3 fun b μ4 => if b = true then TEB X scope elt ρ3 μ4 (fun y μ5 => acc.length < 100000 ∧ I (i + 1) (acc ++ [y]) μ5) else I (i + 1) acc μ4) ∧
      ∀ acc μ2, I items.length acc μ2 → Fin acc μ2 := by
  refine hi _ ⟨fun i acc μ2 => μ2 = μ ∧ acc = (((l.take i).filter p).map g).map .sh, ⟨rfl, rfl⟩, fun _ _ _ _ _ => trivial, ?_, ?_⟩
  · rintro i x acc μ2 hx ⟨rfl, rfl⟩
    rw [List.getElem?_map] at hx
    cases e : l[i]? with
    | none => rw [e] at hx; cases hx
    | some a =>
      rw [e] at hx
      cases hx
      have ha : a ∈ l := List.mem_of_getElem? e
      have ht' : l.take (i + 1) = l.take i ++ [a] := by
        rw [List.take_add_one, e]
        rfl
      refine ht a ha _ (hp a ha _ ?_)
      by_cases c : p a = true
      · rw [if_pos c]
        refine he a ha c _ ⟨?_, rfl, ?_⟩
        · have h1 := List.length_filter_le p (l.take i)
          have h2 := (List.getElem?_eq_some_iff.mp e).1
          rw [List.length_map, List.length_map]
          rw [List.length_take] at h1
          omega
        · rw [ht', List.filter_append, List.map_append, List.map_append]
          simp [c]
      · rw [if_neg c]
        refine ⟨rfl, ?_⟩
        rw [ht', List.filter_append, List.map_append, List.map_append]
        simp [c]
  · rintro acc μ2 ⟨rfl, rfl⟩
    rw [List.length_map, List.take_length]
    exact q
theorem ev_lc {α : Type} (l : List α) (f : α → P) (p : α → Bool) (g : α → P) (ρ' : α → Rho) {elt : Expr} {ifs : List Expr} {scope : Scope} (own : List (Str × Nat)) (js : List Nat) (hc : X.calm = true) (hN : X.N.Nodup) (ok : BlkOk X.N X.env.scope scope own) (hjs : ∀ j ∈ js, j ∈ own.map (·.2))
    (hi : EI X tg iter ρ μ (l.map fun a => .sh (f a))) (hl : l.length ≤ 100000)
    (ht : ∀ a ∈ l, ∀ R : Rho → Mu → Prop, R (ρ' a) μ → TGB X scope tg js (.sh (f a)) (wipeR ρ (own.map (·.2))) μ R)
    (hp : ∀ a ∈ l, ∀ Q : Bool → Mu → Prop, Q (p a) μ → TTsB X scope ifs (ρ' a) μ Q) (he : ∀ a ∈ l, p a = true → ∀ Q : E → Mu → Prop, Q (.sh (g a)) μ → TEB X scope elt (ρ' a) μ Q)
    (hs : ∀ x, foldedSetIterable iter X.env x = pure x := by intro _; rfl) : EV X (.ListComp elt [⟨tg, iter, ifs, 0⟩] scope pos) ρ μ (.sh (.lst ((l.filter p).map g))) := fun Q q =>
  tep_lc own js hc hN ok hjs (lc_inv hi hl ht hp he ⟨_, rfl, q⟩) hs
end
end PV

/-! Statements, defs. -/
namespace PV
open PySem PySem.Spec PyProof.Rows L2

def TSV (X : Cx) (st : Stmt) : TS := fun D σ H => ∀ pins s, Inv X pins σ H s → wpAny (model X.prog X.w) X.A (exec st X.env) (SP X pins D) X.xe s
def TSsV (X : Cx) (st : List Stmt) : TS := fun D σ H => ∀ pins s, Inv X pins σ H s → wpAny (model X.prog X.w) X.A (execs st X.env) (SP X pins D) X.xe s
theorem ps_self {X : Cx} {st : Stmt} : PS X st (TSV X st) := ⟨fun pins s _ _ _ I h => h pins s I⟩
theorem pss_self {X : Cx} {st : List Stmt} : PSs X st (TSsV X st) := ⟨fun pins s _ _ _ I h => h pins s I⟩
theorem ps_go {X : Cx} {st : Stmt} {t : TS} (h : PS X st t) {σ : L2.St} {H : Hp} {D : Ends} (q : t D σ H) : TSV X st D σ H := fun pins s I => h.run pins s σ H D I q
theorem pss_go {X : Cx} {st : List Stmt} {t : TS} (h : PSs X st t) {σ : L2.St} {H : Hp} {D : Ends} (q : t D σ H) : TSsV X st D σ H := fun pins s I => h.run pins s σ H D I q

/-- what is wanted behind a statement -/
structure Out where
  nx : Rho → Mu → Prop
  rt : E → Mu → Prop
  bk : Rho → Mu → Prop := fun _ _ => False
  ct : Rho → Mu → Prop := fun _ _ => False
def GoesR (K : PySem.W.Frag) (ad : List Addr) (Hb H : Hp) (R : Rho → Mu → Prop) (R' : L2.St → Hp → Prop) : Prop :=
  ∀ (σ' : L2.St) (ρ' : Rho) (μ' : Mu) (ad' : List Addr) (Hb' H' : Hp), R ρ' μ' → Step ad Hb H ad' Hb' H' → Wd K ad' Hb' H' μ' → Env K ad' Hb' σ' ρ' → R' σ' H'
structure GoesS (K : PySem.W.Frag) (ad : List Addr) (Hb H : Hp) (D : Out) (D' : Ends) : Prop where
  nx : GoesR K ad Hb H D.nx D'.nx
  rt : Goes K ad Hb H D.rt D'.rt
  bk : GoesR K ad Hb H D.bk D'.bk
  ct : GoesR K ad Hb H D.ct D'.ct
section
variable {K : PySem.W.Frag} {ad ad1 : List Addr} {Hb H Hb1 H1 : Hp} {D : Out} {D' : Ends}
theorem GoesR.after {R : Rho → Mu → Prop} {R' : L2.St → Hp → Prop} (g : GoesR K ad Hb H R R') (s : Step ad Hb H ad1 Hb1 H1) : GoesR K ad1 Hb1 H1 R R' := fun σ' ρ' μ' ad' Hb' H' q s' W N => g σ' ρ' μ' ad' Hb' H' q (s.trans s') W N
theorem GoesS.after (g : GoesS K ad Hb H D D') (s : Step ad Hb H ad1 Hb1 H1) : GoesS K ad1 Hb1 H1 D D' := ⟨g.nx.after s, g.rt.after s, g.bk.after s, g.ct.after s⟩
end
def TSP (X : Cx) (st : Stmt) (ρ : Rho) (μ : Mu) (D : Out) : Prop :=
  ∀ (ad : List Addr) (Hb H : Hp) (σ : L2.St), Wd X.K ad Hb H μ → Env X.K ad Hb σ ρ → ∀ D' : Ends, GoesS X.K ad Hb H D D' → TSV X st D' σ H
def TSs (X : Cx) (st : List Stmt) (ρ : Rho) (μ : Mu) (D : Out) : Prop :=
  ∀ (ad : List Addr) (Hb H : Hp) (σ : L2.St), Wd X.K ad Hb H μ → Env X.K ad Hb σ ρ → ∀ D' : Ends, GoesS X.K ad Hb H D D' → TSsV X st D' σ H
section
variable {X : Cx} {st : Stmt} {rest bodyS elseS : List Stmt} {tg a b c e o iter : Expr} {es : List Expr} {ρ : Rho} {μ : Mu} {D : Out} {pos pos' p2 : Pos}
theorem tss_nil (q : D.nx ρ μ) : TSs X [] ρ μ D := fun ad Hb H σ W N D' g => pss_go pss_nil (g.nx _ _ _ _ _ _ q (Step.refl _ _ _) W N)
theorem tss_cons (h : TSP X st ρ μ { D with nx := fun ρ1 μ1 => TSs X rest ρ1 μ1 D }) : TSs X (st :: rest) ρ μ D := fun ad Hb H σ W N D' g =>
  pss_go (pss_cons ps_self pss_self) (h ad Hb H σ W N _ ⟨fun σ' ρ' μ' ad' Hb' H' q s W' N' => q ad' Hb' H' σ' W' N' D' (g.after s), g.rt, g.bk, g.ct⟩)
theorem tss_one (h : TSP X st ρ μ D) : TSs X [st] ρ μ D := fun ad Hb H σ W N D' g => pss_go (pss_one ps_self) (h ad Hb H σ W N D' g)
theorem tsp_pass (q : D.nx ρ μ) : TSP X (.Pass pos) ρ μ D := fun ad Hb H σ W N D' g => ps_go ps_pass (g.nx _ _ _ _ _ _ q (Step.refl _ _ _) W N)
theorem tsp_break (q : D.bk ρ μ) : TSP X (.Break pos) ρ μ D := fun ad Hb H σ W N D' g => ps_go ps_break (g.bk _ _ _ _ _ _ q (Step.refl _ _ _) W N)
theorem tsp_continue (q : D.ct ρ μ) : TSP X (.Continue pos) ρ μ D := fun ad Hb H σ W N D' g => ps_go ps_continue (g.ct _ _ _ _ _ _ q (Step.refl _ _ _) W N)
theorem tsp_expr (h : TEP X e ρ μ fun _ μ1 => D.nx ρ μ1) (hs : swapsWith e none pos.line X.env = pure false := by rfl) : TSP X (.Expr e pos) ρ μ D := fun ad Hb H σ W N D' g =>
  ps_go (ps_expr pe_self hs) (h ad Hb H σ W N _ fun v x μ1 ad1 Hb1 H1 q s W1 r => g.nx _ _ _ _ _ _ q s W1 (N.step s))
theorem tsp_ret (h : TEP X e ρ μ D.rt) : TSP X (.Return (some e) pos) ρ μ D := fun ad Hb H σ W N D' g => ps_go (ps_ret pe_self) (h ad Hb H σ W N _ g.rt)
theorem tsp_retN (h : D.rt (.sh .non) μ) : TSP X (.Return none pos) ρ μ D := fun ad Hb H σ W N D' g => ps_go ps_retN (g.rt _ (.sh .non) _ _ _ _ h (Step.refl _ _ _) W .non)
theorem tsp_if (h : TTP X c ρ μ fun d μ1 => if d = true then TSs X bodyS ρ μ1 D else TSs X elseS ρ μ1 D) : TSP X (.If c bodyS elseS pos) ρ μ D := fun ad Hb H σ W N D' g => by
  refine ps_go (ps_if pt_self pss_self pss_self) (h ad Hb H σ W N _ fun d μ1 ad1 Hb1 H1 q s W1 => ?_)
  cases d with
  | true => exact q ad1 Hb1 H1 σ W1 (N.step s) D' (g.after s)
  | false => exact q ad1 Hb1 H1 σ W1 (N.step s) D' (g.after s)
theorem tsp_ifE {d : Bool} (h : ET X c ρ μ d) (h1 : d = true → TSs X bodyS ρ μ D) (h2 : d = false → TSs X elseS ρ μ D) : TSP X (.If c bodyS elseS pos) ρ μ D := tsp_if (h _ (by
  cases d with
  | true => exact h1 rfl
  | false => exact h2 rfl))
theorem tsp_set (i : Nat) {n : Str} (h : TEP X e ρ μ fun x μ1 => D.nx (ρ.set i (some x)) μ1) (hN : X.N.Nodup) (hi : X.N[i]? = some n) (hx : Loc X.env.scope n) (hf : X.fn n = true ∨ X.env.scope.names.lookup n = some .local) (hs : swapsWith e (some (.Name n pos')) pos.line X.env = pure false := by rfl) : TSP X (.Assign [.Name n pos'] e pos) ρ μ D := fun ad Hb H σ W N D' g =>
  ps_go (ps_set hN hi hx pe_self hs hf) (h ad Hb H σ W N _ fun v x μ1 ad1 Hb1 H1 q s W1 r => g.nx _ _ _ _ _ _ q s W1 ((N.step s).set i r))
theorem tsp_asg (js : List Nat) (h : TEP X e ρ μ fun x μ1 => TGP X tg js x ρ μ1 D.nx) (hs : swapsWithSole [tg] e pos.line X.env = pure false := by rfl) (hw : swappedStores [tg] e X.env = pure none := by rfl) (h1 : (assignEach [tg] X.env).map (·.2) = [assign tg X.env] := by rfl) : TSP X (.Assign [tg] e pos) ρ μ D := fun ad Hb H σ W N D' g =>
  ps_go (ps_asg pe_self pg_self hs hw h1) (h ad Hb H σ W N _ fun v x μ1 ad1 Hb1 H1 q s W1 r => q ad1 Hb1 H1 σ v W1 (N.step s) r _ fun ρ2 μ2 ad2 Hb2 H2 σ2 q2 s2 W2 N2 _ => g.nx _ _ _ _ _ _ q2 (s.trans s2) W2 N2)
/-- x, y = a, b -/
theorem tsp_par2 (i j : Nat) {x y : Str} {px py pt pt2 : Pos} {kt k2} (h : TAP X [a, b] ρ μ fun zs μ1 => ∃ u v, zs = [u, v] ∧ D.nx ((ρ.set i (some u)).set j (some v)) μ1) (hc : X.calm = true) (hN : X.N.Nodup) (hi : X.N[i]? = some x) (hj : X.N[j]? = some y) (hij : i ≠ j)
    (hx : X.env.scope.names.lookup x = some .local) (hy : X.env.scope.names.lookup y = some .local) (hw : swappedStores [.Tuple [.Name x px, .Name y py] kt pt] (.Tuple [a, b] k2 pt2) X.env = pure (some [x, y]) := by rfl)
    (hs : swapsWithSole [.Tuple [.Name x px, .Name y py] kt pt] (.Tuple [a, b] k2 pt2) pos.line X.env = pure false := by rfl) : TSP X (.Assign [.Tuple [.Name x px, .Name y py] kt pt] (.Tuple [a, b] k2 pt2) pos) ρ μ D := fun ad Hb H σ W N D' g => by
  refine ps_go (ps_par hc hN hi hj hij hx hy pa_self hw hs) (h ad Hb H σ W N _ ?_)
  rintro vs zs μ1 ad1 Hb1 H1 ⟨u, v, rfl, q⟩ s W1 r
  obtain ⟨u', v', rfl, r1, r2⟩ := vals2E r
  exact ⟨u', v', rfl, g.nx _ _ _ _ _ _ q s W1 (((N.step s).set i r1).set j r2)⟩
theorem tsp_par3 (i j l : Nat) {x y z : Str} {px py pz pt pt2 : Pos} {kt k2} (h : TAP X [a, b, c] ρ μ fun zs μ1 => ∃ u v w, zs = [u, v, w] ∧ D.nx (((ρ.set i (some u)).set j (some v)).set l (some w)) μ1) (hc : X.calm = true) (hN : X.N.Nodup) (hi : X.N[i]? = some x) (hj : X.N[j]? = some y) (hl : X.N[l]? = some z) (hij : i ≠ j) (hil : i ≠ l) (hjl : j ≠ l)
    (hx : X.env.scope.names.lookup x = some .local) (hy : X.env.scope.names.lookup y = some .local) (hz : X.env.scope.names.lookup z = some .local) (hw : swappedStores [.Tuple [.Name x px, .Name y py, .Name z pz] kt pt] (.Tuple [a, b, c] k2 pt2) X.env = pure (some [x, y, z]) := by rfl)
    (hs : swapsWithSole [.Tuple [.Name x px, .Name y py, .Name z pz] kt pt] (.Tuple [a, b, c] k2 pt2) pos.line X.env = pure false := by rfl) : TSP X (.Assign [.Tuple [.Name x px, .Name y py, .Name z pz] kt pt] (.Tuple [a, b, c] k2 pt2) pos) ρ μ D := fun ad Hb H σ W N D' g => by
  refine ps_go (ps_par3 hc hN hi hj hl hij hil hjl hx hy hz pa_self hw hs) (h ad Hb H σ W N _ ?_)
  rintro vs zs μ1 ad1 Hb1 H1 ⟨u, v, w, rfl, q⟩ s W1 r
  obtain ⟨u', v', w', rfl, r1, r2, r3⟩ := vals3E r
  exact ⟨u', v', w', rfl, g.nx _ _ _ _ _ _ q s W1 ((((N.step s).set i r1).set j r2).set l r3)⟩
/-- a tuple of names = a tuple of values, by way of the tuple (a name is a cell) -/
theorem tsp_parG (js : List Nat) {ts : List Expr} {pt pt2 : Pos} {kt k2 n} (h : TAP X es ρ μ fun zs μ1 => zs.length ≤ 100000 ∧ zs.length = n ∧ TGsP X ts js zs ρ μ1 D.nx) (hc : X.calm = true)
    (hn : (assignEach ts X.env).length = n := by rfl) (hst : (assignEach ts X.env).findIdx? (·.1) = none := by rfl)
    (hs : swapsWithSole [.Tuple ts kt pt] (.Tuple es k2 pt2) pos.line X.env = pure false := by rfl) (hw : swappedStores [.Tuple ts kt pt] (.Tuple es k2 pt2) X.env = pure none := by rfl) (h1 : (assignEach [.Tuple ts kt pt] X.env).map (·.2) = [assign (.Tuple ts kt pt) X.env] := by rfl) :
    TSP X (.Assign [.Tuple ts kt pt] (.Tuple es k2 pt2) pos) ρ μ D := fun ad Hb H σ W N D' g => by
  refine ps_go (ps_asg (pe_tup pa_self) (pg_tup hc pgs_self hn hst) hs hw h1) (h ad Hb H σ W N _ ?_)
  rintro vs zs μ1 ad1 Hb1 H1 ⟨l1, l2, q⟩ s W1 r
  refine ⟨Nat.le_trans (by rw [r.length]; exact l1) (by decide), fun p hp => ?_⟩
  obtain ⟨W2, s2⟩ := W1.alloc (o := .tup vs) hp
  refine ⟨p, vs, rfl, .inl (.inl upd_same), by rw [r.length]; exact l2, q ad1 _ _ σ vs W2 ((N.step s).step s2) (RepEs.step s2 r) _ fun ρ3 μ3 ad3 Hb3 H3 σ3 q3 s3 W3 N3 _ => ?_⟩
  exact g.nx _ _ _ _ _ _ q3 ((s.trans s2).trans s3) W3 N3
/-- name = [..] on one line, the name a local -/
theorem tsp_setLc (i : Nat) {y : Str} {py : Pos} {elt : Expr} {ifs : List Expr} {scope : Scope} {spos : Pos} (own : List (Str × Nat)) (js : List Nat) (hc : X.calm = true) (hN : X.N.Nodup) (hy : X.N[i]? = some y) (hyl : X.env.scope.names.lookup y = some .local) (ok : BlkOk X.N X.env.scope scope own) (hjs : ∀ j ∈ js, j ∈ own.map (·.2))
    (h : TIP X tg iter ρ μ fun items G μ1 => ∃ I : Nat → List E → Mu → Prop, I 0 [] μ1 ∧ (∀ i acc μ2, i ≤ items.length → I i acc μ2 → G μ2) ∧
      (∀ i x acc μ2, items[i]? = some x → I i acc μ2 → TGB X scope tg js x (wipeR ρ (own.map (·.2))) μ2 fun ρ3 μ3 => TTsB X scope ifs ρ3 μ3 fun b μ4 => if b = true then TEB X scope elt ρ3 μ4 (fun y μ5 => acc.length < 100000 ∧ I (i + 1) (acc ++ [y]) μ5) else I (i + 1) acc μ4) ∧
      ∀ acc μ2, I items.length acc μ2 → (∃ zs : List P, acc = zs.map .sh ∧ D.nx (ρ.set i (some (.sh (.lst zs)))) μ2) ∨ D.nx (ρ.set i (some (.pt μ2.length))) (μ2 ++ [some (.lst acc)]))
    (hsw : swapsWith (.ListComp elt [⟨tg, iter, ifs, 0⟩] scope pos) (some (.Name y py)) spos.line X.env = pure true)
    (hs : ∀ x, foldedSetIterable iter X.env x = pure x := by intro _; rfl) : TSP X (.Assign [.Name y py] (.ListComp elt [⟨tg, iter, ifs, 0⟩] scope pos) spos) ρ μ D := fun ad Hb H σ W N D' g => by
  refine ps_go (ps_setLc hc hN hy hyl hsw pi_self ok pgB ptB peB hs) (lc_main (Q' := fun x H1 => gName i x σ H1 D'.nx) (Fin := fun acc μ2 => (∃ zs : List P, acc = zs.map .sh ∧ D.nx (ρ.set i (some (.sh (.lst zs)))) μ2) ∨ D.nx (ρ.set i (some (.pt μ2.length))) (μ2 ++ [some (.lst acc)])) hjs h W N ?_)
  intro Dl acc μ2 vs ad1 Hb1 H1 ad2 Hb2 H2 s1 s2 W2 h1 h2 h3 h4 r q
  rcases q with ⟨zs, rfl, q⟩ | q
  · obtain ⟨W3, s3⟩ := W2.adopt s2 h1 h2 h3 h4
    exact g.nx _ _ _ _ _ _ q (s1.trans s3) W3 ((N.step (s1.trans s3)).set i (x := .sh (.lst zs)) (Rep.lstL upd_same (RepL.mono (Ex.new h3) (repEs_sh r))))
  · obtain ⟨W3, s3⟩ := W2.adoptC (c := .lst acc) s2 h1 h2 h3 ⟨vs, h4, r⟩
    exact g.nx _ _ _ _ _ _ q (s1.trans s3) W3 ((N.step (s1.trans s3)).set i (x := .pt μ2.length) ⟨Dl, by rw [← W2.len]; simp, rfl⟩)
/-- a cell's list | dict is as good as shared from here on -/
theorem tss_share (j : Nat) {zs : List P} {R : Rho} (hj : μ[j]? = some (some (.lst (zs.map .sh)))) (hR : R.length = ρ.length) (hR2 : ∀ (i : Nat) (x : E), R[i]? = some (some x) → ρ[i]? = some (some x) ∨ (ρ[i]? = some (some (.pt j)) ∧ x = .sh (.lst zs))) (h : TSs X rest R (μ.set j none) D) : TSs X rest ρ μ D := fun ad Hb H σ W N D' g => by
  have hl : j < μ.length := (List.getElem?_eq_some_iff.mp hj).1
  have hla : j < ad.length := by rw [W.len]; exact hl
  obtain ⟨a, ha⟩ : ∃ a, ad[j]? = some a := ⟨_, List.getElem?_eq_getElem hla⟩
  obtain ⟨b1, vs, hv, r⟩ := W.off j a _ ha hj
  have s : Step ad Hb H ad (upd Hb a (.lst vs)) H := ⟨Ex.new b1, ⟨[], by simp⟩, fun _ z => .inl z, fun _ _ _ z => .inl z, fun b o hb e t n => by
    rw [upd_ne (fun z => hb (by rw [z]; exact List.mem_of_getElem? ha))]
    exact n, fun _ _ _ _ z => z⟩
  have sp : ∀ (i : Nat) (b : Addr) (c : Cell), ad[i]? = some b → (μ.set j none)[i]? = some (some c) → b ≠ a ∧ μ[i]? = some (some c) := fun i b c hb hc => by
    by_cases e : j = i
    · subst e
      rw [List.getElem?_set_self hl] at hc
      cases hc
    · rw [List.getElem?_set_ne e] at hc
      refine ⟨fun z => ?_, hc⟩
      subst z
      exact e (W.nd j i b _ c ha hb hj hc)
  refine h ad _ H σ ⟨by rw [List.length_set]; exact W.len, fun b u e => ?_, fun i b c hb hc => ?_, fun i k b c d hi hk hc hd => W.nd i k b c d hi hk (sp i b c hi hc).2 (sp k b d hk hd).2, W.trk⟩ ⟨N.1.trans hR.symm, fun i x hx => ?_⟩ D' (g.after s)
  · by_cases eb : b = a
    · subst eb
      rw [upd_same] at e
      cases e
      exact hv
    · rw [upd_ne eb] at e
      exact W.inc b u e
  · obtain ⟨n, hc2⟩ := sp i b c hb hc
    obtain ⟨h3, h4⟩ := W.off i b c hb hc2
    exact ⟨by rw [upd_ne n]; exact h3, h4.keep rfl fun v x r => RepE.step s r⟩
  · rcases hR2 i x hx with h1 | ⟨h1, rfl⟩
    · obtain ⟨v, h2, h3⟩ := N.2 i x h1
      exact ⟨v, h2, RepE.step s h3⟩
    · obtain ⟨v, h2, b, h3, rfl⟩ := N.2 i _ h1
      rw [ha] at h3
      cases h3
      exact ⟨_, h2, Rep.lstL upd_same (RepL.mono s.ex (repEs_sh r))⟩
/-- loops -/
theorem tsp_for (js : List Nat) (h : TIP X tg iter ρ μ fun items G μ1 => ∃ I : Nat → Rho → Mu → Prop, I 0 ρ μ1 ∧ (∀ i ρ2 μ2, i ≤ items.length → I i ρ2 μ2 → G μ2) ∧
      (∀ i x ρ2 μ2, items[i]? = some x → I i ρ2 μ2 → TGP X tg js x ρ2 μ2 fun ρ3 μ3 => TSs X bodyS ρ3 μ3 { D with nx := I (i + 1), ct := I (i + 1), bk := D.nx }) ∧ ∀ ρ2 μ2, I items.length ρ2 μ2 → D.nx ρ2 μ2)
    (hp : PassesOwn (model X.prog X.w) X.A X.env X.xe) (hc : X.calm = true) (hs : ∀ x, foldedSetIterable iter X.env x = pure x := by intro _; rfl) : TSP X (.For tg iter bodyS [] pos) ρ μ D := fun ad Hb H σ W N D' g => by
  refine ps_go (ps_for hp hc pi_self pg_self pss_self hs) ?_
  refine h ad Hb H σ W N _ fun J items G μ1 ad1 Hb1 H1 ⟨I, i0, hG, turn, done⟩ s1 W1 w => ?_
  have N1 := N.step s1
  let Pv : Nat → L2.St → Hp → Prop := fun i σ' H' => ∃ ρ2 μ2 ad2 Hb2, I i ρ2 μ2 ∧ Step ad1 Hb1 H1 ad2 Hb2 H' ∧ Wd X.K ad2 Hb2 H' μ2 ∧ Env X.K ad2 Hb2 σ' ρ2
  refine ⟨fun i m σ' H' => m = items.length - i ∧ i ≤ items.length ∧ Pv i σ' H', ⟨items.length, rfl, Nat.zero_le _, ρ, μ1, ad1, Hb1, i0, Step.refl _ _ _, W1, N1⟩, ?_⟩
  rintro i m σ' H' ⟨rfl, hi, ρ2, μ2, ad2, Hb2, iI, s2, W2, N2⟩
  by_cases hlt : i < items.length
  · refine .inr ⟨w.goes i ad2 Hb2 H' μ2 hlt s2 W2 (hG i ρ2 μ2 hi iI), Pv (i + 1), fun σ'' H'' p => ⟨items.length - (i + 1), by omega, rfl, hlt, p⟩, fun x H3 y => ?_⟩
    obtain ⟨Hb3, e, s3, W3, he, re⟩ := w.yields i ad2 Hb2 H' μ2 x H3 hlt s2 W2 (hG i ρ2 μ2 hi iI) y
    refine turn i e ρ2 μ2 he iI ad2 Hb3 H3 σ' x W3 (N2.step s3) re _ fun ρ4 μ4 ad4 Hb4 H4 σ4 q4 s4 W4 N4 _ => ?_
    have t4 := (s2.trans s3).trans s4
    have nx : GoesR X.K ad4 Hb4 H4 (I (i + 1)) (Pv (i + 1)) := fun σ5 ρ5 μ5 ad5 Hb5 H5 q5 s5 W5 N5 => ⟨ρ5, μ5, ad5, Hb5, q5, t4.trans s5, W5, N5⟩
    exact q4 ad4 Hb4 H4 σ4 W4 N4 _ ⟨nx, (g.rt.after s1).after t4, (g.nx.after s1).after t4, nx⟩
  · have e : i = items.length := by omega
    subst e
    exact .inl ⟨w.stops ad2 Hb2 H' μ2 s2 W2 (hG _ ρ2 μ2 hi iI), g.nx _ _ _ _ _ _ (done ρ2 μ2 iI) (s1.trans s2) W2 N2⟩
theorem tsp_while (I : Nat → Rho → Mu → Prop) (m : Nat) (h0 : I m ρ μ)
    (turn : ∀ m ρ2 μ2, I m ρ2 μ2 → TTP X c ρ2 μ2 fun d μ3 => if d = true then TSs X bodyS ρ2 μ3 { D with nx := fun ρ4 μ4 => ∃ m', m' < m ∧ I m' ρ4 μ4, ct := fun ρ4 μ4 => ∃ m', m' < m ∧ I m' ρ4 μ4, bk := D.nx } else D.nx ρ2 μ3)
    (hp : PassesOwn (model X.prog X.w) X.A X.env X.xe) : TSP X (.While c bodyS [] pos) ρ μ D := fun ad Hb H σ W N D' g => by
  refine ps_go (ps_while hp pt_self pss_self) ?_
  refine ⟨fun m σ' H' => ∃ ρ2 μ2 ad2 Hb2, I m ρ2 μ2 ∧ Step ad Hb H ad2 Hb2 H' ∧ Wd X.K ad2 Hb2 H' μ2 ∧ Env X.K ad2 Hb2 σ' ρ2, ⟨m, ρ, μ, ad, Hb, h0, Step.refl _ _ _, W, N⟩, ?_⟩
  rintro m σ' H' ⟨ρ2, μ2, ad2, Hb2, iI, s2, W2, N2⟩
  refine turn m ρ2 μ2 iI ad2 Hb2 H' σ' W2 N2 _ fun d μ3 ad3 Hb3 H3 q s3 W3 => ?_
  have t3 := s2.trans s3
  cases d with
  | false => exact g.nx _ _ _ _ _ _ q t3 W3 (N2.step s3)
  | true =>
    rw [if_pos rfl]
    have nx : GoesR X.K ad3 Hb3 H3 (fun ρ4 μ4 => ∃ m', m' < m ∧ I m' ρ4 μ4) (fun σ' H' => ∃ m', m' < m ∧ ∃ ρ2 μ2 ad2 Hb2, I m' ρ2 μ2 ∧ Step ad Hb H ad2 Hb2 H' ∧ Wd X.K ad2 Hb2 H' μ2 ∧ Env X.K ad2 Hb2 σ' ρ2) :=
      fun σ5 ρ5 μ5 ad5 Hb5 H5 ⟨m', l, q5⟩ s5 W5 N5 => ⟨m', l, ρ5, μ5, ad5, Hb5, q5, t3.trans s5, W5, N5⟩
    exact ⟨_, fun _ _ z => z, q ad3 Hb3 H3 σ' W3 (N2.step s3) _ ⟨nx, g.rt.after t3, g.nx.after t3, nx⟩⟩
end

/-! ### defs -/
abbrev PSpec := List E → Mu → (E → Mu → Prop) → Prop
/-- a def's promise by values -/
def spOf (K : PySem.W.Frag) (S : PSpec) : Sp := fun vs H Q _ => ∃ (ad : List Addr) (Hb : Hp) (μ : Mu) (xs : List E) (Q0 : E → Mu → Prop), Wd K ad Hb H μ ∧ RepEs K ad Hb vs xs ∧ S xs μ Q0 ∧ Goes K ad Hb H Q0 Q
/-- room for k calls within; g: nothing that guards against going round is under way -/
structure RoomG (g : Bool) (k : Nat) (A : Around) : Prop where
  room : Room k A
  gd : g = true → A.guards = some []
theorem RoomG.mono {g : Bool} {j k : Nat} {A : Around} (r : RoomG g k A) (h : j ≤ k) : RoomG g j A := ⟨r.room.mono h, r.gd⟩
theorem RoomG.deeper {g : Bool} {k : Nat} {A : Around} (r : RoomG g (k + 1) A) (env : PySem.Env) : RoomG g k (A.deeper env) := ⟨r.room.deeper env, r.gd⟩
theorem RoomG.un {g : Bool} {k : Nat} {A : Around} (r : RoomG g k A) : A.units + 1 < cLine := by
  have := r.room.un
  omega
/-- a def that lets no exception out, where the guards are known (g) -/
structure FnG (g : Bool) (P : Program) (w : World) (K : PySem.W.Frag) (mg : Str → Option Value) (base : Heap) (k : Nat) (f : Addr) (fd : FuncData) (ps : List Str) (sp : Sp) : Prop where
  num : ∀ {vs H Q E}, sp vs H Q E → vs.length = ps.length
  go : ∀ {A outer s H args us vs Q E}, RoomG g k A → Env0 P w K mg base A outer s H → BindsTo s fd args (ps.zip us) → Vals vs us → sp vs H Q E →
    codeAny (model P w) A (.call (.ref f) args) (CR CX0 outer P w H s Q E) s
section
variable {g : Bool} {P : Program} {w : World} {K : PySem.W.Frag} {mg : Str → Option Value} {base : Heap} {j k : Nat} {f : Addr} {fd : FuncData} {ps : List Str} {sp sp' : Sp}
theorem FnG.mono (F : FnG g P w K mg base j f fd ps sp) (h : j ≤ k) : FnG g P w K mg base k f fd ps sp := ⟨F.num, fun r => F.go (r.mono h)⟩
theorem FnG.imp (F : FnG g P w K mg base k f fd ps sp) (h : ∀ vs H Q E, sp' vs H Q E → sp vs H Q E) : FnG g P w K mg base k f fd ps sp' :=
  ⟨fun q => F.num (h _ _ _ _ q), fun r e b v q => F.go r e b v (h _ _ _ _ q)⟩
theorem FnG.up (F : FnG false P w K mg base k f fd ps sp) : FnG g P w K mg base k f fd ps sp := ⟨F.num, fun r => F.go ⟨r.room, fun z => nomatch z⟩⟩
theorem FnG.plain (F : FnG false P w K mg base k f fd ps sp) : FnOk P w K mg base CX0 k f fd ps sp := ⟨fun _ _ _ _ q => F.num q, fun _ _ _ _ _ _ _ _ _ r => F.go ⟨r, fun z => nomatch z⟩⟩
/-- .. by its body -/
theorem fnG_of {x qual : Str} {pa : Arguments} {bd : List Stmt} {sc : Scope} {N : List Str} (F : FunD K x qual pa bd sc [] [] f fd) (Sc : FnScope N ps sc) (num : ∀ vs H Q E, sp vs H Q E → vs.length = ps.length)
    (hb : ∀ (cdv : Value) (A : Around) (outer : List PySem.Env) (s : Shared) (H : Hp) (vs : List V) (Q : VK) (E : XK), RoomG g k (A.deeper (envOfC qual sc s.heap.objs.size f cdv)) → sp vs H Q E →
      TSsV (cxOf CX0 P w K mg base N qual sc f cdv A outer s H E).nox bd { nx := fun _ H' => Q .non H', rt := Q } (L2.start N vs) H) : FnG g P w K mg base (k + 1) f fd ps sp := by
  obtain ⟨oc, od, dV, kV, doc, pm, an, cdv, ct, osl, e, lk, cd, _⟩ := F.ex
  subst e
  refine ⟨num _ _ _ _, @fun A outer s H args us vs Q E r e0 b rv q => ?_⟩
  have low := e0.bs
  have inK : K.In s.heap := e0.mod.kin.keeps fun b o h => (low b o h).1
  have known : ∀ z ∈ ps.zip us, sc.names.lookup z.1 = some .local ∨ sc.names.lookup z.1 = some .cell ∧ ((cellsFrom (s.heap.objs.size + 1) sc.names []).lookup z.1).isSome = true := by
    rintro ⟨n, u⟩ hz
    exact (Sc.par n (List.of_mem_zip hz).1).imp id fun c => ⟨c, PySem.W.cellsFrom_some _ _ _ (.inl c)⟩
  refine codeAny_call_function r.room.depth (inK _ _ lk) rfl Sc.co Sc.gen rfl (PySem.W.codeRec_of inK cd) (b _ _ _ _ (wpAny_newFunctionEnv_cells Sc.kind known ?_))
  rintro env rfl s1 into
  refine ⟨Heap.NoLimit.keeps (e0.mod.nolimit.keeps fun b o h => (low b o h).1) into.toInCall.keep, codeAny_func ?_⟩
  have I := inv_start (CX := CX0) (N := N) (E := E) Sc r.room.hd e0 (num _ _ _ _ q) rv into
  refine wpAny_mono ((PSs.nox pss_self).run [] s1 _ _ _ I (hb cdv A outer s H vs Q E (r.deeper _) q)) (fun fl s2 h => ?_) fun _ _ h => h
  cases fl with
  | brk => exact h.elim fun _ h => h.elim fun _ h => False.elim h.2
  | cont => exact h.elim fun _ h => h.elim fun _ h => False.elim h.2
  | next =>
    obtain ⟨_, H2, J, q2⟩ := h
    exact ⟨.non, H2, J.os, J.bare, J.base, J.hok, rfl, q2⟩
  | ret u =>
    obtain ⟨v, _, H2, J, rv2, q2⟩ := h
    exact ⟨v, H2, J.os, J.bare, J.base, J.hok, rv2, q2⟩
end
/-- a call of such a def -/
theorem pe_callG {g : Bool} {X : Cx} {k : Nat} {f : Addr} {fd : FuncData} {ps : List Str} {sp : Sp} {x : Str} {p pos : Pos} {e : Expr} {es : List Expr} {t : TA} {E : XK} (F : FnG g X.prog X.w X.K X.mg X.base k f fd ps sp) (r : RoomG g k X.A) (hg : Gl X x) (hm : X.mg x = some (.ref f))
    (hk : PySem.W.keepIn X.K (.ref f) = true) (hb : Binds X.K fd ps []) (ha : PA X (e :: es) t) (hdb : (x == ("__debug__" : Str)) = false)
    (he : starEach (e :: es) X.env = (false, eval e X.env) :: starEach es X.env) (hpl : (backTo pos (starEach es X.env)).any (·.1) = false) : PE X (.Call (.Name x p) (e :: es) [] pos) (tCall sp [] E t) := .mk fun pins s σ H Q I h => by
  refine wpAny_Call_Name_kw (ld_glob I hg hm (PySem.W.callWith_K (h₀ := X.base) I.ok.mod.kin hk (thn (ha.run pos pins s σ H _ I h) ?_) he hpl) hdb)
  rintro us s1 ⟨vs, H1, I1, rv, q⟩
  rw [List.append_nil] at q
  have hl : us.length = ps.length := rv.length.symm.trans (F.num q)
  have b1 := hb s1 us I1.kIn (by rw [List.append_nil]; exact hl)
  rw [List.append_nil] at b1
  refine ⟨I1.kIn, wpAny_call (codeAny_mono (F.go r I1.env0 b1 rv q) fun res s2 z => ?_)⟩
  rcases res with _ | fl
  · exact z.elim
  · cases fl with
    | ret u => exact I1.after z
    | _ => exact z.elim
/-- the def named x keeps S, at level k -/
structure Ct (g : Bool) (P : Program) (w : World) (K : PySem.W.Frag) (mg : Str → Option Value) (base : Heap) (k : Nat) (x : Str) (S : PSpec) : Prop where
  ok : ∃ (f : Addr) (fd : FuncData) (ps : List Str), mg x = some (.ref f) ∧ PySem.W.keepIn K (.ref f) = true ∧ Binds K fd ps [] ∧ FnG g P w K mg base k f fd ps (spOf K S)
section
variable {g : Bool} {P : Program} {w : World} {K : PySem.W.Frag} {mg : Str → Option Value} {base : Heap} {j k : Nat} {x : Str} {S S' : PSpec}
theorem Ct.mono (c : Ct g P w K mg base j x S) (h : j ≤ k) : Ct g P w K mg base k x S := by
  obtain ⟨f, fd, ps, h1, h2, h3, h4⟩ := c.ok
  exact ⟨f, fd, ps, h1, h2, h3, h4.mono h⟩
theorem Ct.imp (c : Ct g P w K mg base k x S) (h : ∀ xs μ Q, S' xs μ Q → S xs μ Q) : Ct g P w K mg base k x S' := by
  obtain ⟨f, fd, ps, h1, h2, h3, h4⟩ := c.ok
  exact ⟨f, fd, ps, h1, h2, h3, h4.imp fun vs H Q E ⟨ad, Hb, μ, xs, Q0, a, b, d, e⟩ => ⟨ad, Hb, μ, xs, Q0, a, b, h _ _ _ d, e⟩⟩
theorem Ct.up (c : Ct false P w K mg base k x S) : Ct g P w K mg base k x S := by
  obtain ⟨f, fd, ps, h1, h2, h3, h4⟩ := c.ok
  exact ⟨f, fd, ps, h1, h2, h3, h4.up⟩
end
section
variable {g : Bool} {X : Cx} {e : Expr} {es : List Expr} {ρ : Rho} {μ : Mu} {Q : E → Mu → Prop} {pos p2 : Pos} {k : Nat} {x : Str} {S : PSpec}
theorem tep_call (c : Ct g X.prog X.w X.K X.mg X.base k x S) (hr : RoomG g k X.A) (h : TAP X (e :: es) ρ μ fun xs μ1 => S xs μ1 Q) (hg : Gl X x := by rfl) (hdb : (x == ("__debug__" : Str)) = false := by decide)
    (he : starEach (e :: es) X.env = (false, eval e X.env) :: starEach es X.env := by rfl) (hpl : (backTo pos (starEach es X.env)).any (·.1) = false := by rfl) : TEP X (.Call (.Name x p2) (e :: es) [] pos) ρ μ Q := fun ad Hb H σ W N Q' q => by
  obtain ⟨f, fd, ps, h1, h2, h3, h4⟩ := c.ok
  refine pe_go (pe_callG (E := E0) h4 hr hg h1 h2 h3 pa_self hdb he hpl) (h ad Hb H σ W N _ fun vs xs μ1 ad1 Hb1 H1 q1 s W1 r => ?_)
  rw [List.append_nil]
  exact ⟨ad1, Hb1, μ1, xs, Q, W1, r, q1, q.after s⟩
end
/-- the slots at the entry -/
def startR (N : List Str) (xs : List E) : Rho := xs.map some ++ List.replicate (N.length - xs.length) none
theorem start_env {K : PySem.W.Frag} {ad : List Addr} {Hb : Hp} {N : List Str} {vs : List V} {xs : List E} (r : RepEs K ad Hb vs xs) : Env K ad Hb (L2.start N vs) (startR N xs) := by
  have hl := r.length
  refine ⟨by unfold L2.start startR; simp [hl], fun i x h => ?_⟩
  unfold startR at h
  unfold L2.start
  by_cases hi : i < xs.length
  · rw [List.getElem?_append_left (by simpa using hi), List.getElem?_map] at h
    cases e : xs[i]? with
    | none => rw [e] at h; cases h
    | some z =>
      rw [e] at h
      cases h
      obtain ⟨v, h1, h2⟩ := pd_left r i x e
      exact ⟨v, by rw [List.getElem?_append_left (by simp; omega), List.getElem?_map, h1]; rfl, h2⟩
  · rw [List.getElem?_append_right (by simpa using hi), List.getElem?_replicate] at h
    split at h <;> cases h
section
variable {P : Program} {w : World} {K : PySem.W.Frag} {mg : Str → Option Value} {base : Heap}
/-- the context of a def's body -/
abbrev cxB (P : Program) (w : World) (K : PySem.W.Frag) (mg : Str → Option Value) (base : Heap) (N : List Str) (qual : Str) (st : Stmt) (f : Addr) (cdv : Value) (A : Around) (outer : List PySem.Env) (s : Shared) (H : Hp) (E : XK) : Cx :=
  (cxOf CX0 P w K mg base N qual (defScope st) f cdv A outer s H E).nox
/-- how a def of the text binds what it is given -/
abbrev BindsBy (x qual : Str) (st : Stmt) (ps : List Str) : Prop := ∀ (kV doc pm : Value) (an : Option Addr) (cdv ct : Value) (us : List Value), us.length = ps.length → bindArgs (PySem.W.fnOf x qual (defArgs st) (defBody st) (defScope st) .none kV doc pm an cdv ct) ⟨us, []⟩ = pure (ps.zip us)
/-- a def of the text as it stands behind the top -/
abbrev FnP (K : PySem.W.Frag) (x qual : Str) (st : Stmt) (f : Addr) (fd : FuncData) : Prop := FunD K x qual (defArgs st) (defBody st) (defScope st) [] [] f fd
theorem FnP.binds {x qual : Str} {st : Stmt} {f : Addr} {fd : FuncData} {ps : List Str} (F : FnP K x qual st f fd) (hb : BindsBy x qual st ps) : Binds K fd ps [] := by
  obtain ⟨oc, od, dV, kV, doc, pm, an, cdv, ct, osl, e, _, _, d, _⟩ := F.ex
  obtain rfl : dV = .none := d.elim (fun z => z.2) fun z => absurd rfl z.1
  subst e
  exact Binds.all fun us hl => hb kV doc pm an cdv ct us hl
/-- a def of the text: what its body is to show -/
theorem ct_of {g : Bool} {x qual : Str} {st : Stmt} {f : Addr} {fd : FuncData} {N ps : List Str} {k : Nat} {S : PSpec} (F : FnP K x qual st f fd) (hm : mg x = some (.ref f)) (Sc : FnScope N ps (defScope st)) (hb : BindsBy x qual st ps)
    (len : ∀ xs μ Q, S xs μ Q → xs.length = ps.length)
    (body : ∀ (cdv : Value) (A : Around) (outer : List PySem.Env) (s : Shared) (H : Hp) (E : XK), RoomG g k (A.deeper (envOfC qual (defScope st) s.heap.objs.size f cdv)) → ∀ xs μ Q, S xs μ Q →
      TSs (cxB P w K mg base N qual st f cdv A outer s H E) (defBody st) (startR N xs) μ { nx := fun _ μ' => Q (.sh .non) μ', rt := Q }) : Ct g P w K mg base (k + 1) x S := by
  refine ⟨f, fd, ps, hm, F.kp, F.binds hb, fnG_of F Sc (fun vs H Q E ⟨ad, Hb, μ, xs, Q0, W, r, q, _⟩ => ?_) fun cdv A outer s H vs Q E hr ⟨ad, Hb, μ, xs, Q0, W, r, q, g⟩ => ?_⟩
  · rw [r.length]
    exact len _ _ _ q
  · refine body cdv A outer s H E hr xs μ Q0 q ad Hb H _ W (start_env r) _ ⟨fun σ' ρ' μ' ad' Hb' H' q s W' N' => g _ (.sh .non) _ _ _ _ q s W' .non, g, fun _ _ _ _ _ _ z => z.elim, fun _ _ _ _ _ _ z => z.elim⟩

/-! ### a pure def: proved with no cell around, used with any -/
/-- what a cell may be taken for, when nothing changes it any more -/
inductive Frz (μ : Mu) : E → PV.P → Prop
  | sh (x : PV.P) : Frz μ (.sh x) x
  | lst {j : Nat} {zs : List E} {xs : List PV.P} (h : μ[j]? = some (some (.lst zs))) (l : zs.length = xs.length) (e : ∀ (i : Nat) (z : E) (x : PV.P), zs[i]? = some z → xs[i]? = some x → Frz μ z x) : Frz μ (.pt j) (.lst xs)
  | dT {j : Nat} {zs : List (List Key × E)} {xs : List (List Key × PV.P)} (h : μ[j]? = some (some (.dT zs))) (l : zs.map (·.1) = xs.map (·.1)) (e : ∀ (i : Nat) (z : List Key × E) (x : List Key × PV.P), zs[i]? = some z → xs[i]? = some x → Frz μ z.2 x.2) : Frz μ (.pt j) (.dT xs)
  | dK {j : Nat} {zs : List (Key × E)} {xs : List (Key × PV.P)} (h : μ[j]? = some (some (.dK zs))) (l : zs.map (·.1) = xs.map (·.1)) (e : ∀ (i : Nat) (z : Key × E) (x : Key × PV.P), zs[i]? = some z → xs[i]? = some x → Frz μ z.2 x.2) : Frz μ (.pt j) (.dK xs)
  | obj {j : Nat} {C : Addr} {zs : List (Str × E)} {xs : List (Str × PV.P)} (h : μ[j]? = some (some (.obj C zs))) (l : zs.map (·.1) = xs.map (·.1)) (e : ∀ (i : Nat) (z : Str × E) (x : Str × PV.P), zs[i]? = some z → xs[i]? = some x → Frz μ z.2 x.2) : Frz μ (.pt j) (.obj C xs)
theorem Frz.lstS {μ : Mu} {j : Nat} {xs : List PV.P} (h : μ[j]? = some (some (.lst (xs.map .sh)))) : Frz μ (.pt j) (.lst xs) := .lst h (by simp) fun i z x h1 h2 => by
  rw [List.getElem?_map, h2] at h1
  cases h1
  exact .sh x
theorem Frz.dTS {μ : Mu} {j : Nat} {xs : List (List Key × PV.P)} (h : μ[j]? = some (some (.dT (xs.map fun p => (p.1, .sh p.2))))) : Frz μ (.pt j) (.dT xs) := .dT h (by simp) fun i z x h1 h2 => by
  rw [List.getElem?_map, h2] at h1
  cases h1
  exact .sh x.2
/-- all living cells join the base -/
theorem freeze_off {ad : List Addr} {Hb H : Hp} {μ : Mu} (W : Wd K ad Hb H μ) : ∃ Hb2, Ex Hb Hb2 ∧ Wd K [] Hb2 H [] ∧ (∀ a, (¬ ∃ (j : Nat) (c : Cell), ad[j]? = some a ∧ μ[j]? = some (some c)) → Hb2 a = Hb a) ∧ ∀ v x y, RepE K ad Hb v x → Frz μ x y → Rep K Hb2 v y := by
  classical
  let live : Addr → Prop := fun a => ∃ (j : Nat) (c : Cell), ad[j]? = some a ∧ μ[j]? = some (some c)
  let Hb2 : Hp := fun a => if live a then H a else Hb a
  have ex : Ex Hb Hb2 := fun a o h => by
    have n : ¬ live a := fun ⟨j, c, h1, h2⟩ => by
      rw [(W.off j a c h1 h2).1] at h
      cases h
    show (if live a then H a else Hb a) = some o
    rw [if_neg n]
    exact h
  have at_ : ∀ {j : Nat} {a : Addr} {c : Cell}, ad[j]? = some a → μ[j]? = some (some c) → Hb2 a = H a := fun {j a c} h1 h2 => by
    show (if live a then H a else Hb a) = H a
    rw [if_pos ⟨j, c, h1, h2⟩]
  refine ⟨Hb2, ex, ⟨rfl, fun a u h => ?_, fun j a c h => by simp at h, fun i j a c d h => by simp at h, fun a h => by simp at h⟩, fun a h => ?_, fun v x y r f => ?_⟩
  · by_cases n : live a
    · have h2 : (if live a then H a else Hb a) = some u := h
      rw [if_pos n] at h2
      exact Std.of h2
    · have h2 : (if live a then H a else Hb a) = some u := h
      rw [if_neg n] at h2
      exact W.inc a u h2
  · show (if live a then H a else Hb a) = Hb a
    rw [if_neg h]
  · induction f generalizing v with
    | sh x => exact Rep.mono ex r
    | @lst j zs xs h l e ih =>
      obtain ⟨a, ha, rfl⟩ := r
      obtain ⟨_, vs, hv, r⟩ := W.off j a _ ha h
      refine .lst ((at_ ha h).trans hv) (r.length.trans l) fun i v x h1 h2 => ?_
      obtain ⟨z, h3, h4⟩ := pd_right r i v h1
      exact ih i z x h3 h2 v h4
    | @dT j zs xs h l e ih =>
      obtain ⟨a, ha, rfl⟩ := r
      obtain ⟨_, vs, hv, r⟩ := W.off j a _ ha h
      have hk : vs.map (·.1) = zs.map (·.1) := List.ext_getElem? fun i => by
        rw [List.getElem?_map, List.getElem?_map]
        cases e1 : vs[i]? with
        | none =>
          rw [show zs[i]? = none from List.getElem?_eq_none (by rw [← r.length]; exact List.getElem?_eq_none_iff.mp e1)]
          rfl
        | some v =>
          obtain ⟨z, h3, h4⟩ := pd_right r i v e1
          rw [h3]
          exact congrArg some h4.1
      refine .dT ((at_ ha h).trans hv) (hk.trans l) fun i v x h1 h2 => ?_
      obtain ⟨z, h3, h4⟩ := pd_right r i v h1
      exact ih i z x h3 h2 v.2 h4.2
    | @dK j zs xs h l e ih =>
      obtain ⟨a, ha, rfl⟩ := r
      obtain ⟨_, vs, hv, r⟩ := W.off j a _ ha h
      have hk : vs.map (·.1) = zs.map (·.1) := List.ext_getElem? fun i => by
        rw [List.getElem?_map, List.getElem?_map]
        cases e1 : vs[i]? with
        | none =>
          rw [show zs[i]? = none from List.getElem?_eq_none (by rw [← r.length]; exact List.getElem?_eq_none_iff.mp e1)]
          rfl
        | some v =>
          obtain ⟨z, h3, h4⟩ := pd_right r i v e1
          rw [h3]
          exact congrArg some h4.1
      refine .dK ((at_ ha h).trans hv) (hk.trans l) fun i v x h1 h2 => ?_
      obtain ⟨z, h3, h4⟩ := pd_right r i v h1
      exact ih i z x h3 h2 v.2 h4.2
    | @obj j C zs xs h l e ih =>
      obtain ⟨a, ha, rfl⟩ := r
      obtain ⟨_, dx, vs, hv, r⟩ := W.off j a _ ha h
      have hk : vs.map (·.1) = zs.map (·.1) := List.ext_getElem? fun i => by
        rw [List.getElem?_map, List.getElem?_map]
        cases e1 : vs[i]? with
        | none =>
          rw [show zs[i]? = none from List.getElem?_eq_none (by rw [← r.length]; exact List.getElem?_eq_none_iff.mp e1)]
          rfl
        | some v =>
          obtain ⟨z, h3, h4⟩ := pd_right r i v e1
          rw [h3]
          exact congrArg some h4.1
      refine .obj ((at_ ha h).trans hv) (hk.trans l) fun i v x h1 h2 => ?_
      obtain ⟨z, h3, h4⟩ := pd_right r i v h1
      exact ih i z x h3 h2 v.2 h4.2
theorem freeze_all {ad : List Addr} {Hb H : Hp} {μ : Mu} (W : Wd K ad Hb H μ) : ∃ Hb2, Ex Hb Hb2 ∧ Wd K [] Hb2 H [] ∧ (∀ a, a ∉ ad → Hb2 a = Hb a) ∧ ∀ v x y, RepE K ad Hb v x → Frz μ x y → Rep K Hb2 v y := by
  obtain ⟨Hb2, h1, h2, h3, h4⟩ := freeze_off W
  exact ⟨Hb2, h1, h2, fun a h => h3 a fun ⟨j, c, e, _⟩ => h (List.mem_of_getElem? e), h4⟩
/-- cells that a run left alone -/
theorem frame_back {ad : List Addr} {Hb H : Hp} {μ : Mu} {Hb2 H2 : Hp} {μ2 : Mu} (W : Wd K ad Hb H μ) (s : Step [] Hb H [] Hb2 H2) (W2 : Wd K [] Hb2 H2 μ2) : Wd K ad Hb2 H2 μ ∧ Step ad Hb H ad Hb2 H2 := by
  refine ⟨⟨W.len, W2.inc, fun j a c ha hc => ?_, W.nd, fun a ha => ?_⟩, ⟨s.ex, ⟨[], by simp⟩, fun _ z => .inl z, fun a o _ e => s.fr a o (by simp) e, fun a o _ e t n => s.fgn a o (by simp) e t n, s.bs⟩⟩
  · obtain ⟨h1, h2⟩ := W.off j a c ha hc
    obtain ⟨o, h3, h4⟩ := h2.some
    exact ⟨s.fgn a o (by simp) h3 h4 h1, h2.keep ((s.fr0 (by simp) h1 h3).trans h3.symm) fun v x r => repE_mono s.ex ⟨[], by simp⟩ r⟩
  · cases e : H a with
    | none => exact absurd e (W.trk a ha)
    | some o => exact s.fr1 (by simp) e
/-- a function of values: Fr tells its result -/
def SF (Fr : List PV.P → PV.P → Prop) : PSpec := fun xs μ Q => ∃ ps y, xs = ps.map .sh ∧ Fr ps y ∧ Q (.sh y) μ
theorem ct_pure {g : Bool} {x qual : Str} {st : Stmt} {f : Addr} {fd : FuncData} {N ps : List Str} {k : Nat} {Fr : List PV.P → PV.P → Prop} (F : FnP K x qual st f fd) (hm : mg x = some (.ref f)) (Sc : FnScope N ps (defScope st))
    (hb : BindsBy x qual st ps)
    (len : ∀ zs y, Fr zs y → zs.length = ps.length)
    (body : ∀ (cdv : Value) (A : Around) (outer : List PySem.Env) (s : Shared) (H : Hp) (E : XK), RoomG g k (A.deeper (envOfC qual (defScope st) s.heap.objs.size f cdv)) → ∀ zs y, Fr zs y →
      TSs (cxB P w K mg base N qual st f cdv A outer s H E) (defBody st) (startR N (zs.map .sh)) [] { nx := fun _ _ => y = .non, rt := fun z μ' => Frz μ' z y }) : Ct g P w K mg base (k + 1) x (SF Fr) := by
  refine ⟨f, fd, ps, hm, F.kp, F.binds hb, fnG_of F Sc (fun vs H Q E ⟨ad, Hb, μ, xs, Q0, W, r, ⟨zs, y, e, q, _⟩, _⟩ => ?_) fun cdv A outer s H vs Q E hr ⟨ad, Hb, μ, xs, Q0, W, r, ⟨zs, y, e, hF, q⟩, g⟩ => ?_⟩
  · subst e
    rw [r.length, List.length_map]
    exact len _ _ q
  · subst e
    have W0 : Wd K [] Hb H [] := ⟨rfl, W.inc, fun j a c h => by simp at h, fun i j a c d h => by simp at h, fun a h => by simp at h⟩
    have fin : ∀ (v : V) (z : PV.E) (μ' : Mu) (ad' : List Addr) (Hb' H' : Hp), Frz μ' z y → Step [] Hb H ad' Hb' H' → Wd K ad' Hb' H' μ' → RepE K ad' Hb' v z → Q v H' := fun v z μ' ad' Hb' H' fz s' W' r' => by
      obtain ⟨Hb2, ex, W2, off, k2⟩ := freeze_all W'
      have s2 : Step [] Hb H [] Hb2 H' := ⟨s'.ex.trans ex, ⟨[], rfl⟩, fun _ z => .inl z, fun a o _ e => s'.fr a o (by simp) e, fun a o _ e t n => by
        rw [off a fun z => by
          rcases s'.new a z with z | z
          · simp at z
          · rw [e] at z; cases z]
        exact s'.fgn a o (by simp) e t n, s'.bs⟩
      obtain ⟨W3, s3⟩ := frame_back W s2 W2
      exact g v (.sh y) μ ad Hb2 H' q s3 W3 (k2 v z y r' fz)
    refine body cdv A outer s H E hr zs y hF [] Hb H _ W0 (start_env (repEs_of (repEs_sh r))) _ ⟨fun σ' ρ' μ' ad' Hb' H' q1 s1 W1 N1 => ?_, fun v z μ' ad' Hb' H' q1 s1 W1 r1 => fin v z μ' ad' Hb' H' q1 s1 W1 r1, fun _ _ _ _ _ _ z => z.elim, fun _ _ _ _ _ _ z => z.elim⟩
    exact fin .non (.sh .non) μ' ad' Hb' H' (by rw [show y = .non from q1]; exact .sh _) s1 W1 .non
end
section
variable {X : Cx} {e : Expr} {es : List Expr} {ρ : Rho} {μ : Mu} {pos p2 : Pos} {k : Nat} {x : Str} {Fr : List P → P → Prop}
theorem ev_call {g : Bool} (c : Ct g X.prog X.w X.K X.mg X.base k x (SF Fr)) (hr : RoomG g k X.A) {zs : List P} {y : P} (h : EAs X (e :: es) ρ μ zs) (hF : Fr zs y) (hg : Gl X x := by rfl) (hdb : (x == ("__debug__" : Str)) = false := by decide)
    (he : starEach (e :: es) X.env = (false, eval e X.env) :: starEach es X.env := by rfl) (hpl : (backTo pos (starEach es X.env)).any (·.1) = false := by rfl) : EV X (.Call (.Name x p2) (e :: es) [] pos) ρ μ (.sh y) := fun Q q => tep_call c hr (h _ ⟨zs, y, rfl, hF, q⟩) hg hdb he hpl
end
end PV

/-! isinstance, methods of lists, dicts, stores. -/
namespace PV
open PySem PySem.Spec PyProof.Rows L2

/-! ### isinstance -/
/-- as TyX, a locked dict of tuple keys too -/
def TyZ (K : PySem.W.Frag) (H : Hp) (x : V) (t : Value) : Prop := TyX K H x t ∨ ∃ a o kvs, x = .ref a ∧ H a = some (.frz o (.dT kvs)) ∧ t = .type "dict"
theorem kit_z {X : Cx} {pins : List (Addr × Obj)} {σ : L2.St} {H : Hp} {s : Shared} {x : V} {u t : Value} (I : Inv X pins σ H s) (rx : RelV x u) (ty : TyZ X.K H x t) : ∃ P : Heap → Prop, PySem.W.KitX X.K u t P ∧ P s.heap ∧ u ≠ .builtin "__main__.__loader__#opaque" := by
  rcases ty with ty | ⟨a, o, kvs, rfl, e, rfl⟩
  · exact kit_of I rx ty
  · cases (show u = Value.ref a from rx)
    obtain ⟨_, _, _, xs, _, o, es, ep, h1, h2, _⟩ := (show ObjOk X.prog X.w H s.heap a (.frz o (.dT kvs)) from I.hok a _ e)
    exact ⟨_, PySem.W.kitx_dict, ⟨o, h1, h2.1⟩, fun z => nomatch z⟩
def rIz (K : PySem.W.Frag) : List V → Hp → VK → Prop := fun xs H Q => ∃ (x : V) (c : String) (t : Value) (b : Bool), xs = [x, .ty c] ∧ TyZ K H x t ∧ PySem.W.kitOne K t (.type c) = some b ∧ Q (.bl b) H
def rIzT (K : PySem.W.Frag) : List V → Hp → VK → Prop := fun xs H Q => ∃ (x : V) (tp : Addr) (cs : List String) (t : Value) (b : Bool), xs = [x, .ref tp] ∧ H tp = some (.tup (cs.map V.ty)) ∧ TyZ K H x t ∧ PySem.W.kitAny K t (cs.map Value.type) = some b ∧ Q (.bl b) H
theorem call_iz {X : Cx} : CallR X (.builtin "isinstance") (rIz X.K) := by
  intro pins s σ H xs us Q I r h
  obtain ⟨x, c, t, b, rfl, ty, e, q⟩ := h
  obtain ⟨u1, u2, rfl, r1, r2⟩ := vals2 r
  obtain ⟨P, Z, p, hx⟩ := kit_z I r1 ty
  obtain rfl : u2 = .type c := r2
  exact PySem.W.kia_one Z I.kIn p e hx fun tk => ⟨.bl b, H, I.tok tk, rfl, q⟩
theorem vals_ty : ∀ {cs : List String} {its : List Value}, Vals (cs.map V.ty) its → its = cs.map Value.type
  | [], _, .nil => rfl
  | c :: cs, _, .cons a b => by
    obtain rfl : _ = Value.type c := a
    exact congrArg _ (vals_ty b)
theorem repl_ty {K : PySem.W.Frag} {H : Hp} : ∀ {ws : List V} {cs : List String}, RepL K H ws (cs.map P.ty) → ws = cs.map V.ty
  | _, [], .nil => rfl
  | _, c :: cs, .cons a b => by
    cases a
    exact congrArg _ (repl_ty b)
theorem call_izT {X : Cx} : CallR X (.builtin "isinstance") (rIzT X.K) := by
  intro pins s σ H xs us Q I r h
  obtain ⟨x, tp, cs, t, b, rfl, hT, ty, e, q⟩ := h
  obtain ⟨u1, u2, rfl, r1, r2⟩ := vals2 r
  obtain rfl : u2 = .ref tp := r2
  obtain ⟨P, Z, p, hx⟩ := kit_z I r1 ty
  obtain ⟨_, its, rv, o, h1, h2, n, h3⟩ := (show ObjOk X.prog X.w H s.heap tp (.tup (cs.map V.ty)) from I.hok tp _ hT)
  obtain rfl := vals_ty rv
  obtain ⟨oc, od, dt, sl⟩ := o
  simp only at h2 h3
  subst h2 h3
  exact PySem.W.kia_tup Z I.kIn p h1 e hx fun tk => ⟨.bl b, H, I.tok tk, rfl, q⟩
/-- a value's built-in type -/
def tyP : P → Option String
  | .non => some "NoneType"
  | .bl _ => some "bool"
  | .int _ => some "int"
  | .str _ => some "str"
  | .lst _ => some "list"
  | .tup _ => some "tuple"
  | .dT _ => some "dict"
  | .dK _ => some "dict"
  | _ => none
def isaB (t c : String) : Bool := t == c || (t == "bool" && c == "int")
theorem tyZ_of {K : PySem.W.Frag} {ad : List Addr} {Hb H : Hp} {μ : Mu} (W : Wd K ad Hb H μ) {v : V} {x : P} (r : Rep K Hb v x) {T : String} (h : tyP x = some T) : TyZ K H v (.type T) := by
  cases r with
  | non => cases h; exact .inl (.base .non)
  | bl b => cases h; exact .inl (.base (.bl b))
  | int b => cases h; exact .inl (.base (.int b))
  | str b => cases h; exact .inl (.base (.str b))
  | ty n => cases h
  | fn n => cases h
  | scr => cases h
  | obj => cases h
  | lst e => cases h; exact .inl (.base (.lst (W.inc _ _ e)))
  | tup e => cases h; exact .inl (.base (.tup (W.inc _ _ e)))
  | dT e =>
    cases h
    rcases W.inc _ _ e with z | ⟨o, z⟩
    · exact .inl (.base (.dT z))
    · exact .inr ⟨_, o, _, rfl, z, rfl⟩
  | dK e =>
    cases h
    rcases W.inc _ _ e with z | ⟨o, z⟩
    · exact .inl (.base (.dK z))
    · exact .inl (.fDict z)
section
variable {X : Cx} {a b c e o : Expr} {es rest : List Expr} {ρ : Rho} {μ : Mu} {Q : E → Mu → Prop} {pos apos cpos p2 : Pos} {x y z : E} {xs ys : List P}
/-- isinstance(e, T) -/
theorem ev_isi {x : P} {T : String} {C : String} {r : Bool} (hm : X.mg "isinstance" = none) (h1 : EV X a ρ μ (.sh x)) (h2 : EV X b ρ μ (.sh (.ty C))) (ht : tyP x = some T) (hk : PySem.W.kitOne X.K (.type T) (.type C) = some r) (hg : Gl X "isinstance" := by rfl)
    (hs : starEach [a, b] X.env = (false, eval a X.env) :: starEach [b] X.env := by rfl) (hs2 : starEach [b] X.env = (false, eval b X.env) :: starEach [] X.env := by rfl) : EV X (.Call (.Name "isinstance" p2) [a, b] [] pos) ρ μ (.sh (.bl r)) :=
  ev_callB call_iz hg hm bo_isinstance (ea_cons h1 (ea_cons h2 ea_nil hs2) hs) (fun Q q ad Hb H vs W r0 Q' g => by
    obtain ⟨v, w, rfl, r1, r2⟩ := vals2E r0
    cases r2
    exact ⟨v, C, .type T, r, rfl, tyZ_of W r1 ht, hk, g.now W (x := .sh (.bl r)) (.bl r) q⟩) (by decide) (by decide) hs (by rw [hs2]; rfl)
/-- isinstance(e, (T1, ..)) -/
theorem ev_isiT {x : P} {T : String} {cs : List String} {r : Bool} (hm : X.mg "isinstance" = none) (h1 : EV X a ρ μ (.sh x)) (h2 : EV X b ρ μ (.sh (.tup (cs.map .ty)))) (ht : tyP x = some T) (hk : PySem.W.kitAny X.K (.type T) (cs.map Value.type) = some r) (hg : Gl X "isinstance" := by rfl)
    (hs : starEach [a, b] X.env = (false, eval a X.env) :: starEach [b] X.env := by rfl) (hs2 : starEach [b] X.env = (false, eval b X.env) :: starEach [] X.env := by rfl) : EV X (.Call (.Name "isinstance" p2) [a, b] [] pos) ρ μ (.sh (.bl r)) :=
  ev_callB call_izT hg hm bo_isinstance (ea_cons h1 (ea_cons h2 ea_nil hs2) hs) (fun Q q ad Hb H vs W r0 Q' g => by
    obtain ⟨v, w, rfl, r1, r2⟩ := vals2E r0
    obtain ⟨tp, ws, rfl, hT, r2⟩ := Rep.tup_inv r2
    obtain rfl := repl_ty r2
    exact ⟨v, tp, cs, .type T, r, rfl, W.tup hT, tyZ_of W r1 ht, hk, g.now W (x := .sh (.bl r)) (.bl r) q⟩) (by decide) (by decide) hs (by rw [hs2]; rfl)

/-! ### a list, unpacked -/
theorem tgp_unl {js : List Nat} {k n : Nat} {R : Rho → Mu → Prop} (hc : X.calm = true) (h : TGsP X es js (xs.map .sh) ρ μ R) (hl : xs.length = n)
    (hn : (assignEach es X.env).length = n := by rfl) (hst : (assignEach es X.env).findIdx? (·.1) = none := by rfl) : TGP X (.Tuple es k pos) js (.sh (.lst xs)) ρ μ R := fun ad Hb H σ v W N r Q' g => by
  obtain ⟨a, vs, rfl, hq, r⟩ := Rep.lst_inv r
  exact pg_go (pg_unl hc pgs_self hn hst) ⟨a, vs, rfl, W.sqL hq, by rw [r.length]; exact hl, h ad Hb H σ vs W N (repEs_of r) Q' g⟩

/-! ### methods of lists -/
def tyE (μ : Mu) (T : String) : E → Prop
  | .pt j => (T = "list" ∧ ∃ zs, μ[j]? = some (some (.lst zs))) ∨ (T = "dict" ∧ ((∃ zs, μ[j]? = some (some (.dT zs))) ∨ ∃ zs, μ[j]? = some (some (.dK zs))))
  | .sh (.lst _) => T = "list"
  | .sh (.str _) => T = "str"
  | _ => False
theorem tyE_v {K : PySem.W.Frag} {ad : List Addr} {Hb H : Hp} {T : String} {v : V} (W : Wd K ad Hb H μ) (r : RepE K ad Hb v x) (t : tyE μ T x) : tyV K T v H := by
  cases x with
  | tp xs => exact t.elim
  | pt j =>
    obtain ⟨a, ha, rfl⟩ := r
    rcases t with ⟨rfl, zs, hj⟩ | ⟨rfl, ⟨zs, hj⟩ | ⟨zs, hj⟩⟩
    · obtain ⟨_, vs, hv, _⟩ := W.off j a _ ha hj
      exact .inl ⟨rfl, vs, .inl (.inl hv)⟩
    · obtain ⟨_, vs, hv, _⟩ := W.off j a _ ha hj
      exact .inr (.inr (.inl ⟨rfl, .inr ⟨vs, hv⟩⟩))
    · obtain ⟨_, vs, hv, _⟩ := W.off j a _ ha hj
      exact .inr (.inr (.inl ⟨rfl, .inl ⟨vs, hv⟩⟩))
  | sh x =>
    cases x with
    | lst xs =>
      obtain ⟨a, vs, rfl, hq, _⟩ := Rep.lst_inv r
      exact .inl ⟨t, vs, W.sqL hq⟩
    | str s =>
      obtain rfl := Rep.str_inv r
      exact t
    | _ => exact t.elim
section
variable {name : Str} {T id : String} {r : V → List V → Hp → VK → Prop}
theorem tep_bm (pa : PlainAttrs T) (slot : Slot T name id) (hty : typeOf (.builtin id) = pure (.type "method_descriptor")) (hm : MtR X id r) (h : TEP X o ρ μ fun x μ1 => tyE μ1 T x ∧ TAP X (e :: es) ρ μ1 fun zs μ2 => VM X.K r x zs μ2 Q)
    (hbase : attributeBase o name X.env (eval o X.env) = eval o X.env := by rfl)
    (hfew : ((backTo cpos (starEach (e :: es) X.env)).all (fun x => !x.1) && (backToKw cpos (keywordEach [] X.env)).all (fun x => x.1.isSome) && decide ((e :: es).length + ([] : List Keyword).length + (if ([] : List Keyword).isEmpty then 0 else 1) < 30)) = true := by rfl)
    (hline : (apos.endLine == cpos.line) = true := by rfl) (hs : starEach (e :: es) X.env = (false, eval e X.env) :: starEach es X.env := by rfl) (hplain : (backTo cpos (starEach es X.env)).any (·.1) = false := by rfl) :
    TEP X (.Call (.Attribute o name apos) (e :: es) [] cpos) ρ μ Q := fun ad Hb H σ W N Q' g => by
  refine pe_go (pe_bm pa slot hty hm pe_self pa_self hbase hfew hline hs hplain) (h ad Hb H σ W N _ ?_)
  rintro v x μ1 ad1 Hb1 H1 ⟨t, q⟩ s1 W1 r1
  refine ⟨tyE_v W1 r1 t, q ad1 Hb1 H1 σ W1 (N.step s1) _ fun vs zs μ2 ad2 Hb2 H2 q2 s2 W2 r2 => ?_⟩
  exact q2 ad2 Hb2 H2 v vs W2 (RepE.step s2 r1) r2 Q' ((g.after s1).after s2)
theorem tep_bm0 (pa : PlainAttrs T) (slot : Slot T name id) (hty : typeOf (.builtin id) = pure (.type "method_descriptor")) (hm : MtR X id r) (h : TEP X o ρ μ fun x μ1 => tyE μ1 T x ∧ VM X.K r x [] μ1 Q)
    (hbase : attributeBase o name X.env (eval o X.env) = eval o X.env := by rfl) (hline : (apos.endLine == cpos.line) = true := by rfl) : TEP X (.Call (.Attribute o name apos) [] [] cpos) ρ μ Q := fun ad Hb H σ W N Q' g => by
  refine pe_go (pe_bm0 pa slot hty hm pe_self hbase hline) (h ad Hb H σ W N _ ?_)
  rintro v x μ1 ad1 Hb1 H1 ⟨t, q⟩ s1 W1 r1
  exact ⟨tyE_v W1 r1 t, q ad1 Hb1 H1 v [] W1 r1 .nil Q' (g.after s1)⟩
end
theorem vm_append {K : PySem.W.Frag} {j : Nat} {zs : List E} (hj : μ[j]? = some (some (.lst zs))) (hl : zs.length < 100000) (q : Q (.sh .non) (μ.set j (some (.lst (zs ++ [y]))))) : VM K rAppend (.pt j) [y] μ Q := fun ad Hb H v vs W r0 rs Q' g => by
  obtain ⟨w, rfl, rw_⟩ := vals1 rs
  obtain ⟨a, ha, rfl⟩ := r0
  obtain ⟨_, us, hv, r⟩ := W.off j a _ ha hj
  refine ⟨a, us, w, rfl, rfl, hv, Nat.lt_of_lt_of_le (by rw [r.length]; exact hl) (by decide), ?_⟩
  obtain ⟨W2, s2⟩ := W.put (d := .lst (zs ++ [y])) (o := .lst (us ++ [w])) ha hj ⟨_, upd_same, pd_app r (.cons rw_ .nil)⟩
  exact g _ (.sh .non) _ _ _ _ q s2 W2 .non
theorem vm_extend {K : PySem.W.Frag} {j : Nat} {zs : List E} (hj : μ[j]? = some (some (.lst zs))) (hl : zs.length + xs.length ≤ 100000) (q : Q (.sh .non) (μ.set j (some (.lst (zs ++ xs.map .sh))))) : VM K rExtend (.pt j) [.sh (.lst xs)] μ Q := fun ad Hb H v vs W r0 rs Q' g => by
  obtain ⟨w, rfl, rw_⟩ := vals1 rs
  obtain ⟨a, ha, rfl⟩ := r0
  obtain ⟨_, us, hv, r⟩ := W.off j a _ ha hj
  obtain ⟨b, ws, rfl, hb, rb⟩ := Rep.lst_at rw_
  refine ⟨a, b, us, ws, rfl, rfl, hv, W.inc _ _ hb, Nat.le_trans (by rw [r.length, rb.length]; exact hl) (by decide), ?_⟩
  obtain ⟨W2, s2⟩ := W.put (d := .lst (zs ++ xs.map .sh)) (o := .lst (us ++ ws)) ha hj ⟨_, upd_same, pd_app r (repEs_of rb)⟩
  exact g _ (.sh .non) _ _ _ _ q s2 W2 .non
theorem vm_pop {K : PySem.W.Frag} {j : Nat} {zs : List E} (hj : μ[j]? = some (some (.lst zs))) (hl : zs[zs.length - 1]? = some y) (q : Q y (μ.set j (some (.lst zs.dropLast)))) : VM K rPop (.pt j) [] μ Q := fun ad Hb H v vs W r0 rs Q' g => by
  cases rs
  obtain ⟨a, ha, rfl⟩ := r0
  obtain ⟨_, us, hv, r⟩ := W.off j a _ ha hj
  obtain ⟨u, h1, h2⟩ := pd_left r _ y hl
  refine ⟨a, us, u, rfl, rfl, hv, by rw [r.length]; exact h1, ?_⟩
  obtain ⟨W2, s2⟩ := W.put (d := .lst zs.dropLast) (o := .lst us.dropLast) ha hj ⟨_, upd_same, by rw [List.dropLast_eq_take, List.dropLast_eq_take, r.length]; exact pd_take _ r⟩
  exact g _ y _ _ _ _ q s2 W2 (RepE.step s2 h2)
theorem pd_erase {α β : Type} {F : α → β → Prop} : ∀ {l₁ : List α} {l₂ : List β} (i : Nat), Paired F l₁ l₂ → Paired F (l₁.eraseIdx i) (l₂.eraseIdx i)
  | _, _, _, .nil => .nil
  | _, _, 0, .cons _ t => t
  | _, _, i + 1, .cons r t => .cons r (pd_erase i t)
theorem vm_popAt {K : PySem.W.Frag} {j : Nat} {zs : List E} {i : Nat} (hj : μ[j]? = some (some (.lst zs))) (hl : zs[i]? = some y) (hi : i < 100000) (q : Q y (μ.set j (some (.lst (zs.eraseIdx i))))) : VM K rPopAt (.pt j) [.sh (.int (i : Int))] μ Q := fun ad Hb H v vs W r0 rs Q' g => by
  obtain ⟨w, rfl, rw_⟩ := vals1 rs
  obtain rfl := Rep.int_inv rw_
  obtain ⟨a, ha, rfl⟩ := r0
  obtain ⟨_, us, hv, r⟩ := W.off j a _ ha hj
  obtain ⟨u, h1, h2⟩ := pd_left r _ y hl
  have hlt : i < us.length := (List.getElem?_eq_some_iff.mp h1).1
  refine ⟨a, us, (i : Int), i, u, rfl, rfl, hv, by omega, by omega, (ixN_seq (j := i) ?_).1, h1, ?_⟩
  · unfold ixN
    rw [if_pos (by omega), if_pos (by omega)]
    simp
  · obtain ⟨W2, s2⟩ := W.put (d := .lst (zs.eraseIdx i)) (o := .lst (us.eraseIdx i)) ha hj ⟨_, upd_same, pd_erase i r⟩
    exact g _ y _ _ _ _ q s2 W2 (RepE.step s2 h2)
theorem tep_append (h : TEP X o ρ μ fun x μ1 => ∃ j zs, x = .pt j ∧ μ1[j]? = some (some (.lst zs)) ∧ TEP X e ρ μ1 fun y μ2 => ∃ zs2, μ2[j]? = some (some (.lst zs2)) ∧ zs2.length < 100000 ∧ Q (.sh .non) (μ2.set j (some (.lst (zs2 ++ [y])))))
    (hbase : attributeBase o "append" X.env (eval o X.env) = eval o X.env := by rfl)
    (hfew : ((backTo cpos (starEach [e] X.env)).all (fun x => !x.1) && (backToKw cpos (keywordEach [] X.env)).all (fun x => x.1.isSome) && decide ([e].length + ([] : List Keyword).length + (if ([] : List Keyword).isEmpty then 0 else 1) < 30)) = true := by rfl)
    (hline : (apos.endLine == cpos.line) = true := by rfl) (hs : starEach [e] X.env = (false, eval e X.env) :: starEach [] X.env := by rfl) : TEP X (.Call (.Attribute o "append" apos) [e] [] cpos) ρ μ Q :=
  tep_bm PySem.F.plainAttrs_list PySem.F.slot_list_append PySem.F.type_list_append mt_append (fun ad Hb H σ W N Q' g => h ad Hb H σ W N Q' fun v x μ1 ad1 Hb1 H1 ⟨j, zs, ex, hj, q⟩ s1 W1 r1 => g v x μ1 ad1 Hb1 H1 ⟨by
    subst ex
    exact .inl ⟨rfl, zs, hj⟩, tap_cons (fun ad Hb H σ W N Q' g => q ad Hb H σ W N Q' fun v y μ2 ad1 Hb1 H1 ⟨zs2, hj2, hl, q2⟩ s1 W1 r1 => g v y μ2 ad1 Hb1 H1 (tap_nil (by subst ex; exact vm_append hj2 hl q2)) s1 W1 r1) hs⟩ s1 W1 r1) hbase hfew hline hs rfl
theorem tep_extend {j : Nat} {zs : List E} (ho : EV X o ρ μ (.pt j)) (h : EV X e ρ μ (.sh (.lst xs))) (hj : μ[j]? = some (some (.lst zs))) (hl : zs.length + xs.length ≤ 100000) (q : Q (.sh .non) (μ.set j (some (.lst (zs ++ xs.map .sh)))))
    (hbase : attributeBase o "extend" X.env (eval o X.env) = eval o X.env := by rfl)
    (hfew : ((backTo cpos (starEach [e] X.env)).all (fun x => !x.1) && (backToKw cpos (keywordEach [] X.env)).all (fun x => x.1.isSome) && decide ([e].length + ([] : List Keyword).length + (if ([] : List Keyword).isEmpty then 0 else 1) < 30)) = true := by rfl)
    (hline : (apos.endLine == cpos.line) = true := by rfl) (hs : starEach [e] X.env = (false, eval e X.env) :: starEach [] X.env := by rfl) : TEP X (.Call (.Attribute o "extend" apos) [e] [] cpos) ρ μ Q :=
  tep_bm PySem.F.plainAttrs_list PySem.F.slot_list_extend PySem.F.type_list_extend mt_extend (ho _ ⟨.inl ⟨rfl, zs, hj⟩, tap_cons (h _ (tap_nil (vm_extend hj hl q))) hs⟩) hbase hfew hline hs rfl
theorem tep_pop {j : Nat} {zs : List E} (ho : EV X o ρ μ (.pt j)) (hj : μ[j]? = some (some (.lst zs))) (hl : zs[zs.length - 1]? = some y) (q : Q y (μ.set j (some (.lst zs.dropLast))))
    (hbase : attributeBase o "pop" X.env (eval o X.env) = eval o X.env := by rfl) (hline : (apos.endLine == cpos.line) = true := by rfl) : TEP X (.Call (.Attribute o "pop" apos) [] [] cpos) ρ μ Q :=
  tep_bm0 PySem.F.plainAttrs_list PySem.F.slot_list_pop PySem.F.type_list_pop mt_pop (ho _ ⟨.inl ⟨rfl, zs, hj⟩, vm_pop hj hl q⟩) hbase hline
theorem tep_popAt (h : TEP X o ρ μ fun x μ1 => ∃ j zs, x = .pt j ∧ μ1[j]? = some (some (.lst zs)) ∧ TEP X e ρ μ1 fun y μ2 => ∃ (zs2 : List E) (i : Nat) (z : E), μ2[j]? = some (some (.lst zs2)) ∧ y = .sh (.int (i : Int)) ∧ zs2[i]? = some z ∧ i < 100000 ∧ Q z (μ2.set j (some (.lst (zs2.eraseIdx i)))))
    (hbase : attributeBase o "pop" X.env (eval o X.env) = eval o X.env := by rfl)
    (hfew : ((backTo cpos (starEach [e] X.env)).all (fun x => !x.1) && (backToKw cpos (keywordEach [] X.env)).all (fun x => x.1.isSome) && decide ([e].length + ([] : List Keyword).length + (if ([] : List Keyword).isEmpty then 0 else 1) < 30)) = true := by rfl)
    (hline : (apos.endLine == cpos.line) = true := by rfl) (hs : starEach [e] X.env = (false, eval e X.env) :: starEach [] X.env := by rfl) : TEP X (.Call (.Attribute o "pop" apos) [e] [] cpos) ρ μ Q :=
  tep_bm PySem.F.plainAttrs_list PySem.F.slot_list_pop PySem.F.type_list_pop mt_popAt (fun ad Hb H σ W N Q' g => h ad Hb H σ W N Q' fun v x μ1 ad1 Hb1 H1 ⟨j, zs, ex, hj, q⟩ s1 W1 r1 => g v x μ1 ad1 Hb1 H1 ⟨by
    subst ex
    exact .inl ⟨rfl, zs, hj⟩, tap_cons (fun ad Hb H σ W N Q' g => q ad Hb H σ W N Q' fun v y μ2 ad1 Hb1 H1 ⟨zs2, i, z, hj2, ey, hz, hi, q2⟩ s1 W1 r1 => g v y μ2 ad1 Hb1 H1 (tap_nil (by subst ex; subst ey; exact vm_popAt hj2 hz hi q2)) s1 W1 r1) hs⟩ s1 W1 r1) hbase hfew hline hs rfl

/-! ### lists joined, repeated; membership -/
theorem ev_cat (ha : EV X a ρ μ (.sh (.lst xs))) (hb : EV X b ρ μ (.sh (.lst ys))) (hl : xs.length + ys.length ≤ 100000) : EV X (.BinOp a .Add b pos) ρ μ (.sh (.lst (xs ++ ys))) := ev_op op_cat ha hb fun Q q ad Hb H v w W r1 r2 Q' g => by
  obtain ⟨a, vs, rfl, h1, r1⟩ := Rep.lst_at r1
  obtain ⟨b, ws, rfl, h2, r2⟩ := Rep.lst_at r2
  refine ⟨a, b, vs, ws, rfl, rfl, W.inc _ _ h1, W.inc _ _ h2, Nat.le_trans (by rw [r1.length, r2.length]; exact hl) (by decide), fun p hp => ?_⟩
  obtain ⟨W2, s2⟩ := W.alloc (o := .lst (vs ++ ws)) hp
  exact g _ (.sh (.lst (xs ++ ys))) _ _ _ _ q s2 W2 (Rep.lstL upd_same (RepL.mono s2.ex (pd_app r1 r2)))
theorem pd_rep {α β : Type} {F : α → β → Prop} {l₁ : List α} {l₂ : List β} (r : Paired F l₁ l₂) : ∀ n : Nat, Paired F (List.replicate n l₁).flatten (List.replicate n l₂).flatten
  | 0 => .nil
  | n + 1 => by
    rw [List.replicate_succ, List.replicate_succ, List.flatten_cons, List.flatten_cons]
    exact pd_app r (pd_rep r n)
theorem ev_rep {k : Int} (ha : EV X a ρ μ (.sh (.lst xs))) (hb : EV X b ρ μ (.sh (.int k))) (hk : -(2 ^ 63) ≤ k ∧ k < 2 ^ 63) (hl : xs.length * k.toNat ≤ 100000) : EV X (.BinOp a .Mult b pos) ρ μ (.sh (.lst (List.replicate k.toNat xs).flatten)) := ev_op op_rep ha hb fun Q q ad Hb H v w W r1 r2 Q' g => by
  obtain ⟨a, vs, rfl, h1, r1⟩ := Rep.lst_at r1
  obtain rfl := Rep.int_inv r2
  refine ⟨a, k, vs, rfl, rfl, W.inc _ _ h1, hk.1, hk.2, Nat.le_trans (by rw [r1.length]; exact hl) (by decide), fun p hp => ?_⟩
  obtain ⟨W2, s2⟩ := W.alloc (o := .lst (List.replicate k.toNat vs).flatten) hp
  exact g _ (.sh (.lst _)) _ _ _ _ q s2 W2 (Rep.lstL upd_same (RepL.mono s2.ex (pd_rep r1 _)))
/-- [e, ..] * n that will change -/
theorem tep_repC {k : Int} (ha : EV X a ρ μ (.sh (.lst xs))) (hb : EV X b ρ μ (.sh (.int k))) (hk : -(2 ^ 63) ≤ k ∧ k < 2 ^ 63) (hl : xs.length * k.toNat ≤ 100000) (q : Q (.pt μ.length) (μ ++ [some (.lst ((List.replicate k.toNat xs).flatten.map .sh))])) : TEP X (.BinOp a .Mult b pos) ρ μ Q := tep_op op_rep (ha _ (hb _ fun ad Hb H v w W r1 r2 Q' g => by
  obtain ⟨a, vs, rfl, h1, r1⟩ := Rep.lst_at r1
  obtain rfl := Rep.int_inv r2
  refine ⟨a, k, vs, rfl, rfl, W.inc _ _ h1, hk.1, hk.2, Nat.le_trans (by rw [r1.length]; exact hl) (by decide), fun p hp => ?_⟩
  obtain ⟨W2, s2⟩ := W.cell (o := .lst (List.replicate k.toNat vs).flatten) (c := .lst ((List.replicate k.toNat xs).flatten.map .sh)) hp ⟨_, upd_same, repEs_of (pd_rep r1 _)⟩
  exact g _ (.pt μ.length) _ _ _ _ q s2 W2 ⟨p, by rw [← W.len]; simp, rfl⟩))
theorem inV_int : ∀ (ns : List Int) (i : Int), inV (.int i) (ns.map V.int) = decide (i ∈ ns)
  | [], i => by simp [inV]
  | n :: ns, i => by
    have h := inV_int ns i
    unfold inV at h ⊢
    rw [List.map_cons, List.any_cons, h, Bool.eq_iff_iff]
    simp [eqV]
    constructor
    · rintro (h | h)
      · exact .inl h.symm
      · exact .inr h
    · rintro (h | h)
      · exact .inl h.symm
      · exact .inr h
theorem ints_flat (ns : List Int) : (ns.map V.int).all flatV = true := by
  rw [List.all_map, List.all_eq_true]
  intro n _
  rfl
theorem v2_in {K : PySem.W.Frag} {neg : Bool} {i : Int} {ns : List Int} (q : Q (.sh (.bl (if neg then !decide (i ∈ ns) else decide (i ∈ ns)))) μ) : V2 K (rIn K neg) (.sh (.int i)) (.sh (.lst (ns.map .int))) μ Q := fun ad Hb H v w W r1 r2 Q' g => by
  obtain rfl := Rep.int_inv r1
  obtain ⟨a, vs, rfl, h1, r2⟩ := Rep.lst_inv r2
  obtain rfl := rep_ints r2
  refine ⟨a, _, rfl, .inl (W.sqL h1), rfl, ints_flat ns, ?_⟩
  rw [inV_int]
  exact g.now W (x := .sh (.bl _)) (.bl _) q
theorem v2_inC {K : PySem.W.Frag} {neg : Bool} {i : Int} {j : Nat} {ns : List Int} (hj : μ[j]? = some (some (.lst (ns.map fun n => .sh (.int n))))) (q : Q (.sh (.bl (if neg then !decide (i ∈ ns) else decide (i ∈ ns)))) μ) : V2 K (rIn K neg) (.sh (.int i)) (.pt j) μ Q := fun ad Hb H v w W r1 r2 Q' g => by
  obtain rfl := Rep.int_inv r1
  obtain ⟨a, ha, rfl⟩ := r2
  obtain ⟨_, vs, hv, r⟩ := W.off j a _ ha hj
  have r' : RepEs K ad Hb vs ((ns.map P.int).map .sh) := by
    rw [List.map_map]
    exact r
  obtain rfl := rep_ints (repEs_sh r')
  refine ⟨a, _, rfl, .inl (.inl (.inl hv)), rfl, ints_flat ns, ?_⟩
  rw [inV_int]
  exact g.now W (x := .sh (.bl _)) (.bl _) q
section
variable {i : Int} {ns : List Int}
theorem ev_in (ha : EV X a ρ μ (.sh (.int i))) (hb : EV X b ρ μ (.sh (.lst (ns.map .int)))) (hm : behindInMarks .In b = false := by with_unfolding_all rfl) : EV X (.Compare a [.In] [b] pos) ρ μ (.sh (.bl (decide (i ∈ ns)))) := ev_cmp op_in_seq hm ha hb fun Q q => v2_in (neg := false) q
theorem ev_notIn (ha : EV X a ρ μ (.sh (.int i))) (hb : EV X b ρ μ (.sh (.lst (ns.map .int)))) (hm : behindInMarks .NotIn b = false := by with_unfolding_all rfl) : EV X (.Compare a [.NotIn] [b] pos) ρ μ (.sh (.bl (!decide (i ∈ ns)))) := ev_cmp op_notIn_seq hm ha hb fun Q q => v2_in (neg := true) q
theorem et_in (ha : EV X a ρ μ (.sh (.int i))) (hb : EV X b ρ μ (.sh (.lst (ns.map .int)))) (hm : behindInMarks .In b = false := by with_unfolding_all rfl) : ET X (.Compare a [.In] [b] pos) ρ μ (decide (i ∈ ns)) := et_cmp op_in_seq hm ha hb fun Q q => v2_in (neg := false) q
theorem et_notIn (ha : EV X a ρ μ (.sh (.int i))) (hb : EV X b ρ μ (.sh (.lst (ns.map .int)))) (hm : behindInMarks .NotIn b = false := by with_unfolding_all rfl) : ET X (.Compare a [.NotIn] [b] pos) ρ μ (!decide (i ∈ ns)) := et_cmp op_notIn_seq hm ha hb fun Q q => v2_in (neg := true) q
end

/-! ### dicts -/
section
variable {κ α : Type} [DecidableEq κ]
def dget (kvs : List (κ × α)) (k : κ) : Option α := (kvs.find? fun kv => decide (kv.1 = k)).map (·.2)
def dput (kvs : List (κ × α)) (k : κ) (v : α) : List (κ × α) :=
  if (kvs.any fun kv => decide (kv.1 = k)) = true then kvs.map (fun kv => if kv.1 = k then (kv.1, v) else kv) else kvs ++ [(k, v)]
theorem pd_dget {F : V → α → Prop} : ∀ {ks : List (κ × V)} {kvs : List (κ × α)}, Paired (fun p q => p.1 = q.1 ∧ F p.2 q.2) ks kvs → ∀ k : κ, (∀ y, dget kvs k = some y → ∃ v, valV ks k = some v ∧ F v y) ∧ (dget kvs k = none → valV ks k = none)
  | _, _, .nil, k => ⟨fun _ h => (nomatch h), fun _ => rfl⟩
  | (k1, v1) :: ks, (k2, y2) :: kvs, .cons r t, k => by
    have e : k1 = k2 := r.1
    have q : F v1 y2 := r.2
    clear r
    subst e
    have ih := pd_dget t k
    by_cases c : k1 = k
    · subst c
      refine ⟨fun y h => ⟨v1, by simp [valV], ?_⟩, fun h => ?_⟩
      · simp [dget] at h
        subst h
        exact q
      · simp [dget] at h
    · have h1 : dget ((k1, y2) :: kvs) k = dget kvs k := by simp [dget, c]
      have h2 : valV ((k1, v1) :: ks) k = valV ks k := by simp [valV, c]
      rw [h1, h2]
      exact ih
theorem pd_dput {F : V → α → Prop} {ks : List (κ × V)} {kvs : List (κ × α)} (r : Paired (fun p q => p.1 = q.1 ∧ F p.2 q.2) ks kvs) (k : κ) {v : V} {y : α} (h : F v y) : Paired (fun p q => p.1 = q.1 ∧ F p.2 q.2) (putK ks k v) (dput kvs k y) := by
  have ha : (ks.any fun kv => decide (kv.1 = k)) = (kvs.any fun kv => decide (kv.1 = k)) := by
    induction r with
    | nil => rfl
    | cons r t ih => rw [List.any_cons, List.any_cons, ih, r.1]
  unfold putK dput
  rw [ha]
  split
  · rename_i hh
    clear ha hh
    induction r with
    | nil => exact .nil
    | @cons p q _ _ r t ih =>
      rw [List.map_cons, List.map_cons]
      refine .cons ?_ ih
      by_cases c : p.1 = k
      · rw [if_pos c, if_pos (by rw [← r.1]; exact c)]
        exact ⟨r.1, h⟩
      · rw [if_neg c, if_neg (by rw [← r.1]; exact c)]
        exact r
  · exact pd_app r (.cons ⟨rfl, h⟩ .nil)
theorem dput_len (kvs : List (κ × α)) (k : κ) (v : α) : (dput kvs k v).length ≤ kvs.length + 1 := by
  unfold dput
  split
  · rw [List.length_map]; omega
  · rw [List.length_append]; simp
theorem dget_put (kvs : List (κ × α)) (k k' : κ) (v : α) : dget (dput kvs k v) k' = if k = k' then some v else dget kvs k' := by
  have hf : ∀ (l : List (κ × α)), k ≠ k' → ((l.map (fun kv => if kv.1 = k then (kv.1, v) else kv)).find? fun kv => decide (kv.1 = k')).map (·.2) = (l.find? fun kv => decide (kv.1 = k')).map (·.2) := by
    intro l hk
    induction l with
    | nil => rfl
    | cons p l ih =>
      rw [List.map_cons, List.find?_cons, List.find?_cons]
      by_cases c : p.1 = k
      · rw [if_pos c]
        have : decide (p.1 = k') = false := by simp [c, hk]
        simp only [this]
        exact ih
      · rw [if_neg c]
        by_cases d : p.1 = k'
        · simp [d]
        · simp only [d, decide_false]
          exact ih
  have hs : ∀ (l : List (κ × α)), (l.any fun kv => decide (kv.1 = k)) = true → ((l.map (fun kv => if kv.1 = k then (kv.1, v) else kv)).find? fun kv => decide (kv.1 = k)).map (·.2) = some v := by
    intro l h
    induction l with
    | nil => simp at h
    | cons p l ih =>
      rw [List.map_cons, List.find?_cons]
      by_cases c : p.1 = k
      · rw [if_pos c]
        simp [c]
      · rw [if_neg c]
        simp only [c, decide_false]
        rw [List.any_cons] at h
        simp only [c, decide_false, Bool.false_or] at h
        exact ih h
  unfold dget dput
  split
  · rename_i h
    by_cases e : k = k'
    · subst e
      rw [if_pos rfl]
      exact hs kvs h
    · rw [if_neg e]
      exact hf kvs e
  · rename_i h
    rw [List.find?_append]
    by_cases e : k = k'
    · subst e
      rw [if_pos rfl]
      have : kvs.find? (fun kv => decide (kv.1 = k)) = none := by
        rw [List.find?_eq_none]
        intro p hp c
        exact h (List.any_eq_true.mpr ⟨p, hp, c⟩)
      rw [this]
      simp
    · rw [if_neg e]
      have : [(k, v)].find? (fun kv => decide (kv.1 = k')) = none := by simp [e]
      rw [this, Option.or_none]
end
def kP : Key → P
  | .inl i => .int i
  | .inr x => .str x
theorem rep_key {K : PySem.W.Frag} {H : Hp} {v : V} {k : Key} (r : Rep K H v (kP k)) : v = kV k := by
  cases k with
  | inl i => exact Rep.int_inv r
  | inr x => exact Rep.str_inv r
theorem rep_keys {K : PySem.W.Frag} {H : Hp} : ∀ {vs : List V} {ks : List Key}, RepL K H vs (ks.map kP) → vs = ks.map kV
  | _, [], .nil => rfl
  | _, k :: ks, .cons r t => by rw [rep_key r, rep_keys t]; rfl
theorem rep_keyT {K : PySem.W.Frag} {H : Hp} {v : V} {ks : List Key} (r : Rep K H v (.tup (ks.map kP))) : ∃ b, v = .ref b ∧ H b = some (.tup (ks.map kV)) := by
  obtain ⟨b, vs, rfl, h, r⟩ := Rep.tup_inv r
  obtain rfl := rep_keys r
  exact ⟨b, rfl, h⟩
/-- what a dict holds -/
inductive DG (μ : Mu) : E → E → Option E → Prop
  | shT {kvs : List (List Key × P)} {k : List Key} : DG μ (.sh (.dT kvs)) (.sh (.tup (k.map kP))) ((dget kvs k).map .sh)
  | ptT {j : Nat} {kvs : List (List Key × E)} {k : List Key} (h : μ[j]? = some (some (.dT kvs))) : DG μ (.pt j) (.sh (.tup (k.map kP))) (dget kvs k)
  | shK {kvs : List (Key × P)} {k : Key} : DG μ (.sh (.dK kvs)) (.sh (kP k)) ((dget kvs k).map .sh)
  | ptK {j : Nat} {kvs : List (Key × E)} {k : Key} (h : μ[j]? = some (some (.dK kvs))) : DG μ (.pt j) (.sh (kP k)) (dget kvs k)
theorem DG.get {K : PySem.W.Frag} {ad : List Addr} {Hb H : Hp} (W : Wd K ad Hb H μ) {d k : E} {o : Option E} (g : DG μ d k o) {v w : V} (rd : RepE K ad Hb v d) (rk : RepE K ad Hb w k) : ∃ a ov, v = .ref a ∧ DGet H a w ov ∧ (∀ y, o = some y → ∃ u, ov = some u ∧ RepE K ad Hb u y) ∧ (o = none → ov = none) := by
  cases g with
  | @shT kvs k =>
    obtain ⟨a, ks, rfl, ha, r⟩ := Rep.dT_inv rd
    obtain ⟨b, rfl, hb⟩ := rep_keyT rk
    obtain ⟨h1, h2⟩ := pd_dget r k
    refine ⟨a, valV ks k, rfl, .inr ⟨ks, k, b, W.inc _ _ ha, rfl, W.tup hb, rfl⟩, fun y e => ?_, fun e => h2 (by simpa using e)⟩
    obtain ⟨y', e1, rfl⟩ := Option.map_eq_some_iff.mp e
    exact h1 y' e1
  | @ptT j kvs k hj =>
    obtain ⟨a, ha, rfl⟩ := rd
    obtain ⟨_, ks, hv, r⟩ := W.off j a _ ha hj
    obtain ⟨b, rfl, hb⟩ := rep_keyT rk
    obtain ⟨h1, h2⟩ := pd_dget r k
    exact ⟨a, valV ks k, rfl, .inr ⟨ks, k, b, .inl hv, rfl, W.tup hb, rfl⟩, h1, h2⟩
  | @shK kvs k =>
    obtain ⟨a, ks, rfl, ha, r⟩ := Rep.dK_inv rd
    obtain rfl := rep_key rk
    obtain ⟨h1, h2⟩ := pd_dget r k
    refine ⟨a, valV ks k, rfl, .inl ⟨ks, k, W.inc _ _ ha, rfl, rfl⟩, fun y e => ?_, fun e => h2 (by simpa using e)⟩
    obtain ⟨y', e1, rfl⟩ := Option.map_eq_some_iff.mp e
    exact h1 y' e1
  | @ptK j kvs k hj =>
    obtain ⟨a, ha, rfl⟩ := rd
    obtain ⟨_, ks, hv, r⟩ := W.off j a _ ha hj
    obtain rfl := rep_key rk
    obtain ⟨h1, h2⟩ := pd_dget r k
    exact ⟨a, valV ks k, rfl, .inl ⟨ks, k, .inl hv, rfl, rfl⟩, h1, h2⟩
theorem tep_dget (hu : X.A.units + 1 < cLine) (h : TEP X a ρ μ fun d μ1 => TEP X b ρ μ1 fun k μ2 => ∃ y, DG μ2 d k (some y) ∧ Q y μ2) (hs : NoSl b := by intro _ _; rfl) : TEP X (.Subscript a b pos) ρ μ Q := fun ad Hb H σ W N Q' g => by
  refine pe_go (pe_dget hu pe_self pe_self hs) (h ad Hb H σ W N _ fun v d μ1 ad1 Hb1 H1 q1 s1 W1 r1 => q1 ad1 Hb1 H1 σ W1 (N.step s1) _ ?_)
  rintro w k μ2 ad2 Hb2 H2 ⟨y, dg, q⟩ s2 W2 r2
  obtain ⟨a, ov, rfl, hd, h1, _⟩ := dg.get W2 (RepE.step s2 r1) r2
  obtain ⟨u, rfl, ru⟩ := h1 y rfl
  exact ⟨a, u, rfl, hd, g u y _ _ _ _ q (s1.trans s2) W2 ru⟩
theorem ev_dget {d k y : E} (hu : X.A.units + 1 < cLine) (ha : EV X a ρ μ d) (hb : EV X b ρ μ k) (h : DG μ d k (some y)) (hs : NoSl b := by intro _ _; rfl) : EV X (.Subscript a b pos) ρ μ y := fun Q q => tep_dget hu (ha _ (hb _ ⟨y, h, q⟩)) hs
theorem ev_dgetT {kvs : List (List Key × P)} {k : List Key} {y : P} (hu : X.A.units + 1 < cLine) (ha : EV X a ρ μ (.sh (.dT kvs))) (hb : EV X b ρ μ (.sh (.tup (k.map kP)))) (h : dget kvs k = some y) (hs : NoSl b := by intro _ _; rfl) : EV X (.Subscript a b pos) ρ μ (.sh y) := ev_dget hu ha hb (by
  have := DG.shT (μ := μ) (kvs := kvs) (k := k)
  rw [h] at this
  exact this) hs
theorem ev_dgetC {j : Nat} {kvs : List (List Key × E)} {k : List Key} {y : E} (hu : X.A.units + 1 < cLine) (ha : EV X a ρ μ (.pt j)) (hb : EV X b ρ μ (.sh (.tup (k.map kP)))) (hj : μ[j]? = some (some (.dT kvs))) (h : dget kvs k = some y) (hs : NoSl b := by intro _ _; rfl) : EV X (.Subscript a b pos) ρ μ y := ev_dget hu ha hb (by
  have := DG.ptT (k := k) hj
  rw [h] at this
  exact this) hs
theorem isSome_of {o : Option E} {ov : Option V} {K : PySem.W.Frag} {ad : List Addr} {Hb : Hp} (h1 : ∀ y, o = some y → ∃ u, ov = some u ∧ RepE K ad Hb u y) (h2 : o = none → ov = none) : ov.isSome = o.isSome := by
  cases o with
  | none => rw [h2 rfl]; rfl
  | some y => obtain ⟨u, e, _⟩ := h1 y rfl; rw [e]; rfl
theorem pc_din_go {d k : E} {ov : Option E} {neg : Bool} {Qb : Bool → Mu → Prop} (ha : EV X a ρ μ k) (hb : EV X b ρ μ d) (h : DG μ d k ov) {ad : List Addr} {Hb H : Hp} {σ : L2.St} (W : Wd X.K ad Hb H μ) (N : Env X.K ad Hb σ ρ) {R : Bool → Hp → Prop} (g : ∀ ad' Hb' H', Step ad Hb H ad' Hb' H' → Wd X.K ad' Hb' H' μ → R ov.isSome H') :
    TEV X a σ H fun y H1 => TEV X b σ H1 fun x H2 => ∃ a o, x = .ref a ∧ DGet H2 a y o ∧ R o.isSome H2 := by
  refine ha (fun z μ1 => z = k ∧ μ1 = μ) ⟨rfl, rfl⟩ ad Hb H σ W N _ ?_
  rintro v z μ1 ad1 Hb1 H1 ⟨rfl, rfl⟩ s1 W1 r1
  refine hb (fun z μ2 => z = d ∧ μ2 = μ1) ⟨rfl, rfl⟩ ad1 Hb1 H1 σ W1 (N.step s1) _ ?_
  rintro w z2 μ2 ad2 Hb2 H2 ⟨rfl, rfl⟩ s2 W2 r2
  obtain ⟨a, o2, rfl, hd, h1, h2⟩ := h.get W2 r2 (RepE.step s2 r1)
  refine ⟨a, o2, rfl, hd, ?_⟩
  rw [isSome_of h1 h2]
  exact g _ _ _ (s1.trans s2) W2
theorem ev_din {d k : E} {ov : Option E} (hu : X.A.units + 1 < cLine) (ha : EV X a ρ μ k) (hb : EV X b ρ μ d) (h : DG μ d k ov) (hm : behindInMarks .In b = false := by with_unfolding_all rfl) : EV X (.Compare a [.In] [b] pos) ρ μ (.sh (.bl ov.isSome)) := fun Q q ad Hb H σ W N Q' g =>
  pe_go (pe_cmp (pc_din hu pe_self pe_self) hm) (pc_din_go (neg := false) (Qb := fun _ _ => True) ha hb h W N (R := fun b H => Q' (.bl b) H) fun ad' Hb' H' s W' => g _ (.sh (.bl _)) _ _ _ _ q s W' (.bl _))
theorem ev_dnotIn {d k : E} {ov : Option E} (hu : X.A.units + 1 < cLine) (ha : EV X a ρ μ k) (hb : EV X b ρ μ d) (h : DG μ d k ov) (hm : behindInMarks .NotIn b = false := by with_unfolding_all rfl) : EV X (.Compare a [.NotIn] [b] pos) ρ μ (.sh (.bl (!ov.isSome))) := fun Q q ad Hb H σ W N Q' g =>
  pe_go (pe_cmp (pc_dnotin hu pe_self pe_self) hm) (pc_din_go (neg := false) (Qb := fun _ _ => True) ha hb h W N (R := fun b H => Q' (.bl (!b)) H) fun ad' Hb' H' s W' => g _ (.sh (.bl (!_))) _ _ _ _ q s W' (.bl _))
theorem et_din {d k : E} {ov : Option E} (hu : X.A.units + 1 < cLine) (ha : EV X a ρ μ k) (hb : EV X b ρ μ d) (h : DG μ d k ov) (hm : behindInMarks .In b = false := by with_unfolding_all rfl) : ET X (.Compare a [.In] [b] pos) ρ μ ov.isSome := fun Q q ad Hb H σ W N Q' g =>
  pt_go (pt_cmp (pc_din hu pe_self pe_self) hm) (pc_din_go (neg := false) (Qb := fun _ _ => True) ha hb h W N (R := fun b H => ∃ c, V.bl b = .bl c ∧ Q' c H) fun ad' Hb' H' s W' => ⟨_, rfl, g _ _ _ _ _ q s W'⟩)
theorem et_dnotIn {d k : E} {ov : Option E} (hu : X.A.units + 1 < cLine) (ha : EV X a ρ μ k) (hb : EV X b ρ μ d) (h : DG μ d k ov) (hm : behindInMarks .NotIn b = false := by with_unfolding_all rfl) : ET X (.Compare a [.NotIn] [b] pos) ρ μ (!ov.isSome) := fun Q q ad Hb H σ W N Q' g =>
  pt_go (pt_cmp (pc_dnotin hu pe_self pe_self) hm) (pc_din_go (neg := false) (Qb := fun _ _ => True) ha hb h W N (R := fun b H => ∃ c, V.bl (!b) = .bl c ∧ Q' c H) fun ad' Hb' H' s W' => ⟨_, rfl, g _ _ _ _ _ q s W'⟩)
/-- d.get(k, x) -/
theorem ev_dget2 {d k z : E} {ov : Option E} (hu : X.A.units + 1 < cLine) (ho : EV X o ρ μ d) (ha : EV X a ρ μ k) (hb : EV X b ρ μ z) (h : DG μ d k ov) (m : M2 X o "get" apos a b cpos) : EV X (.Call (.Attribute o "get" apos) [a, b] [] cpos) ρ μ (ov.getD z) := fun Q q ad Hb H σ W N Q' g => by
  refine pe_go (pe_dget2 hu pe_self pe_self pe_self m) (ho (fun y μ1 => y = d ∧ μ1 = μ) ⟨rfl, rfl⟩ ad Hb H σ W N _ ?_)
  rintro v y μ1 ad1 Hb1 H1 ⟨rfl, rfl⟩ s1 W1 r1
  have hD : ∃ a, v = .ref a ∧ IsD H1 a := by
    cases h with
    | shT => obtain ⟨a, ks, rfl, ha, _⟩ := Rep.dT_inv r1; exact ⟨a, rfl, .inr ⟨ks, W1.inc _ _ ha⟩⟩
    | ptT hj => obtain ⟨a, ha, rfl⟩ := r1; obtain ⟨_, ks, hv, _⟩ := W1.off _ a _ ha hj; exact ⟨a, rfl, .inr ⟨ks, .inl hv⟩⟩
    | shK => obtain ⟨a, ks, rfl, ha, _⟩ := Rep.dK_inv r1; exact ⟨a, rfl, .inl ⟨ks, W1.inc _ _ ha⟩⟩
    | ptK hj => obtain ⟨a, ha, rfl⟩ := r1; obtain ⟨_, ks, hv, _⟩ := W1.off _ a _ ha hj; exact ⟨a, rfl, .inl ⟨ks, .inl hv⟩⟩
  obtain ⟨d0, rfl, isd⟩ := hD
  refine ⟨d0, rfl, isd, ha (fun y μ2 => y = k ∧ μ2 = μ1) ⟨rfl, rfl⟩ ad1 Hb1 H1 σ W1 (N.step s1) _ ?_⟩
  rintro w y2 μ2 ad2 Hb2 H2 ⟨rfl, rfl⟩ s2 W2 r2
  refine hb (fun y μ3 => y = z ∧ μ3 = μ2) ⟨rfl, rfl⟩ ad2 Hb2 H2 σ W2 ((N.step s1).step s2) _ ?_
  rintro u y3 μ3 ad3 Hb3 H3 ⟨rfl, rfl⟩ s3 W3 r3
  obtain ⟨a, o2, e, hd, h1, h2⟩ := h.get W3 (RepE.step (s2.trans s3) r1) (RepE.step s3 r2)
  cases e
  refine ⟨o2, hd, g _ (ov.getD y3) _ _ _ _ q ((s1.trans s2).trans s3) W3 ?_⟩
  cases ov with
  | none => rw [h2 rfl]; exact r3
  | some y => obtain ⟨u2, e2, r4⟩ := h1 y rfl; rw [e2]; exact r4
/-- d[k] = e -/
theorem tsp_dputT {value : Expr} {pos' : Pos} {D : Out} (hu : X.A.units + 1 < cLine)
    (h : TEP X value ρ μ fun y μ1 => TEP X o ρ μ1 fun d μ2 => TEP X a ρ μ2 fun k μ3 => ∃ (j : Nat) (kvs : List (List Key × E)) (ks : List Key), d = .pt j ∧ k = .sh (.tup (ks.map kP)) ∧ μ3[j]? = some (some (.dT kvs)) ∧ kvs.length < 100000 ∧ D.nx ρ (μ3.set j (some (.dT (dput kvs ks y)))))
    (hs : swapsWith value (some (.Subscript o a pos')) pos.line X.env = pure false := by rfl) : TSP X (.Assign [.Subscript o a pos'] value pos) ρ μ D := fun ad Hb H σ W N D' g => by
  refine ps_go (ps_dput hu pe_self pe_self pe_self hs) (h ad Hb H σ W N _ fun v y μ1 ad1 Hb1 H1 q1 s1 W1 r1 => q1 ad1 Hb1 H1 σ W1 (N.step s1) _ fun w d μ2 ad2 Hb2 H2 q2 s2 W2 r2 => q2 ad2 Hb2 H2 σ W2 ((N.step s1).step s2) _ ?_)
  rintro u k μ3 ad3 Hb3 H3 ⟨j, kvs, ks, rfl, rfl, hj, hl, q⟩ s3 W3 r3
  obtain ⟨a, ha, rfl⟩ := RepE.step s3 r2
  obtain ⟨_, ws, hv, r⟩ := W3.off j a _ ha hj
  obtain ⟨b, rfl, hb⟩ := rep_keyT r3
  obtain ⟨W4, s4⟩ := W3.put (d := .dT (dput kvs ks y)) (o := .dT (putK ws ks v)) ha hj ⟨_, upd_same, pd_dput r ks (RepE.step (s2.trans s3) r1)⟩
  refine ⟨a, _, rfl, .inr ⟨ws, ks, b, hv, rfl, W3.tup hb, Nat.lt_of_lt_of_le (by rw [r.length]; exact hl) (by decide), rfl⟩, ?_⟩
  exact g.nx _ _ _ _ _ _ q (((s1.trans s2).trans s3).trans s4) W4 (N.step (((s1.trans s2).trans s3).trans s4))
/-- xs[i] = e -/
theorem tsp_seti {value : Expr} {pos' : Pos} {D : Out}
    (h : TEP X value ρ μ fun y μ1 => TEP X o ρ μ1 fun d μ2 => TEP X a ρ μ2 fun k μ3 => ∃ (j : Nat) (zs : List E) (i : Nat), d = .pt j ∧ k = .sh (.int (i : Int)) ∧ μ3[j]? = some (some (.lst zs)) ∧ i < zs.length ∧ D.nx ρ (μ3.set j (some (.lst (zs.set i y)))))
    (hs : swapsWithSole [.Subscript o a pos'] value pos.line X.env = pure false := by rfl) (hw : swappedStores [.Subscript o a pos'] value X.env = pure none := by rfl) (h1 : (assignEach [.Subscript o a pos'] X.env).map (·.2) = [assign (.Subscript o a pos') X.env] := by rfl)
    (ha : ∀ v, assign (.Subscript o a pos') X.env v = (do
      let ov ← holding [v] (eval o X.env)
      let iv ← holding [v, ov] (eval a X.env)
      standAt pos'
      holding [v, ov, iv] (setItem ov iv v)
      release [v, ov, iv] []) := by intro _; rfl) : TSP X (.Assign [.Subscript o a pos'] value pos) ρ μ D := fun ad Hb H σ W N D' g => by
  refine ps_go (ps_asg pe_self (pg_sub pe_self pe_self set_list ha) hs hw h1) (h ad Hb H σ W N _ fun v y μ1 ad1 Hb1 H1 q1 s1 W1 r1 => q1 ad1 Hb1 H1 σ W1 (N.step s1) _ fun w d μ2 ad2 Hb2 H2 q2 s2 W2 r2 => q2 ad2 Hb2 H2 σ W2 ((N.step s1).step s2) _ ?_)
  rintro u k μ3 ad3 Hb3 H3 ⟨j, zs, i, rfl, rfl, hj, hl, q⟩ s3 W3 r3
  obtain ⟨a, ha, rfl⟩ := RepE.step s3 r2
  obtain rfl := Rep.int_inv r3
  obtain ⟨_, ws, hv, r⟩ := W3.off j a _ ha hj
  obtain ⟨W4, s4⟩ := W3.put (d := .lst (zs.set i y)) (o := .lst (ws.set i v)) ha hj ⟨_, upd_same, pd_set (RepE.step (s2.trans s3) r1) i r⟩
  refine ⟨a, ws, (i : Int), i, rfl, rfl, hv, ?_, ?_⟩
  · unfold ixN
    have := r.length
    rw [if_pos (by omega), if_pos (by omega)]
    simp
  · exact g.nx _ _ _ _ _ _ q (((s1.trans s2).trans s3).trans s4) W4 (N.step (((s1.trans s2).trans s3).trans s4))
end
end PV

/-! Statements over one value. -/
namespace PV
open PySem PySem.Spec PyProof.Rows L2
section
variable {X : Cx} {st : Stmt} {rest bodyS elseS : List Stmt} {tg a b c e o iter : Expr} {es : List Expr} {ρ : Rho} {μ : Mu} {D : Out} {pos pos' p2 : Pos} {x y z : E}
theorem tsp_retV (h : EV X e ρ μ x) (q : D.rt x μ) : TSP X (.Return (some e) pos) ρ μ D := tsp_ret (h _ q)
theorem tsp_setV (i : Nat) (nd : X.N.Nodup) {n : Str} (h : EV X e ρ μ x) (q : D.nx (ρ.set i (some x)) μ) (hi : X.N[i]? = some n := by rfl) (hx : Loc X.env.scope n := by first | exact Or.inl rfl | exact Or.inr rfl) (hf : X.fn n = true ∨ X.env.scope.names.lookup n = some .local := by exact Or.inl rfl)
    (hs : swapsWith e (some (.Name n pos')) pos.line X.env = pure false := by rfl) : TSP X (.Assign [.Name n pos'] e pos) ρ μ D := tsp_set i (h _ q) nd hi hx hf hs
theorem tsp_setP (i : Nat) (nd : X.N.Nodup) {n : Str} (h : TEP X e ρ μ fun x μ1 => D.nx (ρ.set i (some x)) μ1) (hi : X.N[i]? = some n := by rfl) (hx : Loc X.env.scope n := by first | exact Or.inl rfl | exact Or.inr rfl) (hf : X.fn n = true ∨ X.env.scope.names.lookup n = some .local := by exact Or.inl rfl)
    (hs : swapsWith e (some (.Name n pos')) pos.line X.env = pure false := by rfl) : TSP X (.Assign [.Name n pos'] e pos) ρ μ D := tsp_set i h nd hi hx hf hs
end
section
variable {X : Cx} {st : Stmt} {rest bodyS elseS : List Stmt} {tg a b c e o iter : Expr} {es : List Expr} {ρ : Rho} {μ : Mu} {D : Out} {pos pos' p2 : Pos} {x y z : E}
/-- a list or a tuple -/
abbrev Sq (x : P) (xs : List P) : Prop := x = .lst xs ∨ x = .tup xs
section
variable {xs : List P} {x : P}
theorem ev_lenS (hx : Sq x xs) (hm : X.mg "len" = none) (h : EV X e ρ μ (.sh x)) (hg : Gl X "len" := by rfl) (hs : starEach [e] X.env = (false, eval e X.env) :: starEach [] X.env := by rfl) : EV X (.Call (.Name "len" p2) [e] [] pos) ρ μ (.sh (.int (xs.length : Int))) := by
  rcases hx with rfl | rfl
  · exact ev_len hm h hg hs
  · exact ev_lenT hm h hg hs
theorem ev_ixS {i : Int} {y : P} (hx : Sq x xs) (ha : EV X a ρ μ (.sh x)) (hb : EV X b ρ μ (.sh (.int i))) (h : atI xs i = some y) (hs : PlainIx b := by intro _ _; rfl) : EV X (.Subscript a b pos) ρ μ (.sh y) := by
  rcases hx with rfl | rfl
  · exact ev_ixL ha hb h hs
  · exact ev_ixT ha hb h hs
theorem ei_seq (hx : Sq x xs) (h : EV X e ρ μ (.sh x)) : EI X tg e ρ μ (xs.map .sh) := by
  rcases hx with rfl | rfl
  · exact ei_list h
  · exact ei_tup h
end
theorem EI.is {zs ys : List E} (h : EI X tg iter ρ μ zs) (q : zs = ys) : EI X tg iter ρ μ ys := q ▸ h
/-- inside a comprehension -/
def EVB (X : Cx) (scope : Scope) (e : Expr) (ρ : Rho) (μ : Mu) (x : E) : Prop := ∀ s H C cl fp, EV (X.blk s H scope (compEnvC scope cl C X.env) fp) e ρ μ x
def ETB (X : Cx) (scope : Scope) (e : Expr) (ρ : Rho) (μ : Mu) (x : Bool) : Prop := ∀ s H C cl fp, ET (X.blk s H scope (compEnvC scope cl C X.env) fp) e ρ μ x
/-- how a target takes x -/
def TgB (X : Cx) (scope : Scope) (tg : Expr) (js : List Nat) (x : E) (ρ ρ' : Rho) (μ : Mu) : Prop := ∀ R : Rho → Mu → Prop, R ρ' μ → TGB X scope tg js x ρ μ R
section
variable {α : Type} {scope : Scope} {elt : Expr} {zs : List E} {k : Nat}
theorem tgb_name (i : Nat) {js : List Nat} {n : Str} {x : E} (nd : X.N.Nodup) (hj : i ∈ js) (hi : X.N[i]? = some n) (hf : scope.names.lookup n = some .local) : TgB X scope (.Name n pos) js x ρ (ρ.set i (some x)) μ := fun R q s H C cl fp => tgp_name i q hj nd hi (.inl (lookup_relabel_local hf)) (.inr (lookup_relabel_local hf))
/-- the name that an expression is -/
def nmOf : Expr → Option Str
  | .Name x _ => some x
  | _ => none
theorem nmOf_some {e : Expr} {x : Str} (h : nmOf e = some x) : ∃ p, e = .Name x p := by
  cases e with
  | Name y p => cases h; exact ⟨p, rfl⟩
  | _ => cases h
def setsR (ρ : Rho) (is : List Nat) (xs : List E) : Rho := (is.zip xs).foldl (fun r p => r.set p.1 (some p.2)) ρ
theorem tgs_names {X : Cx} {js : List Nat} {R : Rho → Mu → Prop} (nd : X.N.Nodup) : ∀ (ns : List Str) (es : List Expr) (is : List Nat) (xs : List E) (ρ : Rho), es.map nmOf = ns.map some → xs.length = ns.length → (∀ i ∈ is, i ∈ js) → is.map (fun i => X.N[i]?) = ns.map some →
    (∀ n ∈ ns, Loc X.env.scope n ∧ (X.fn n = true ∨ X.env.scope.names.lookup n = some .local)) → R (setsR ρ is xs) μ → TGsP X es js xs ρ μ R := by
  intro ns
  induction ns with
  | nil =>
    intro es is xs ρ h1 h2 _ h3 _ q
    cases es with
    | cons _ _ => cases h1
    | nil =>
      cases xs with
      | cons _ _ => cases h2
      | nil =>
        cases is with
        | cons _ _ => cases h3
        | nil => exact tgs_nil q
  | cons n ns ih =>
    intro es is xs ρ h1 h2 hj h3 h4 q
    cases es with
    | nil => cases h1
    | cons e es =>
      cases xs with
      | nil => cases h2
      | cons x xs =>
        cases is with
        | nil => cases h3
        | cons i is =>
          obtain ⟨p, rfl⟩ := nmOf_some (List.cons.inj h1).1
          have l := h4 n (List.mem_cons_self ..)
          exact tgs_cons (tgp_name i (ih es is xs _ (List.cons.inj h1).2 (Nat.succ.inj h2) (fun i hi => hj i (List.mem_cons_of_mem _ hi)) (List.cons.inj h3).2 (fun n hn => h4 n (List.mem_cons_of_mem _ hn)) q) (hj i (List.mem_cons_self ..)) nd (List.cons.inj h3).1 l.1 l.2) rfl
theorem names_len : ∀ {es : List Expr} {ns : List Str} {env : PySem.Env}, es.map nmOf = ns.map some → (assignEach es env).length = ns.length ∧ (assignEach es env).findIdx? (·.1) = none
  | [], [], _, _ => ⟨rfl, rfl⟩
  | [], _ :: _, _, h => nomatch h
  | _ :: _, [], _, h => nomatch h
  | e :: es, n :: ns, env, h => by
    obtain ⟨p, rfl⟩ := nmOf_some (List.cons.inj h).1
    obtain ⟨h1, h2⟩ := names_len (env := env) (List.cons.inj h).2
    have e1 : assignEach (.Name n p :: es) env = (false, assign (.Name n p) env) :: assignEach es env := rfl
    rw [e1]
    refine ⟨congrArg Nat.succ h1, ?_⟩
    rw [List.findIdx?_cons, h2]
    rfl
/-- names = a tuple, | a list -/
theorem tgp_names {js : List Nat} (ns : List Str) (is : List Nat) {x : P} {xs : List P} {R : Rho → Mu → Prop} (nd : X.N.Nodup) (hx : Sq x xs) (hl : xs.length = ns.length) (q : R (setsR ρ is (xs.map .sh)) μ) (hc : X.calm = true := by rfl) (he : es.map nmOf = ns.map some := by rfl) (hj : ∀ i ∈ is, i ∈ js := by decide)
    (hi : is.map (fun i => X.N[i]?) = ns.map some := by rfl) (hf : ns.map (fun n => X.env.scope.names.lookup n) = ns.map fun _ => some .local := by rfl) : TGP X (.Tuple es k pos) js (.sh x) ρ μ R := by
  have h4 : ∀ n ∈ ns, Loc X.env.scope n ∧ (X.fn n = true ∨ X.env.scope.names.lookup n = some .local) := fun n hn => by
    have := List.map_inj_left.mp hf n hn
    exact ⟨.inl this, .inr this⟩
  have h := tgs_names (js := js) (R := R) nd ns es is (xs.map .sh) ρ he (by rw [List.length_map]; exact hl) hj hi h4 q
  obtain ⟨h1, h2⟩ := names_len (env := X.env) he
  rcases hx with rfl | rfl
  · exact tgp_unl hc h hl h1 h2
  · exact tgp_tup hc h hl h1 h2
theorem tgb_tup (ns : List Str) (is : List Nat) {js : List Nat} {x : P} {xs : List P} (nd : X.N.Nodup) (hx : Sq x xs) (hl : xs.length = ns.length := by rfl) (hc : X.calm = true := by rfl) (he : es.map nmOf = ns.map some := by rfl) (hj : ∀ i ∈ is, i ∈ js := by decide)
    (hi : is.map (fun i => X.N[i]?) = ns.map some := by rfl) (hf : ns.map (fun n => scope.names.lookup n) = ns.map fun _ => some .local := by rfl) : TgB X scope (.Tuple es k pos) js (.sh x) ρ (setsR ρ is (xs.map .sh)) μ := fun R q s H C cl fp =>
  tgp_names ns is nd hx hl q hc he hj hi (List.map_inj_left.mpr fun n hn => lookup_relabel_local (List.map_inj_left.mp hf n hn))
/-- [elt for x in ..] -/
theorem ev_lc0 (l : List α) (f : α → P) (r : α → Rho) (g : α → P) (js : List Nat) (own : List (Str × Nat)) (hc : X.calm = true) (nd : X.N.Nodup) (ok : BlkOk X.N X.env.scope scope own) (hi : EI X tg iter ρ μ zs) (hl : l.length ≤ 100000)
    (ht : ∀ a ∈ l, TgB X scope tg js (.sh (f a)) (wipeR ρ (own.map (·.2))) (r a) μ) (he : ∀ a ∈ l, EVB X scope elt (r a) μ (.sh (g a)))
    (hz : zs = l.map (fun a => .sh (f a)) := by first | rfl | (rw [List.map_map]; rfl) | simp) (hjs : ∀ j ∈ js, j ∈ own.map (·.2) := by decide)
    (hs : ∀ x, foldedSetIterable iter X.env x = pure x := by intro _; rfl) : EV X (.ListComp elt [⟨tg, iter, [], 0⟩] scope pos) ρ μ (.sh (.lst (l.map g))) := by
  have h := ev_lc (pos := pos) (elt := elt) (ifs := []) (scope := scope) l f (fun _ => true) g r own js hc nd ok hjs (hi.is hz) hl ht (fun a ha Q q s H C cl fp => tts_nil q) (fun a ha _ Q q s H C cl fp => he a ha s H C cl fp Q q) hs
  have e : l.filter (fun _ => true) = l := List.filter_eq_self.mpr fun _ _ => rfl
  rw [e] at h
  exact h
/-- [elt for x in .. if c] -/
theorem ev_lc1 (l : List α) (f : α → P) (r : α → Rho) (p : α → Bool) (g : α → P) (js : List Nat) (own : List (Str × Nat)) (hc : X.calm = true) (nd : X.N.Nodup) (ok : BlkOk X.N X.env.scope scope own) (hi : EI X tg iter ρ μ zs) (hl : l.length ≤ 100000)
    (ht : ∀ a ∈ l, TgB X scope tg js (.sh (f a)) (wipeR ρ (own.map (·.2))) (r a) μ) (hp : ∀ a ∈ l, ETB X scope c (r a) μ (p a)) (he : ∀ a ∈ l, p a = true → EVB X scope elt (r a) μ (.sh (g a)))
    (hz : zs = l.map (fun a => .sh (f a)) := by first | rfl | (rw [List.map_map]; rfl) | simp) (hjs : ∀ j ∈ js, j ∈ own.map (·.2) := by decide)
    (hs : ∀ x, foldedSetIterable iter X.env x = pure x := by intro _; rfl) : EV X (.ListComp elt [⟨tg, iter, [c], 0⟩] scope pos) ρ μ (.sh (.lst ((l.filter p).map g))) :=
  ev_lc l f p g r own js hc nd ok hjs (hi.is hz) hl ht (fun a ha Q q s H C cl fp => tts_one (hp a ha s H C cl fp Q q)) (fun a ha h Q q s H C cl fp => he a ha h s H C cl fp Q q) hs
end
/-- for, over values known beforehand -/
theorem tsp_forE (js : List Nat) {items : List E} (I : Nat → Rho → Mu → Prop) (hi : EI X tg iter ρ μ items) (i0 : I 0 ρ μ)
    (turn : ∀ i x ρ2 μ2, items[i]? = some x → I i ρ2 μ2 → TGP X tg js x ρ2 μ2 fun ρ3 μ3 => TSs X bodyS ρ3 μ3 { D with nx := I (i + 1), ct := I (i + 1), bk := D.nx }) (done : ∀ ρ2 μ2, I items.length ρ2 μ2 → D.nx ρ2 μ2)
    (hp : PassesOwn (model X.prog X.w) X.A X.env X.xe := by exact fun _ _ h => h.elim) (hc : X.calm = true := by rfl) (hs : ∀ x, foldedSetIterable iter X.env x = pure x := by intro _; rfl) : TSP X (.For tg iter bodyS [] pos) ρ μ D :=
  tsp_for js (hi _ ⟨I, i0, fun _ _ _ _ _ => trivial, turn, done⟩) hp hc hs
/-- .. over a list of any type -/
theorem tsp_forL {α : Type} (l : List α) (f : α → P) (js : List Nat) {items : List E} (I : Nat → Rho → Mu → Prop) (hi : EI X tg iter ρ μ items) (i0 : I 0 ρ μ)
    (turn : ∀ i a ρ2 μ2, l[i]? = some a → I i ρ2 μ2 → TGP X tg js (.sh (f a)) ρ2 μ2 fun ρ3 μ3 => TSs X bodyS ρ3 μ3 { D with nx := I (i + 1), ct := I (i + 1), bk := D.nx }) (done : ∀ ρ2 μ2, I l.length ρ2 μ2 → D.nx ρ2 μ2)
    (hz : items = l.map (fun a => .sh (f a)) := by first | rfl | (rw [List.map_map]; rfl) | simp) (hp : PassesOwn (model X.prog X.w) X.A X.env X.xe := by exact fun _ _ h => h.elim) (hc : X.calm = true := by rfl) (hs : ∀ x, foldedSetIterable iter X.env x = pure x := by intro _; rfl) : TSP X (.For tg iter bodyS [] pos) ρ μ D := by
  subst hz
  refine tsp_forE js I hi i0 (fun i x ρ2 μ2 hx h => ?_) (fun ρ2 μ2 h => done ρ2 μ2 (by rw [List.length_map] at h; exact h)) hp hc hs
  rw [List.getElem?_map] at hx
  cases e : l[i]? with
  | none => rw [e] at hx; cases hx
  | some a =>
    rw [e] at hx
    cases hx
    exact turn i a ρ2 μ2 e h
end
end PV

/-! enumerate over a tuple. -/
namespace PySem
open Sem (wp)
theorem pv_meets_enum1 {v : Value} {o : Obj} {G : Heap → Prop} (B : Begins v o G) : Meets (Builtin.«enumerate.__new__» ⟨[.type "enumerate", v], []⟩) (fun _ R s => G s.heap ∧ R (.ok (.ret (.ref (s.heap.push o).objs.size)))
    { s with heap := (s.heap.push o).push ⟨.type "enumerate", none, .fields #[.none, .bool false, .ref s.heap.objs.size, rawInt 0, .none, .none], #[]⟩ }) := .of_wp fun prog w A R s h => by
  rcases s with ⟨hp, g, d, tk, os⟩
  rcases h with ⟨h1, h⟩
  have sb := sub_enumerate
  have it : ∀ {A2 : Around} {E2 Q2 : Value → Shared → Prop}, Q2 (.ref hp.objs.size) ⟨hp.push o, g, d, tk, os⟩ → wpAny (model prog w) A2 (pyIter v) Q2 E2 ⟨hp, g, d, tk, os⟩ := fun q => B.iter prog w _ _ ⟨hp, g, d, tk, os⟩ _ h1 q
  wp_walk using it
  refine wpAny_stack_any fun st => wpAny_pure ?_
  split
  next c _ _ _ _ _ => cases (c == Value.type "enumerate") <;> (wp_walk using it; exact ⟨_, rfl, h⟩)
  next => wp_walk using it; exact ⟨_, rfl, h⟩
theorem pv_enum1 {prog : Program} {w : World} {A : Around} {E : Value → Shared → Prop} {s : Shared} {v : Value} {o : Obj} {G : Heap → Prop} {Q : Value → Shared → Prop} (B : Begins v o G) (h1 : G s.heap)
    (h : ∀ h', IsEnum h' (s.heap.objs.size + 1) s.heap.objs.size 0 .none → h'.get? s.heap.objs.size = some o → (∀ b u, s.heap.get? b = some u → h'.get? b = some u) → Q (.ref (s.heap.objs.size + 1)) { s with heap := h' }) :
    wpAny (model prog w) A (call (.type "enumerate") [v]) Q E s := by
  refine callType_new F.called_enumerate (by decide) (F.typeCall_enumerate_1 _) (F.newCall_enumerate_1 _) (fun x => F.args_object_init_2 x _) F.entry_enumerate_new (pv_meets_enum1 B) ⟨h1, ?_⟩
  have hz : (s.heap.push o).objs.size = s.heap.objs.size + 1 := Heap.size_push ..
  have he := Heap.get?_push_size (s.heap.push o) (o := ⟨.type "enumerate", none, .fields #[.none, .bool false, .ref s.heap.objs.size, rawInt 0, .none, .none], #[]⟩) rfl
  show _ ∧ _
  rw [hz] at he ⊢
  exact ⟨⟨_, he, rfl⟩, h _ he (Heap.get?_push_of_some _ (Heap.get?_push_size _ B.free)) fun b u x => Heap.get?_push_of_some _ (Heap.get?_push_of_some _ x)⟩
end PySem
namespace PV
open PySem PySem.Spec PyProof.Rows L2
/-- the tuple at a, a new pair (i, item) each turn -/
def ItT (K : PySem.W.Frag) (a : Addr) : It where
  go := fun i H => ∃ xs x, SqT K H a xs ∧ xs[i]? = some x
  yld := fun i H v H' => ∃ T x, v = .ref T ∧ H T = none ∧ H' = upd H T (.tup [.int (i : Nat), x]) ∧ ∀ xs, SqT K H a xs → xs[i]? = some x
  stop := fun i H => ∃ xs, SqT K H a xs ∧ xs.length = i
theorem turn_enumT {P : Program} {w : World} {K : PySem.W.Frag} {elts : List Expr} {kk : Nat} {tp : Pos} (a e it : Addr) (ne : e ≠ it) (items : Array Value) (hta : a ≠ it) (hea : e ≠ a) :
    Turn P w K (.Tuple elts kk tp) (ItT K a) [e, it] e (fun i h => (∃ old, IsEnum h e it (i : Int) old) ∧ h.IsTupleIter it a i) where
  mem := by simp
  obj := fun i h st b hb => by
    obtain ⟨⟨old, he⟩, o, ho, _, hd⟩ := st
    rcases List.mem_cons.mp hb with q | q
    · rw [q]
      exact ⟨_, he, fun v q => nomatch q⟩
    · rw [List.mem_singleton.mp q]
      exact ⟨o, ho, fun v q => by rw [hd] at q; cases q⟩
  keep := fun i h h' st k => by
    obtain ⟨⟨old, he⟩, hi⟩ := st
    exact ⟨⟨old, k e (by simp) _ he⟩, hi.at fun o q => k it (by simp) o q⟩
  item := by
    intro X hP hw hK hc i pins s σ H E I hf st hg
    subst hP hw hK
    obtain ⟨⟨old, he⟩, hit⟩ := st
    obtain ⟨xs, x, hq, hx⟩ := hg
    obtain ⟨its, rv, p, hz⟩ := I.tuple hq
    obtain ⟨u, hu, ru⟩ := rv.get hx
    have hel : e < s.heap.objs.size := Heap.lt_size he
    have hil : it < s.heap.objs.size := by
      obtain ⟨_, q, _⟩ := hit
      exact Heap.lt_size q
    have hlt : i < its.toArray.size := by
      rw [List.size_toArray]
      exact (List.getElem?_eq_some_iff.mp hu).1
    have D : Draws X.prog X.w X.A.in1 it [it, a] its.toArray.size _ _ := Draws.tuple (A := X.A.in1) (I.ok.hd hc) it a hta its.toArray
    refine wpAny_pyNext_enum_itemC D he ⟨hit, p⟩ hlt ne (by simp [ne, hea]) fun y h' tk hy ho hs' hT hsz hk => ?_
    have hy' : its.toArray[i]? = some y := hy
    rw [List.getElem?_toArray, hu] at hy'
    cases hy'
    refine ⟨_, rfl, wpAny_letOwnedTupleGo_enum (s := { s with heap := h', toks := tk + 1 }) ho fun h'' he' sb => ?_⟩
    have hT2 := (sb.2 _ (Nat.ne_of_gt hel)).trans hT
    have new : ObjOk X.prog X.w (upd H s.heap.objs.size (.tup [.int (i : Nat), x])) h'' s.heap.objs.size (.tup [.int (i : Nat), x]) :=
      ⟨(by decide : 2 ≤ sizeLine), [.int i tk, u], .cons ⟨_, rfl⟩ (.cons ru .nil), ⟨_, hT2, rfl, _, rfl⟩⟩
    have nm : ∀ {b : Addr}, b ∉ [e, it] → b ≠ e ∧ b ≠ it := fun hb => ⟨fun z => hb (by simp [z]), fun z => hb (by simp [z])⟩
    have I1 : Inv X pins σ (upd H s.heap.objs.size (.tup [.int (i : Nat), x])) { s with heap := h'', toks := tk + 1 } :=
      I.turnedNew (ch := [e, it]) (fun b ob hb q => (sb.2 b (nm hb).1).trans (hk b ob (nm hb).1 (nm hb).2 q)) hf (Nat.le_refl _) new
    refine ⟨.ref s.heap.objs.size, _, I1, rfl, ⟨_, x, rfl, I.hok.fresh (Nat.le_refl _), rfl, fun ys hy => by rw [I.tuple_inj hy hq]; exact hx⟩, ⟨⟨u, by rw [show ((i + 1 : Nat) : Int) = (i : Int) + 1 by omega]; exact he'⟩, hs'.1.at fun o q => (sb.2 it (Ne.symm ne)).trans q⟩, fun b hb => ?_⟩
    have hb' : b < s.heap.objs.size := by
      rcases List.mem_cons.mp hb with z | z
      · rw [z]; exact hel
      · rw [List.mem_singleton.mp z]; exact hil
    rw [upd_ne (Nat.ne_of_lt hb')]
    exact (hf b hb).1
  done := by
    intro X hP hw hK hc i pins s σ H E I hf st hg
    subst hP hw hK
    obtain ⟨⟨old, he⟩, hit⟩ := st
    obtain ⟨xs, hq, hx⟩ := hg
    obtain ⟨its, rv, p, hz⟩ := I.tuple hq
    have D : Draws X.prog X.w X.A.in1 it [it, a] its.toArray.size _ _ := Draws.tuple (A := X.A.in1) (I.ok.hd hc) it a hta its.toArray
    have hl : i = its.toArray.size := by rw [List.size_toArray, ← rv.length, hx]
    subst hl
    obtain ⟨f0, f1, f2, f3, f4, f5⟩ := hf it (by simp)
    exact wpAny_pyNext_enum_endD D he ⟨hit, p⟩ fun h' eb => ⟨rfl, I.turned (t' := s.toks) (fun b o hb q => eb b o hb q) f0 f1 f3 f4 f5⟩
  self := fun A i s Q E st h => by
    obtain ⟨⟨_, he⟩, _⟩ := st
    exact wpAny_pyIter_enum he h
theorem pi_enumT {X : Cx} {e : Expr} {ta : TA} {p pos tp : Pos} {elts : List Expr} {kk : Nat} (hg : Gl X "enumerate") (hm : X.mg "enumerate" = none) (ha : PA X [e] ta) (hs : starEach [e] X.env = [(false, eval e X.env)]) :
    PI X (.Tuple elts kk tp) (.Call (.Name "enumerate" p) [e] [] pos) (fun σ H R => ta σ H fun vs H1 => ∃ a xs, vs = [.ref a] ∧ SqT X.K H1 a xs ∧ R (ItT X.K a) H1) := .mk fun pins s σ H R I h => by
  refine Call_ (ld_blt I hg hm boot_enumerate (PyProof.Rows.callWith_type1 (thn (ha.run pos pins s σ H _ I h) ?_) hs rfl))
  rintro us s1 ⟨vs, H1, I1, r1, a, xs, rfl, hq, q⟩
  cases r1 with
  | cons r rr =>
    cases rr
    cases r
    obtain ⟨its, rv, p1, hz⟩ := I1.tuple hq
    have hal : a < s1.heap.objs.size := by
      obtain ⟨_, z, _⟩ := p1
      exact Heap.lt_size z
    refine pv_enum1 (begins_tuple a its.toArray) p1 fun h' he ho hk => wpAny_pyIter_enum he ?_
    have I2 : Inv X pins σ H1 { s1 with heap := h' } := I1.kept (t' := s1.toks) hk
    refine ⟨s1.heap.objs.size + 1, [s1.heap.objs.size + 1, s1.heap.objs.size], _, _, H1, rfl, I2, turn_enumT a (s1.heap.objs.size + 1) s1.heap.objs.size (Nat.succ_ne_self _) its.toArray (Nat.ne_of_lt hal) (Nat.ne_of_gt (Nat.lt_succ_of_lt hal)), ⟨⟨.none, he⟩, ⟨_, ho, rfl, rfl⟩⟩, fun b hb => ?_, q⟩
    have hle : s1.heap.objs.size ≤ b := by
      rcases List.mem_cons.mp hb with z | z
      · rw [z]; exact Nat.le_succ _
      · rw [List.mem_singleton.mp z]; exact Nat.le_refl _
    exact I1.fpOk hle (I1.hok.fresh hle)
theorem walk_enumT {K : PySem.W.Frag} {a : Addr} {xs : List V} : Walk (ItT K a) xs.length (fun H => SqT K H a xs) (YPair (fun i => some (.int (i : Nat))) (fun i => xs[i]?)) := by
  refine ⟨fun i _ hi q => ⟨xs, xs[i], q, by simp [hi]⟩, fun _ q => ⟨xs, q, rfl⟩, fun i H v H' _ q ⟨T, x, h1, h2, h3, h4⟩ => ⟨T, .int (i : Nat), x, h1, h2, h3, rfl, h4 xs q⟩⟩
section
variable {X : Cx} {tg a b c e iter : Expr} {es : List Expr} {ρ : Rho} {μ : Mu} {pos tpos p2 : Pos} {xs ys : List P}
theorem ei_enumT {elts : List Expr} {kk : Nat} (hm : X.mg "enumerate" = none) (h : EV X e ρ μ (.sh (.tup xs))) (hg : Gl X "enumerate" := by rfl) (hs : starEach [e] X.env = [(false, eval e X.env)] := by rfl) :
    EI X (.Tuple elts kk tpos) (.Call (.Name "enumerate" p2) [e] [] pos) ρ μ ((List.range xs.length).map fun i => .sh (.tup [.int (i : Nat), xs.getD i .non])) := fun R q ad Hb H σ W N R' g => by
  refine pi_go (pi_enumT hg hm pa_self hs) ((ea_cons h ea_nil hs) (fun ys μ1 => ys = [.sh (.tup xs)] ∧ μ1 = μ) ⟨rfl, rfl⟩ ad Hb H σ W N _ ?_)
  rintro vs ys μ1 ad1 Hb1 H1 ⟨rfl, rfl⟩ s1 W1 r1
  obtain ⟨v, rfl, r⟩ := vals1 r1
  obtain ⟨a, vs, rfl, hq, r⟩ := Rep.tup_inv r
  have w := walk_enumT (K := X.K) (a := a) (xs := vs)
  refine ⟨a, vs, rfl, .inl (.inl (W1.tup hq)), g _ _ _ _ _ _ _ q s1 W1 (pwalk_pair (K := X.K) (f' := fun i => .int (i : Nat)) (g' := fun i => xs.getD i .non) (by rw [r.length] at w; exact w) (fun ad2 Hb2 H2 μ2 s W => Or.inl (Or.inl (W.tup (s.ex _ _ hq)))) (fun i v _ h => by cases h; exact .int _) fun i v hi h => ?_)⟩
  obtain ⟨z, h1, h2⟩ := pd_right r i v h
  rw [List.getD_eq_getElem?_getD, h1]
  exact h2
theorem ei_enumS {x : P} {elts : List Expr} {kk : Nat} (hx : Sq x xs) (hm : X.mg "enumerate" = none) (h : EV X e ρ μ (.sh x)) (hg : Gl X "enumerate" := by rfl) (hs : starEach [e] X.env = [(false, eval e X.env)] := by rfl) :
    EI X (.Tuple elts kk tpos) (.Call (.Name "enumerate" p2) [e] [] pos) ρ μ ((List.range xs.length).map fun i => .sh (.tup [.int (i : Nat), xs.getD i .non])) := by
  rcases hx with rfl | rfl
  · exact ei_enum hm h hg hs
  · exact ei_enumT hm h hg hs
end
end PV

/-! Dict comprehensions, their keys ints, texts, or tuples. -/
namespace PV
open PySem PySem.Spec PyProof.Rows L2
/-- d[y] = v within a comprehension -/
theorem dput_in {X : Cx} {pins : List (Addr × Obj)} {σ : L2.St} {H H2 : Hp} {s : Shared} {E : Value → Shared → Prop} {D : Addr} {y v : V} {u r : Value} {Q : Unit → Shared → Prop} (hu : X.A.units < cLine) (I : Inv X pins σ H s) (g : DPut H D y v H2) (ry : RelV y u) (rv : RelV v r)
    (h : ∀ s2, Inv X pins σ H2 s2 → Q () s2) : wpAny (model X.prog X.w) X.A (dictSet D u r) Q E s := by
  rcases g with ⟨ks, k, e, rfl, l, rfl⟩ | ⟨ks, k, b, e, rfl, eb, l, rfl⟩
  · exact d_dictSet I e l ry rv h
  · obtain rfl : u = .ref b := ry
    obtain ⟨z, nm, xs, rel, dd⟩ := dt_of I.hok e
    have l2 := length_putK ks k v
    refine wpAny_dictSet_heap (hsz := by rw [← Paired.length rel]; exact z) hu (key_of I.hok eb) dd fun h2 d2 sb => h _ ?_
    obtain ⟨q, es, ep, hq, a1, a2, a3, _, a4⟩ := d2
    refine d_write I (by rw [e]; trivial) sb ⟨q, hq⟩ ⟨by omega, nm, _, (rel.put k eb rv).keeps fun c ys ec => ?_, q, es, ep, hq, a1, a2, a3, a4⟩
    exact (upd_ne (ne_of ec e fun z => nomatch z)).trans ec
/-- {k: v for tg in iter if ..}: O0 how the empty dict is read; D the new dict -/
def tDcG (O0 : HO) (wi : TI) (g : TG) (tt : TT) (tk tv : TE) (vs : List Nat) : TE := fun σ H Q => wi σ H fun J H1 => ∀ D, H1 D = none → ∃ Wt : Nat → Nat → Hp → Prop, (∃ m, Wt 0 m (upd H1 D O0)) ∧ ∀ i m H, Wt i m H →
  J.stop i H ∧ Q (.ref D) H ∨ J.go i H ∧ ∃ Nx : Hp → Prop, (∀ H2, Nx H2 → ∃ m2, m2 < m ∧ Wt (i + 1) m2 H2) ∧ ∀ x H2, J.yld i H x H2 → g x (wipe σ vs) H2 fun σ2 H3 => wipe σ2 vs = wipe σ vs ∧ tt σ2 H3 fun b H4 =>
    if b = true then tk σ2 H4 fun y H5 => tv σ2 H5 fun z H6 => ∃ H7, DPut H6 D y z H7 ∧ Nx H7 else Nx H4
section
variable {X : Cx} {kx vx tg iter : Expr} {ifs : List Expr} {scope : Scope} {own : List (Str × Nat)} {pos : Pos} {wi : TI} {g : TG} {tt : TT} {tk tv : TE} {O0 : HO}
theorem pe_dcG (hO : O0 = .dK [] ∨ O0 = .dT []) (hu : X.A.units < cLine) (hc : X.calm = true) (nd : X.N.Nodup) (hi : PI X tg iter wi) (ok : BlkOk X.N X.env.scope scope own)
    (hg : ∀ s H C cl fp, PG (X.blk s H scope (compEnvC scope cl C X.env) fp) tg g) (ht : ∀ s H C cl fp, PTs (X.blk s H scope (compEnvC scope cl C X.env) fp) ifs tt)
    (hk : ∀ s H C cl fp, PE (X.blk s H scope (compEnvC scope cl C X.env) fp) kx tk) (he : ∀ s H C cl fp, PE (X.blk s H scope (compEnvC scope cl C X.env) fp) vx tv)
    (hs : ∀ x, foldedSetIterable iter X.env x = pure x) : PE X (.DictComp kx vx [⟨tg, iter, ifs, 0⟩] scope pos) (tDcG O0 wi g tt tk tv (own.map (·.2))) := .mk fun pins s σ H Q I h => by
  rw [arm_eval_DictComp]
  have clo : ∀ y ∈ scope.names, y.2 = .free → ∃ c, X.env.cells.lookup y.1 = some c := fun y hy e => I.ok.has _ (ok.free y hy e)
  refine wpAny_comprehension_free (use := none) rfl hs (closure_ok clo) ok.kind (fun y hy e => by rw [ok.uniq y hy, e]) (thn (hi.run pins s σ H _ I h) fun _ _ hx => thn hx ?_)
  rintro _ s2 ⟨it, fp, tn, J, H2, rfl, I2, T, st2, f2, q⟩
  refine wpAny_newObj_type (newEnv_comp ?_)
  have new : H2 s2.heap.objs.size = none := I2.hok.fresh (Nat.le_refl _)
  obtain ⟨Wt, ⟨m0, w0⟩, turn⟩ := q _ new
  let h3 : Heap := s2.heap.push ⟨.type "dict", none, .dict #[], #[]⟩
  let D := s2.heap.objs.size
  have empt : ObjOk X.prog X.w (upd H2 D O0) h3 D O0 := by
    rcases hO with rfl | rfl
    · exact dk_empty _ I2.big
    · exact dt_empty _ I2.big
  have I3 : Inv X pins σ (upd H2 D O0) { s2 with heap := h3 } := I2.laid (t' := s2.toks) (fun b o e => Heap.get?_push_of_some _ e) (Nat.le_refl _) empt
  have lt2 : ∀ b ∈ fp, b < D := fun b hb => by
    obtain ⟨o, e, _⟩ := T.obj _ _ st2 b hb
    exact Heap.lt_size e
  have lt3 : ∀ b ∈ fp, b < h3.objs.size := fun b hb => by
    rw [Heap.size_push]
    exact Nat.lt_succ_of_lt (lt2 b hb)
  have f3 : ∀ b ∈ fp, FpOk X pins (upd H2 D O0) b := fun b hb => ⟨(upd_ne (Nat.ne_of_lt (lt2 b hb))).trans (f2 b hb).1, (f2 b hb).2⟩
  have st3 : tn 0 h3 := T.keep _ _ _ st2 fun b _ o e => Heap.get?_push_of_some _ e
  have I4 := block_start I3 ok nd fun b hb => ⟨f3 b hb, lt3 b hb⟩
  let s3 : Shared := { s2 with heap := h3 }
  let cl := cellsFrom (h3.objs.size + 1) scope.names (cloFrom X.env.cells scope.names [])
  have pg := hg s3 (upd H2 D O0) h3.objs.size cl fp
  have pt := ht s3 (upd H2 D O0) h3.objs.size cl fp
  have pk := hk s3 (upd H2 D O0) h3.objs.size cl fp
  have pv := he s3 (upd H2 D O0) h3.objs.size cl fp
  let ce := compEnvC scope cl h3.objs.size X.env
  let Y := X.blk s3 (upd H2 D O0) scope ce fp
  let s4 : Shared := { s2 with heap := pushCells (h3.push ⟨.type "dict", none, .dict #[], #[]⟩) scope.names }
  have st4 : tn 0 s4.heap := T.keep _ _ _ st3 fun b _ o e => pushCells_keeps _ _ _ _ (Heap.get?_push_of_some _ e)
  have stat : ∀ {σ1 H1 s1}, Inv Y [] σ1 H1 s1 → (∀ b ∈ fp, H1 b = none) → ∀ b ∈ fp, FpOk Y [] H1 b := fun {σ1 H1 s1} J1 hn b hb =>
    ⟨hn b hb, (J1.ok.exf b hb).1, J1.ok.exfs b hb, .inl hb, fun x c e => (J1.ok.exf b hb).2 x c e, fun p hp => absurd (show p ∈ ([] : List (Addr × Obj)) ++ [] from hp) (by simp)⟩
  have last : ∀ {s6 : Shared} {H6 : Hp}, Inv Y [] (wipe σ (own.map (·.2))) H6 s6 → Q (.ref D) H6 → compPost (model X.prog X.w) X.A X.xe none (EP X pins σ Q) (.ref D) h3.objs.size (.ok .next) s6 := fun {s6 H6} I6 qq => by
    have I7 : Inv X pins σ H6 s6 := I3.call' (ch := fp) I6.os I6.base I6.hok I6.bare fun b hb => ⟨(f3 b hb).2.2.2.1, (f3 b hb).2.1, (f3 b hb).2.2.2.2.1, (f3 b hb).2.2.2.2.2⟩
    obtain ⟨m, ns, _⟩ := I6.loc
    obtain ⟨a0, a1, _, a3, a4, a5⟩ := I3.fpOk (Nat.le_refl _) (show H6 h3.objs.size = none from I6.free)
    exact ⟨m, ns, fun h5 sb => ⟨.ref D, H6, I7.turned (t' := s6.toks) (fun b o hb e => (sb.2 b hb).trans e) a0 a1 a3 a4 a5, rfl, qq⟩⟩
  show codeAny _ _ (.compStart (.DictComp kx vx [⟨tg, iter, ifs, 0⟩] scope pos) 0 (.ref it) (.ref D) ce) (compPost (model X.prog X.w) X.A X.xe none (EP X pins σ Q) (.ref D) h3.objs.size) s4
  refine codeAny_compStart_dict ?_ (T.self X.A 0 _ _ _ st4 ?_) <;>
  · refine compLoop_anyD (fun n s5 => ∃ i H5, Inv Y [] (wipe σ (own.map (·.2))) H5 s5 ∧ tn i s5.heap ∧ (∀ b ∈ fp, H5 b = none) ∧ Wt i n H5) ?_ m0 ⟨0, _, I4, st4, fun b hb => (f3 b hb).1, w0⟩
    rintro n s5 ⟨i, H5, I5, st5, n5, w5⟩
    rcases turn i n H5 w5 with ⟨stop, qq⟩ | ⟨go, Nx, dn, step⟩
    · refine thnF (T.done Y rfl rfl rfl hc i [] s5 _ H5 (fun _ _ => False) I5 (stat I5 n5) st5 stop) ?_
      rintro _ s6 ⟨rfl, I6⟩
      exact last I6 qq
    · refine thnF (T.item Y rfl rfl rfl hc i [] s5 _ H5 (fun _ _ => False) I5 (stat I5 n5) st5 go) ?_
      rintro _ s6 ⟨u, rfl, h6⟩
      refine thnF h6 fun _ s7 ⟨x, H7, I7, r7, y7, st7, n7⟩ => ?_
      refine thnF (pg.run _ s7 _ H7 x u _ (I7.pinned (stat I7 n7) (T.obj _ _ st7)) r7 (step x H7 y7)) fun _ s8 ⟨σ8, H8, I8, hw8, q8⟩ => ?_
      refine thnF (pt.run _ s8 σ8 H8 _ I8 q8) fun b s9 ⟨H9, I9, q9⟩ => ?_
      have over : ∀ {se : Shared} {He : Hp}, Inv Y ([] ++ pinsAt fp s7.heap) σ8 He se → Nx He → ∃ m, m < n ∧ ∃ i H5, Inv Y [] (wipe σ (own.map (·.2))) H5 se ∧ tn i se.heap ∧ (∀ b ∈ fp, H5 b = none) ∧ Wt i m H5 := fun {se He} Ie nx => by
        obtain ⟨m2, hm, we⟩ := dn He nx
        have at_ : ∀ b ∈ fp, ∀ o, s7.heap.get? b = some o → se.heap.get? b = some o ∧ He b = none := fun b hb o e => by
          have z := Ie.pin (b, o) (List.mem_append_right _ (List.mem_append_right _ (mem_pinsAt hb e)))
          exact ⟨z.1, z.2.1⟩
        refine ⟨m2, hm, i + 1, He, (Ie.unpinned (pins := [])).weak (by rw [← hw8, wipe_length]) (fun j v e => ?_), T.keep _ _ _ st7 fun b hb o e => (at_ b hb o e).1, fun b hb => ?_, we⟩
        · rw [← hw8] at e
          exact (wipe_some e).1
        · obtain ⟨o, e, _⟩ := T.obj _ _ st7 b hb
          exact (at_ b hb o e).2
      cases b with
      | false => exact over I9 q9
      | true =>
        refine thnF (pk.run _ s9 σ8 H9 _ I9 q9) fun yk s10 ⟨y, H10, I10, r10, q10⟩ => ?_
        refine thnF (pv.run _ s10 σ8 H10 _ I10 q10) fun yv s11 ⟨z, H11, I11, r11, H12, put, nx⟩ => ?_
        exact dput_in (X := Y) hu I11 put r10 r11 fun s12 I12 => over I12 nx
end
end PV

/-! Dict comprehensions by values. -/
namespace PV
open PySem PySem.Spec PyProof.Rows L2
theorem pd_unmap {κ : Type} {K : PySem.W.Frag} {ad : List Addr} {Hb : Hp} : ∀ {vs : List (κ × V)} {zs : List (κ × P)}, Paired (fun p q => p.1 = q.1 ∧ RepE K ad Hb p.2 q.2) vs (zs.map fun q => (q.1, E.sh q.2)) → Paired (fun p q => p.1 = q.1 ∧ Rep K Hb p.2 q.2) vs zs
  | _, [], .nil => .nil
  | _, _ :: _, .cons r t => .cons r (pd_unmap t)
theorem pd_fst {κ α β : Type} {F : α → β → Prop} : ∀ {vs : List (κ × α)} {zs : List (κ × β)}, Paired (fun p q => p.1 = q.1 ∧ F p.2 q.2) vs zs → vs.map (·.1) = zs.map (·.1)
  | _, _, .nil => rfl
  | _, _, .cons r t => by rw [List.map_cons, List.map_cons, pd_fst t, r.1]
section
variable {κ : Type} [DecidableEq κ]
theorem foldl_dput_len {α β : Type} (kf : α → κ) (vf : α → β) : ∀ (l : List α) (d : List (κ × β)), (l.foldl (fun d a => dput d (kf a) (vf a)) d).length ≤ d.length + l.length
  | [], d => Nat.le_refl _
  | a :: l, d => by
    rw [List.foldl_cons, List.length_cons]
    have h1 := foldl_dput_len kf vf l (dput d (kf a) (vf a))
    have h2 := dput_len d (kf a) (vf a)
    omega
theorem dput_map {β γ : Type} (g : β → γ) (d : List (κ × β)) (k : κ) (v : β) : dput (d.map fun q => (q.1, g q.2)) k (g v) = (dput d k v).map fun q => (q.1, g q.2) := by
  unfold dput
  have e : ((d.map fun q => (q.1, g q.2)).any fun kv => decide (kv.1 = k)) = (d.any fun kv => decide (kv.1 = k)) := by
    rw [List.any_map]
    rfl
  rw [e]
  split
  · rw [List.map_map, List.map_map]
    refine List.map_congr_left fun q _ => ?_
    by_cases c : q.1 = k <;> simp [c]
  · rw [List.map_append]
    rfl
end
section
variable {X : Cx} {tg iter : Expr} {ρ : Rho} {μ : Mu} {pos : Pos}

theorem dcT_main {kx vx : Expr} {ifs : List Expr} {scope : Scope} {own : List (Str × Nat)} {js : List Nat} {Q' : VK} {ad : List Addr} {Hb H : Hp} {σ : L2.St} {Fin : List (List Key × E) → Mu → Prop} (hjs : ∀ j ∈ js, j ∈ own.map (·.2))
    (h : TIP X tg iter ρ μ fun items G μ1 => ∃ I : Nat → List (List Key × E) → Mu → Prop, I 0 [] μ1 ∧ (∀ i acc μ2, i ≤ items.length → I i acc μ2 → G μ2) ∧
      (∀ i x acc μ2, items[i]? = some x → I i acc μ2 → TGB X scope tg js x (wipeR ρ (own.map (·.2))) μ2 fun ρ3 μ3 => TTsB X scope ifs ρ3 μ3 fun b μ4 => if b = true then TEB X scope kx ρ3 μ4 (fun y μ5 => TEB X scope vx ρ3 μ5 fun z μ6 => ∃ k : List Key, y = .sh (.tup (k.map kP)) ∧ acc.length < 100000 ∧ I (i + 1) (dput acc k z) μ6) else I (i + 1) acc μ4) ∧
      ∀ acc μ2, I items.length acc μ2 → Fin acc μ2)
    (W : Wd X.K ad Hb H μ) (N : Env X.K ad Hb σ ρ)
    (fin : ∀ (D : Addr) (acc : List (List Key × E)) (μ2 : Mu) (vs : List (List Key × V)) (ad1 : List Addr) (Hb1 H1 : Hp) (ad2 : List Addr) (Hb2 H2 : Hp), Step ad Hb H ad1 Hb1 H1 → Step ad1 Hb1 H1 ad2 Hb2 H2 → Wd X.K ad2 Hb2 H2 μ2 → H1 D = none → D ∉ ad2 → Hb2 D = none → H2 D = some (.dT vs) → Paired (fun p q => p.1 = q.1 ∧ RepE X.K ad2 Hb2 p.2 q.2) vs acc → Fin acc μ2 → Q' (.ref D) H2)
    : tDcG (.dT []) (TIV X tg iter) (gB X scope tg) (tB X scope ifs) (eB X scope kx) (eB X scope vx) (own.map (·.2)) σ H Q' := by
  refine h ad Hb H σ W N _ fun J items G μ1 ad1 Hb1 H1 ⟨I, i0, hG, turn, done⟩ s1 W1 w D hD => ?_
  have nD : D ∉ ad1 := fun z => W1.trk D z hD
  have bD : Hb1 D = none := W1.base_none hD
  let Pv : Nat → Hp → Prop := fun i H' => ∃ acc μ2 vs ad2 Hb2, I i acc μ2 ∧ Step ad1 Hb1 H1 ad2 Hb2 H' ∧ Wd X.K ad2 Hb2 H' μ2 ∧ D ∉ ad2 ∧ Hb2 D = none ∧ H' D = some (.dT vs) ∧ Paired (fun p q => p.1 = q.1 ∧ RepE X.K ad2 Hb2 p.2 q.2) vs acc
  refine ⟨fun i m H' => m = items.length - i ∧ i ≤ items.length ∧ Pv i H', ⟨items.length, rfl, Nat.zero_le _, [], μ1, [], ad1, Hb1, i0, (Step.refl _ _ _).apart hD, W1.apart nD bD, nD, bD, upd_same, .nil⟩, ?_⟩
  rintro i m H' ⟨rfl, hi, acc, μ2, vs, ad2, Hb2, iI, s2, W2, n2, b2, d2, r2⟩
  by_cases hlt : i < items.length
  · refine .inr ⟨w.goes i ad2 Hb2 H' μ2 hlt s2 W2 (hG i acc μ2 hi iI), Pv (i + 1), fun H'' p => ⟨items.length - (i + 1), by omega, rfl, hlt, p⟩, fun x H3 y => ?_⟩
    obtain ⟨Hb3, e, s3, W3, he, re⟩ := w.yields i ad2 Hb2 H' μ2 x H3 hlt s2 W2 (hG i acc μ2 hi iI) y
    have t3 := s2.trans s3
    -- D stays apart along any step
    have on : ∀ {ad Hb H ad' Hb' H'}, D ∉ ad ∧ Hb D = none ∧ H D = some (.dT vs) → Step ad Hb H ad' Hb' H' → D ∉ ad' ∧ Hb' D = none ∧ H' D = some (.dT vs) := fun {ad Hb H ad' Hb' H'} k s => ⟨fun z => (s.new D z).elim k.1 (fun z => nomatch k.2.2.symm.trans z), s.fgn D _ k.1 k.2.2 rfl k.2.1, s.fr0 k.1 k.2.1 k.2.2⟩
    have k3 := on ⟨n2, b2, d2⟩ s3
    intro s H0 C cl fp
    refine turn i e acc μ2 he iI s H0 C cl fp ad2 Hb3 H3 _ x W3 ((Env.step (s1.trans t3) N).wipe _) re _ fun ρ4 μ4 ad4 Hb4 H4 σ4 q4 s4 W4 N4 b4 => ⟨?_, ?_⟩
    · have e1 := wipe_get (σ := wipe σ (own.map (·.2))) (σ' := σ4) (own.map (·.2)) b4.1 fun k hk => b4.2 k fun z => hk (hjs k z)
      rw [e1]
      exact wipe_get _ (wipe_length _ _) fun k hk => wipe_out hk
    intro s H0 C cl fp
    refine q4 s H0 C cl fp ad4 Hb4 H4 σ4 W4 N4 _ fun b μ5 ad5 Hb5 H5 q5 s5 W5 => ?_
    have k5 := on (on k3 s4) s5
    have t5 := t3.trans (s4.trans s5)
    have r5 : Paired (fun (p : List Key × V) (q : List Key × E) => p.1 = q.1 ∧ RepE X.K ad5 Hb5 p.2 q.2) vs acc := pd_imp (fun _ _ z => ⟨z.1, RepE.step (s3.trans (s4.trans s5)) z.2⟩) r2
    cases b with
    | false => exact ⟨acc, μ5, vs, ad5, Hb5, q5, t5, W5, k5.1, k5.2.1, k5.2.2, r5⟩
    | true =>
      intro s H0 C cl fp
      refine q5 s H0 C cl fp ad5 Hb5 H5 σ4 W5 (Env.step s5 N4) _ fun yv y μ6 ad6 Hb6 H6 q6 s6 W6 r6 => ?_
      intro s H0 C cl fp
      refine q6 s H0 C cl fp ad6 Hb6 H6 σ4 W6 (Env.step s6 (Env.step s5 N4)) _ fun zv z μ7 ad7 Hb7 H7 q7 s7 W7 r7 => ?_
      obtain ⟨k, rfl, hl, q7⟩ := q7
      have k7 := on (on k5 s6) s7
      have r6' : Rep X.K Hb7 yv (.tup (k.map kP)) := RepE.step s7 r6
      have hlv : vs.length < sizeLine := Nat.lt_of_lt_of_le (by rw [r2.length]; exact hl) (by decide)
      obtain ⟨b, rfl, hb⟩ := rep_keyT r6'
      have put := DPut.t (v := zv) k7.2.2 (W7.tup hb) hlv
      refine ⟨_, put, dput acc k z, μ7, putK vs k zv, ad7, Hb7, q7, ((t5.trans s6).trans s7).apart hD, W7.apart k7.1 k7.2.1, k7.1, k7.2.1, upd_same, ?_⟩
      exact pd_dput (F := fun u v => RepE X.K ad7 Hb7 u v) (pd_imp (fun _ _ q => ⟨q.1, RepE.step (s6.trans s7) q.2⟩) r5) k r7
  · have e : i = items.length := by omega
    subst e
    exact .inl ⟨w.stops ad2 Hb2 H' μ2 s2 W2 (hG _ acc μ2 hi iI), fin D acc μ2 vs ad1 Hb1 H1 ad2 Hb2 H' s1 s2 W2 hD n2 b2 d2 r2 (done acc μ2 iI)⟩
theorem tep_dcT {kx vx : Expr} {ifs : List Expr} {scope : Scope} {Q : E → Mu → Prop} (own : List (Str × Nat)) (js : List Nat) (hu : X.A.units < cLine) (hc : X.calm = true) (hN : X.N.Nodup) (ok : BlkOk X.N X.env.scope scope own) (hjs : ∀ j ∈ js, j ∈ own.map (·.2))
    (h : TIP X tg iter ρ μ fun items G μ1 => ∃ I : Nat → List (List Key × E) → Mu → Prop, I 0 [] μ1 ∧ (∀ i acc μ2, i ≤ items.length → I i acc μ2 → G μ2) ∧
      (∀ i x acc μ2, items[i]? = some x → I i acc μ2 → TGB X scope tg js x (wipeR ρ (own.map (·.2))) μ2 fun ρ3 μ3 => TTsB X scope ifs ρ3 μ3 fun b μ4 => if b = true then TEB X scope kx ρ3 μ4 (fun y μ5 => TEB X scope vx ρ3 μ5 fun z μ6 => ∃ k : List Key, y = .sh (.tup (k.map kP)) ∧ acc.length < 100000 ∧ I (i + 1) (dput acc k z) μ6) else I (i + 1) acc μ4) ∧
      ∀ acc μ2, I items.length acc μ2 → (∃ zs : List (List Key × P), acc = zs.map (fun q => (q.1, .sh q.2)) ∧ Q (.sh (.dT zs)) μ2) ∨ Q (.pt μ2.length) (μ2 ++ [some (.dT acc)]))
    (hs : ∀ x, foldedSetIterable iter X.env x = pure x := by intro _; rfl) : TEP X (.DictComp kx vx [⟨tg, iter, ifs, 0⟩] scope pos) ρ μ Q := fun ad Hb H σ W N Q' g => by
  refine pe_go (pe_dcG (O0 := .dT []) (.inr rfl) hu hc hN pi_self ok pgB ptB peB peB hs) (dcT_main (Fin := fun acc μ2 => (∃ zs : List (List Key × P), acc = zs.map (fun q => (q.1, .sh q.2)) ∧ Q (.sh (.dT zs)) μ2) ∨ Q (.pt μ2.length) (μ2 ++ [some (.dT acc)])) hjs h W N ?_)
  intro D acc μ2 vs ad1 Hb1 H1 ad2 Hb2 H2 s1 s2 W2 h1 h2 h3 h4 r q
  rcases q with ⟨zs, rfl, q⟩ | q
  · obtain ⟨W3, s3⟩ := W2.adopt s2 h1 h2 h3 h4
    have r' : Paired (fun (p : List Key × V) (q : List Key × P) => p.1 = q.1 ∧ Rep X.K Hb2 p.2 q.2) vs zs := pd_unmap r
    have l : vs.map (·.1) = zs.map (·.1) := pd_fst r'
    exact g _ (.sh (.dT zs)) _ _ _ _ q (s1.trans s3) W3 (.dT upd_same l fun i v x h5 h6 => Rep.mono (Ex.new h3) (pd_get r' i v x h5 h6).2)
  · obtain ⟨W3, s3⟩ := W2.adoptC (c := .dT acc) s2 h1 h2 h3 ⟨vs, h4, r⟩
    exact g _ (.pt μ2.length) _ _ _ _ q (s1.trans s3) W3 ⟨D, by rw [← W2.len]; simp, rfl⟩
/-- a pure one -/
theorem ev_dcT {α : Type} (l : List α) (f : α → P) (p : α → Bool) (kf : α → List Key) (vf : α → P) (r : α → Rho) {kx vx : Expr} {ifs : List Expr} {scope : Scope} {zs : List E} (own : List (Str × Nat)) (js : List Nat) (hu : X.A.units < cLine) (hc : X.calm = true) (nd : X.N.Nodup) (ok : BlkOk X.N X.env.scope scope own) (hi : EI X tg iter ρ μ zs) (hl : l.length ≤ 100000)
    (ht : ∀ a ∈ l, TgB X scope tg js (.sh (f a)) (wipeR ρ (own.map (·.2))) (r a) μ) (hp : ∀ a ∈ l, ∀ Q : Bool → Mu → Prop, Q (p a) μ → TTsB X scope ifs (r a) μ Q)
    (hk : ∀ a ∈ l, p a = true → EVB X scope kx (r a) μ (.sh (.tup ((kf a).map kP)))) (hv : ∀ a ∈ l, p a = true → EVB X scope vx (r a) μ (.sh (vf a)))
    (hz : zs = l.map (fun a => .sh (f a)) := by first | rfl | (rw [List.map_map]; rfl) | simp) (hjs : ∀ j ∈ js, j ∈ own.map (·.2) := by decide)
    (hs : ∀ x, foldedSetIterable iter X.env x = pure x := by intro _; rfl) : EV X (.DictComp kx vx [⟨tg, iter, ifs, 0⟩] scope pos) ρ μ (.sh (.dT ((l.filter p).foldl (fun d a => dput d (kf a) (vf a)) []))) := fun Q q => by
  refine tep_dcT own js hu hc nd ok hjs ?_ hs
  refine (hi.is hz) _ ⟨fun i acc μ2 => μ2 = μ ∧ acc = (((l.take i).filter p).foldl (fun d a => dput d (kf a) (vf a)) []).map (fun q => (q.1, .sh q.2)), ⟨rfl, rfl⟩, fun _ _ _ _ _ => trivial, ?_, ?_⟩
  · rintro i x acc μ2 hx ⟨rfl, rfl⟩
    rw [List.getElem?_map] at hx
    cases e : l[i]? with
    | none => rw [e] at hx; cases hx
    | some a =>
      rw [e] at hx
      cases hx
      have ha : a ∈ l := List.mem_of_getElem? e
      have ht' : l.take (i + 1) = l.take i ++ [a] := by
        rw [List.take_add_one, e]
        rfl
      refine ht a ha _ (hp a ha _ ?_)
      by_cases c : p a = true
      · rw [if_pos c]
        intro s H C cl fp
        refine hk a ha c s H C cl fp _ ?_
        intro s H C cl fp
        refine hv a ha c s H C cl fp _ ⟨kf a, rfl, ?_, rfl, ?_⟩
        · rw [List.length_map]
          have h1 := List.length_filter_le p (l.take i)
          have h2 := (List.getElem?_eq_some_iff.mp e).1
          have h3 := foldl_dput_len kf vf ((l.take i).filter p) []
          rw [List.length_take] at h1
          simp only [List.length_nil] at h3
          omega
        · rw [ht', List.filter_append, List.foldl_append, dput_map]
          simp [c]
      · rw [if_neg c]
        refine ⟨rfl, ?_⟩
        rw [ht', List.filter_append, List.foldl_append]
        simp [c]
  · rintro acc μ2 ⟨rfl, rfl⟩
    rw [List.length_map, List.take_length]
    exact .inl ⟨_, rfl, q⟩
/-- .. as a new cell -/
theorem tep_dcCT {α : Type} (l : List α) (f : α → P) (p : α → Bool) (kf : α → List Key) (vf : α → P) (r : α → Rho) {kx vx : Expr} {ifs : List Expr} {scope : Scope} {zs : List E} {Q : E → Mu → Prop} (own : List (Str × Nat)) (js : List Nat) (hu : X.A.units < cLine) (hc : X.calm = true) (nd : X.N.Nodup) (ok : BlkOk X.N X.env.scope scope own) (hi : EI X tg iter ρ μ zs) (hl : l.length ≤ 100000)
    (ht : ∀ a ∈ l, TgB X scope tg js (.sh (f a)) (wipeR ρ (own.map (·.2))) (r a) μ) (hp : ∀ a ∈ l, ∀ Q : Bool → Mu → Prop, Q (p a) μ → TTsB X scope ifs (r a) μ Q)
    (hk : ∀ a ∈ l, p a = true → EVB X scope kx (r a) μ (.sh (.tup ((kf a).map kP)))) (hv : ∀ a ∈ l, p a = true → EVB X scope vx (r a) μ (.sh (vf a)))
    (q : Q (.pt μ.length) (μ ++ [some (.dT (((l.filter p).foldl (fun d a => dput d (kf a) (vf a)) []).map fun q => (q.1, .sh q.2)))])) 
    (hz : zs = l.map (fun a => .sh (f a)) := by first | rfl | (rw [List.map_map]; rfl) | simp) (hjs : ∀ j ∈ js, j ∈ own.map (·.2) := by decide)
    (hs : ∀ x, foldedSetIterable iter X.env x = pure x := by intro _; rfl) : TEP X (.DictComp kx vx [⟨tg, iter, ifs, 0⟩] scope pos) ρ μ Q := by
  refine tep_dcT own js hu hc nd ok hjs ?_ hs
  refine (hi.is hz) _ ⟨fun i acc μ2 => μ2 = μ ∧ acc = (((l.take i).filter p).foldl (fun d a => dput d (kf a) (vf a)) []).map (fun q => (q.1, .sh q.2)), ⟨rfl, rfl⟩, fun _ _ _ _ _ => trivial, ?_, ?_⟩
  · rintro i x acc μ2 hx ⟨rfl, rfl⟩
    rw [List.getElem?_map] at hx
    cases e : l[i]? with
    | none => rw [e] at hx; cases hx
    | some a =>
      rw [e] at hx
      cases hx
      have ha : a ∈ l := List.mem_of_getElem? e
      have ht' : l.take (i + 1) = l.take i ++ [a] := by
        rw [List.take_add_one, e]
        rfl
      refine ht a ha _ (hp a ha _ ?_)
      by_cases c : p a = true
      · rw [if_pos c]
        intro s H C cl fp
        refine hk a ha c s H C cl fp _ ?_
        intro s H C cl fp
        refine hv a ha c s H C cl fp _ ⟨kf a, rfl, ?_, rfl, ?_⟩
        · rw [List.length_map]
          have h1 := List.length_filter_le p (l.take i)
          have h2 := (List.getElem?_eq_some_iff.mp e).1
          have h3 := foldl_dput_len kf vf ((l.take i).filter p) []
          rw [List.length_take] at h1
          simp only [List.length_nil] at h3
          omega
        · rw [ht', List.filter_append, List.foldl_append, dput_map]
          simp [c]
      · rw [if_neg c]
        refine ⟨rfl, ?_⟩
        rw [ht', List.filter_append, List.foldl_append]
        simp [c]
  · rintro acc μ2 ⟨rfl, rfl⟩
    rw [List.length_map, List.take_length]
    exact .inr q


theorem dcK_main {kx vx : Expr} {ifs : List Expr} {scope : Scope} {own : List (Str × Nat)} {js : List Nat} {Q' : VK} {ad : List Addr} {Hb H : Hp} {σ : L2.St} {Fin : List (Key × E) → Mu → Prop} (hjs : ∀ j ∈ js, j ∈ own.map (·.2))
    (h : TIP X tg iter ρ μ fun items G μ1 => ∃ I : Nat → List (Key × E) → Mu → Prop, I 0 [] μ1 ∧ (∀ i acc μ2, i ≤ items.length → I i acc μ2 → G μ2) ∧
      (∀ i x acc μ2, items[i]? = some x → I i acc μ2 → TGB X scope tg js x (wipeR ρ (own.map (·.2))) μ2 fun ρ3 μ3 => TTsB X scope ifs ρ3 μ3 fun b μ4 => if b = true then TEB X scope kx ρ3 μ4 (fun y μ5 => TEB X scope vx ρ3 μ5 fun z μ6 => ∃ k : Key, y = .sh (kP k) ∧ acc.length < 100000 ∧ I (i + 1) (dput acc k z) μ6) else I (i + 1) acc μ4) ∧
      ∀ acc μ2, I items.length acc μ2 → Fin acc μ2)
    (W : Wd X.K ad Hb H μ) (N : Env X.K ad Hb σ ρ)
    (fin : ∀ (D : Addr) (acc : List (Key × E)) (μ2 : Mu) (vs : List (Key × V)) (ad1 : List Addr) (Hb1 H1 : Hp) (ad2 : List Addr) (Hb2 H2 : Hp), Step ad Hb H ad1 Hb1 H1 → Step ad1 Hb1 H1 ad2 Hb2 H2 → Wd X.K ad2 Hb2 H2 μ2 → H1 D = none → D ∉ ad2 → Hb2 D = none → H2 D = some (.dK vs) → Paired (fun p q => p.1 = q.1 ∧ RepE X.K ad2 Hb2 p.2 q.2) vs acc → Fin acc μ2 → Q' (.ref D) H2)
    : tDcG (.dK []) (TIV X tg iter) (gB X scope tg) (tB X scope ifs) (eB X scope kx) (eB X scope vx) (own.map (·.2)) σ H Q' := by
  refine h ad Hb H σ W N _ fun J items G μ1 ad1 Hb1 H1 ⟨I, i0, hG, turn, done⟩ s1 W1 w D hD => ?_
  have nD : D ∉ ad1 := fun z => W1.trk D z hD
  have bD : Hb1 D = none := W1.base_none hD
  let Pv : Nat → Hp → Prop := fun i H' => ∃ acc μ2 vs ad2 Hb2, I i acc μ2 ∧ Step ad1 Hb1 H1 ad2 Hb2 H' ∧ Wd X.K ad2 Hb2 H' μ2 ∧ D ∉ ad2 ∧ Hb2 D = none ∧ H' D = some (.dK vs) ∧ Paired (fun p q => p.1 = q.1 ∧ RepE X.K ad2 Hb2 p.2 q.2) vs acc
  refine ⟨fun i m H' => m = items.length - i ∧ i ≤ items.length ∧ Pv i H', ⟨items.length, rfl, Nat.zero_le _, [], μ1, [], ad1, Hb1, i0, (Step.refl _ _ _).apart hD, W1.apart nD bD, nD, bD, upd_same, .nil⟩, ?_⟩
  rintro i m H' ⟨rfl, hi, acc, μ2, vs, ad2, Hb2, iI, s2, W2, n2, b2, d2, r2⟩
  by_cases hlt : i < items.length
  · refine .inr ⟨w.goes i ad2 Hb2 H' μ2 hlt s2 W2 (hG i acc μ2 hi iI), Pv (i + 1), fun H'' p => ⟨items.length - (i + 1), by omega, rfl, hlt, p⟩, fun x H3 y => ?_⟩
    obtain ⟨Hb3, e, s3, W3, he, re⟩ := w.yields i ad2 Hb2 H' μ2 x H3 hlt s2 W2 (hG i acc μ2 hi iI) y
    have t3 := s2.trans s3
    -- D stays apart along any step
    have on : ∀ {ad Hb H ad' Hb' H'}, D ∉ ad ∧ Hb D = none ∧ H D = some (.dK vs) → Step ad Hb H ad' Hb' H' → D ∉ ad' ∧ Hb' D = none ∧ H' D = some (.dK vs) := fun {ad Hb H ad' Hb' H'} k s => ⟨fun z => (s.new D z).elim k.1 (fun z => nomatch k.2.2.symm.trans z), s.fgn D _ k.1 k.2.2 rfl k.2.1, s.fr0 k.1 k.2.1 k.2.2⟩
    have k3 := on ⟨n2, b2, d2⟩ s3
    intro s H0 C cl fp
    refine turn i e acc μ2 he iI s H0 C cl fp ad2 Hb3 H3 _ x W3 ((Env.step (s1.trans t3) N).wipe _) re _ fun ρ4 μ4 ad4 Hb4 H4 σ4 q4 s4 W4 N4 b4 => ⟨?_, ?_⟩
    · have e1 := wipe_get (σ := wipe σ (own.map (·.2))) (σ' := σ4) (own.map (·.2)) b4.1 fun k hk => b4.2 k fun z => hk (hjs k z)
      rw [e1]
      exact wipe_get _ (wipe_length _ _) fun k hk => wipe_out hk
    intro s H0 C cl fp
    refine q4 s H0 C cl fp ad4 Hb4 H4 σ4 W4 N4 _ fun b μ5 ad5 Hb5 H5 q5 s5 W5 => ?_
    have k5 := on (on k3 s4) s5
    have t5 := t3.trans (s4.trans s5)
    have r5 : Paired (fun (p : Key × V) (q : Key × E) => p.1 = q.1 ∧ RepE X.K ad5 Hb5 p.2 q.2) vs acc := pd_imp (fun _ _ z => ⟨z.1, RepE.step (s3.trans (s4.trans s5)) z.2⟩) r2
    cases b with
    | false => exact ⟨acc, μ5, vs, ad5, Hb5, q5, t5, W5, k5.1, k5.2.1, k5.2.2, r5⟩
    | true =>
      intro s H0 C cl fp
      refine q5 s H0 C cl fp ad5 Hb5 H5 σ4 W5 (Env.step s5 N4) _ fun yv y μ6 ad6 Hb6 H6 q6 s6 W6 r6 => ?_
      intro s H0 C cl fp
      refine q6 s H0 C cl fp ad6 Hb6 H6 σ4 W6 (Env.step s6 (Env.step s5 N4)) _ fun zv z μ7 ad7 Hb7 H7 q7 s7 W7 r7 => ?_
      obtain ⟨k, rfl, hl, q7⟩ := q7
      have k7 := on (on k5 s6) s7
      have r6' : Rep X.K Hb7 yv (kP k) := RepE.step s7 r6
      have hlv : vs.length < sizeLine := Nat.lt_of_lt_of_le (by rw [r2.length]; exact hl) (by decide)
      obtain rfl := rep_key r6'
      have put := DPut.k (k := k) (v := zv) k7.2.2 hlv
      refine ⟨_, put, dput acc k z, μ7, putK vs k zv, ad7, Hb7, q7, ((t5.trans s6).trans s7).apart hD, W7.apart k7.1 k7.2.1, k7.1, k7.2.1, upd_same, ?_⟩
      exact pd_dput (F := fun u v => RepE X.K ad7 Hb7 u v) (pd_imp (fun _ _ q => ⟨q.1, RepE.step (s6.trans s7) q.2⟩) r5) k r7
  · have e : i = items.length := by omega
    subst e
    exact .inl ⟨w.stops ad2 Hb2 H' μ2 s2 W2 (hG _ acc μ2 hi iI), fin D acc μ2 vs ad1 Hb1 H1 ad2 Hb2 H' s1 s2 W2 hD n2 b2 d2 r2 (done acc μ2 iI)⟩
theorem tep_dcK {kx vx : Expr} {ifs : List Expr} {scope : Scope} {Q : E → Mu → Prop} (own : List (Str × Nat)) (js : List Nat) (hu : X.A.units < cLine) (hc : X.calm = true) (hN : X.N.Nodup) (ok : BlkOk X.N X.env.scope scope own) (hjs : ∀ j ∈ js, j ∈ own.map (·.2))
    (h : TIP X tg iter ρ μ fun items G μ1 => ∃ I : Nat → List (Key × E) → Mu → Prop, I 0 [] μ1 ∧ (∀ i acc μ2, i ≤ items.length → I i acc μ2 → G μ2) ∧
      (∀ i x acc μ2, items[i]? = some x → I i acc μ2 → TGB X scope tg js x (wipeR ρ (own.map (·.2))) μ2 fun ρ3 μ3 => TTsB X scope ifs ρ3 μ3 fun b μ4 => if b = true then TEB X scope kx ρ3 μ4 (fun y μ5 => TEB X scope vx ρ3 μ5 fun z μ6 => ∃ k : Key, y = .sh (kP k) ∧ acc.length < 100000 ∧ I (i + 1) (dput acc k z) μ6) else I (i + 1) acc μ4) ∧
      ∀ acc μ2, I items.length acc μ2 → (∃ zs : List (Key × P), acc = zs.map (fun q => (q.1, .sh q.2)) ∧ Q (.sh (.dK zs)) μ2) ∨ Q (.pt μ2.length) (μ2 ++ [some (.dK acc)]))
    (hs : ∀ x, foldedSetIterable iter X.env x = pure x := by intro _; rfl) : TEP X (.DictComp kx vx [⟨tg, iter, ifs, 0⟩] scope pos) ρ μ Q := fun ad Hb H σ W N Q' g => by
  refine pe_go (pe_dcG (O0 := .dK []) (.inl rfl) hu hc hN pi_self ok pgB ptB peB peB hs) (dcK_main (Fin := fun acc μ2 => (∃ zs : List (Key × P), acc = zs.map (fun q => (q.1, .sh q.2)) ∧ Q (.sh (.dK zs)) μ2) ∨ Q (.pt μ2.length) (μ2 ++ [some (.dK acc)])) hjs h W N ?_)
  intro D acc μ2 vs ad1 Hb1 H1 ad2 Hb2 H2 s1 s2 W2 h1 h2 h3 h4 r q
  rcases q with ⟨zs, rfl, q⟩ | q
  · obtain ⟨W3, s3⟩ := W2.adopt s2 h1 h2 h3 h4
    have r' : Paired (fun (p : Key × V) (q : Key × P) => p.1 = q.1 ∧ Rep X.K Hb2 p.2 q.2) vs zs := pd_unmap r
    have l : vs.map (·.1) = zs.map (·.1) := pd_fst r'
    exact g _ (.sh (.dK zs)) _ _ _ _ q (s1.trans s3) W3 (.dK upd_same l fun i v x h5 h6 => Rep.mono (Ex.new h3) (pd_get r' i v x h5 h6).2)
  · obtain ⟨W3, s3⟩ := W2.adoptC (c := .dK acc) s2 h1 h2 h3 ⟨vs, h4, r⟩
    exact g _ (.pt μ2.length) _ _ _ _ q (s1.trans s3) W3 ⟨D, by rw [← W2.len]; simp, rfl⟩
/-- a pure one -/
theorem ev_dcK {α : Type} (l : List α) (f : α → P) (p : α → Bool) (kf : α → Key) (vf : α → P) (r : α → Rho) {kx vx : Expr} {ifs : List Expr} {scope : Scope} {zs : List E} (own : List (Str × Nat)) (js : List Nat) (hu : X.A.units < cLine) (hc : X.calm = true) (nd : X.N.Nodup) (ok : BlkOk X.N X.env.scope scope own) (hi : EI X tg iter ρ μ zs) (hl : l.length ≤ 100000)
    (ht : ∀ a ∈ l, TgB X scope tg js (.sh (f a)) (wipeR ρ (own.map (·.2))) (r a) μ) (hp : ∀ a ∈ l, ∀ Q : Bool → Mu → Prop, Q (p a) μ → TTsB X scope ifs (r a) μ Q)
    (hk : ∀ a ∈ l, p a = true → EVB X scope kx (r a) μ (.sh (kP (kf a)))) (hv : ∀ a ∈ l, p a = true → EVB X scope vx (r a) μ (.sh (vf a)))
    (hz : zs = l.map (fun a => .sh (f a)) := by first | rfl | (rw [List.map_map]; rfl) | simp) (hjs : ∀ j ∈ js, j ∈ own.map (·.2) := by decide)
    (hs : ∀ x, foldedSetIterable iter X.env x = pure x := by intro _; rfl) : EV X (.DictComp kx vx [⟨tg, iter, ifs, 0⟩] scope pos) ρ μ (.sh (.dK ((l.filter p).foldl (fun d a => dput d (kf a) (vf a)) []))) := fun Q q => by
  refine tep_dcK own js hu hc nd ok hjs ?_ hs
  refine (hi.is hz) _ ⟨fun i acc μ2 => μ2 = μ ∧ acc = (((l.take i).filter p).foldl (fun d a => dput d (kf a) (vf a)) []).map (fun q => (q.1, .sh q.2)), ⟨rfl, rfl⟩, fun _ _ _ _ _ => trivial, ?_, ?_⟩
  · rintro i x acc μ2 hx ⟨rfl, rfl⟩
    rw [List.getElem?_map] at hx
    cases e : l[i]? with
    | none => rw [e] at hx; cases hx
    | some a =>
      rw [e] at hx
      cases hx
      have ha : a ∈ l := List.mem_of_getElem? e
      have ht' : l.take (i + 1) = l.take i ++ [a] := by
        rw [List.take_add_one, e]
        rfl
      refine ht a ha _ (hp a ha _ ?_)
      by_cases c : p a = true
      · rw [if_pos c]
        intro s H C cl fp
        refine hk a ha c s H C cl fp _ ?_
        intro s H C cl fp
        refine hv a ha c s H C cl fp _ ⟨kf a, rfl, ?_, rfl, ?_⟩
        · rw [List.length_map]
          have h1 := List.length_filter_le p (l.take i)
          have h2 := (List.getElem?_eq_some_iff.mp e).1
          have h3 := foldl_dput_len kf vf ((l.take i).filter p) []
          rw [List.length_take] at h1
          simp only [List.length_nil] at h3
          omega
        · rw [ht', List.filter_append, List.foldl_append, dput_map]
          simp [c]
      · rw [if_neg c]
        refine ⟨rfl, ?_⟩
        rw [ht', List.filter_append, List.foldl_append]
        simp [c]
  · rintro acc μ2 ⟨rfl, rfl⟩
    rw [List.length_map, List.take_length]
    exact .inl ⟨_, rfl, q⟩
/-- .. as a new cell -/
theorem tep_dcCK {α : Type} (l : List α) (f : α → P) (p : α → Bool) (kf : α → Key) (vf : α → P) (r : α → Rho) {kx vx : Expr} {ifs : List Expr} {scope : Scope} {zs : List E} {Q : E → Mu → Prop} (own : List (Str × Nat)) (js : List Nat) (hu : X.A.units < cLine) (hc : X.calm = true) (nd : X.N.Nodup) (ok : BlkOk X.N X.env.scope scope own) (hi : EI X tg iter ρ μ zs) (hl : l.length ≤ 100000)
    (ht : ∀ a ∈ l, TgB X scope tg js (.sh (f a)) (wipeR ρ (own.map (·.2))) (r a) μ) (hp : ∀ a ∈ l, ∀ Q : Bool → Mu → Prop, Q (p a) μ → TTsB X scope ifs (r a) μ Q)
    (hk : ∀ a ∈ l, p a = true → EVB X scope kx (r a) μ (.sh (kP (kf a)))) (hv : ∀ a ∈ l, p a = true → EVB X scope vx (r a) μ (.sh (vf a)))
    (q : Q (.pt μ.length) (μ ++ [some (.dK (((l.filter p).foldl (fun d a => dput d (kf a) (vf a)) []).map fun q => (q.1, .sh q.2)))])) 
    (hz : zs = l.map (fun a => .sh (f a)) := by first | rfl | (rw [List.map_map]; rfl) | simp) (hjs : ∀ j ∈ js, j ∈ own.map (·.2) := by decide)
    (hs : ∀ x, foldedSetIterable iter X.env x = pure x := by intro _; rfl) : TEP X (.DictComp kx vx [⟨tg, iter, ifs, 0⟩] scope pos) ρ μ Q := by
  refine tep_dcK own js hu hc nd ok hjs ?_ hs
  refine (hi.is hz) _ ⟨fun i acc μ2 => μ2 = μ ∧ acc = (((l.take i).filter p).foldl (fun d a => dput d (kf a) (vf a)) []).map (fun q => (q.1, .sh q.2)), ⟨rfl, rfl⟩, fun _ _ _ _ _ => trivial, ?_, ?_⟩
  · rintro i x acc μ2 hx ⟨rfl, rfl⟩
    rw [List.getElem?_map] at hx
    cases e : l[i]? with
    | none => rw [e] at hx; cases hx
    | some a =>
      rw [e] at hx
      cases hx
      have ha : a ∈ l := List.mem_of_getElem? e
      have ht' : l.take (i + 1) = l.take i ++ [a] := by
        rw [List.take_add_one, e]
        rfl
      refine ht a ha _ (hp a ha _ ?_)
      by_cases c : p a = true
      · rw [if_pos c]
        intro s H C cl fp
        refine hk a ha c s H C cl fp _ ?_
        intro s H C cl fp
        refine hv a ha c s H C cl fp _ ⟨kf a, rfl, ?_, rfl, ?_⟩
        · rw [List.length_map]
          have h1 := List.length_filter_le p (l.take i)
          have h2 := (List.getElem?_eq_some_iff.mp e).1
          have h3 := foldl_dput_len kf vf ((l.take i).filter p) []
          rw [List.length_take] at h1
          simp only [List.length_nil] at h3
          omega
        · rw [ht', List.filter_append, List.foldl_append, dput_map]
          simp [c]
      · rw [if_neg c]
        refine ⟨rfl, ?_⟩
        rw [ht', List.filter_append, List.foldl_append]
        simp [c]
  · rintro acc μ2 ⟨rfl, rfl⟩
    rw [List.length_map, List.take_length]
    exact .inr q

end
end PV

/-! Lists of numbers. -/
namespace PV
open PySem PySem.Spec PyProof.Rows L2
def natsP (l : List Nat) : List P := l.map fun e => .int (e : Nat)
theorem natsP_eq (l : List Nat) : natsP l = (l.map Int.ofNat).map .int := by
  unfold natsP
  rw [List.map_map]
  rfl
theorem mem_ofNat (l : List Nat) (e : Nat) : ((e : Int) ∈ l.map Int.ofNat) ↔ e ∈ l := by
  constructor
  · intro h
    obtain ⟨x, hx, e1⟩ := List.mem_map.mp h
    have : x = e := Int.ofNat.inj e1
    rw [← this]
    exact hx
  · exact fun h => List.mem_map.mpr ⟨e, h, rfl⟩
section
variable {X : Cx} {tg a b c e o iter : Expr} {es : List Expr} {ρ : Rho} {μ : Mu} {Q : E → Mu → Prop} {pos p2 p3 p4 : Pos} {i : Nat} {l : List Nat}
theorem ev_inN (ha : EV X a ρ μ (.sh (.int (i : Nat)))) (hb : EV X b ρ μ (.sh (.lst (natsP l)))) (hm : behindInMarks .In b = false := by with_unfolding_all rfl) : EV X (.Compare a [.In] [b] pos) ρ μ (.sh (.bl (decide (i ∈ l)))) := by
  rw [natsP_eq] at hb
  exact (ev_in ha hb hm).is (by simp only [mem_ofNat])
theorem et_inN (ha : EV X a ρ μ (.sh (.int (i : Nat)))) (hb : EV X b ρ μ (.sh (.lst (natsP l)))) (hm : behindInMarks .In b = false := by with_unfolding_all rfl) : ET X (.Compare a [.In] [b] pos) ρ μ (decide (i ∈ l)) := by
  rw [natsP_eq] at hb
  exact (et_in ha hb hm).is (by simp only [mem_ofNat])
theorem et_notInN (ha : EV X a ρ μ (.sh (.int (i : Nat)))) (hb : EV X b ρ μ (.sh (.lst (natsP l)))) (hm : behindInMarks .NotIn b = false := by with_unfolding_all rfl) : ET X (.Compare a [.NotIn] [b] pos) ρ μ (!decide (i ∈ l)) := by
  rw [natsP_eq] at hb
  exact (et_notIn ha hb hm).is (by simp only [mem_ofNat])
theorem rep_rg {K : PySem.W.Frag} {H : Hp} (n : Nat) : RepL K H (rgV 0 (n : Int)) (natsP (List.range n)) := by
  have e : rgV 0 (n : Int) = (List.range n).map fun i => V.int (i : Nat) := by
    unfold rgV
    simp
  rw [e]
  unfold natsP
  generalize List.range n = l
  induction l with
  | nil => exact .nil
  | cons a l ih => exact .cons (.int _) ih
theorem tep_listRg (hm : X.mg "list" = none) (hm2 : X.mg "range" = none) (h : EV X e ρ μ (.sh (.int (i : Nat)))) (hl : i ≤ 100000) (q : Q (.sh (.lst (natsP (List.range i)))) μ) (hc : X.calm = true := by rfl) (hg : Gl X "list" := by rfl) (hg2 : Gl X "range" := by rfl)
    (hs : starEach [e] X.env = (false, eval e X.env) :: starEach [] X.env := by rfl) (hs2 : starEach [.Call (.Name "range" p3) [e] [] p2] X.env = (false, eval (.Call (.Name "range" p3) [e] [] p2) X.env) :: starEach [] X.env := by rfl) :
    TEP X (.Call (.Name "list" pos) [.Call (.Name "range" p3) [e] [] p2] [] p4) ρ μ Q := fun ad Hb H σ W N Q' g => by
  refine pe_go (pe_listRg hc hg hm (prg_1 hg2 hm2 pe_self hs) hs2) (h (fun y μ1 => y = .sh (.int (i : Nat)) ∧ μ1 = μ) ⟨rfl, rfl⟩ ad Hb H σ W N _ ?_)
  rintro v y μ1 ad1 Hb1 H1 ⟨rfl, rfl⟩ s1 W1 r1
  obtain rfl := Rep.int_inv r1
  refine ⟨(i : Int), rfl, ⟨by omega, by omega, by omega, by omega, by omega⟩, fun p hp => ?_⟩
  obtain ⟨W2, s2⟩ := W1.alloc (o := .lst (rgV 0 (i : Int))) hp
  exact g _ (.sh (.lst _)) _ _ _ _ q (s1.trans s2) W2 (Rep.lstL upd_same (rep_rg i))
end
section
variable {X : Cx} {a b c e : Expr} {es : List Expr} {ρ : Rho} {μ : Mu} {D : Out} {pos : Pos}
theorem tap_consV {x : E} {Q : List E → Mu → Prop} (h : EV X e ρ μ x) (t : TAP X es ρ μ fun xs μ2 => Q (x :: xs) μ2) (hs : starEach (e :: es) X.env = (false, eval e X.env) :: starEach es X.env := by rfl) : TAP X (e :: es) ρ μ Q := tap_cons (h _ t) hs
theorem tsp_par2A (i j : Nat) (nd : X.N.Nodup) {x y : Str} {px py pt pt2 : Pos} {kt k2} (h : TAP X [a, b] ρ μ fun zs μ1 => ∃ u v, zs = [u, v] ∧ D.nx ((ρ.set i (some u)).set j (some v)) μ1) (hc : X.calm = true := by rfl) (hi : X.N[i]? = some x := by rfl) (hj : X.N[j]? = some y := by rfl) (hij : i ≠ j := by decide)
    (hx : X.env.scope.names.lookup x = some .local := by rfl) (hy : X.env.scope.names.lookup y = some .local := by rfl) (hw : swappedStores [.Tuple [.Name x px, .Name y py] kt pt] (.Tuple [a, b] k2 pt2) X.env = pure (some [x, y]) := by rfl)
    (hs : swapsWithSole [.Tuple [.Name x px, .Name y py] kt pt] (.Tuple [a, b] k2 pt2) pos.line X.env = pure false := by rfl) : TSP X (.Assign [.Tuple [.Name x px, .Name y py] kt pt] (.Tuple [a, b] k2 pt2) pos) ρ μ D := tsp_par2 i j h hc nd hi hj hij hx hy hw hs
theorem tsp_par3A (i j l : Nat) (nd : X.N.Nodup) {x y z : Str} {px py pz pt pt2 : Pos} {kt k2} (h : TAP X [a, b, c] ρ μ fun zs μ1 => ∃ u v w, zs = [u, v, w] ∧ D.nx (((ρ.set i (some u)).set j (some v)).set l (some w)) μ1) (hc : X.calm = true := by rfl) (hi : X.N[i]? = some x := by rfl) (hj : X.N[j]? = some y := by rfl) (hl : X.N[l]? = some z := by rfl) (hij : i ≠ j := by decide) (hil : i ≠ l := by decide) (hjl : j ≠ l := by decide)
    (hx : X.env.scope.names.lookup x = some .local := by rfl) (hy : X.env.scope.names.lookup y = some .local := by rfl) (hz : X.env.scope.names.lookup z = some .local := by rfl) (hw : swappedStores [.Tuple [.Name x px, .Name y py, .Name z pz] kt pt] (.Tuple [a, b, c] k2 pt2) X.env = pure (some [x, y, z]) := by rfl)
    (hs : swapsWithSole [.Tuple [.Name x px, .Name y py, .Name z pz] kt pt] (.Tuple [a, b, c] k2 pt2) pos.line X.env = pure false := by rfl) : TSP X (.Assign [.Tuple [.Name x px, .Name y py, .Name z pz] kt pt] (.Tuple [a, b, c] k2 pt2) pos) ρ μ D := tsp_par3 i j l h hc nd hi hj hl hij hil hjl hx hy hz hw hs
/-- names = values, some of the names cells -/
theorem tsp_parN (ns : List Str) (is : List Nat) (nd : X.N.Nodup) {ts : List Expr} {pt pt2 : Pos} {kt k2 n} (h : TAP X es ρ μ fun zs μ1 => zs.length = ns.length ∧ D.nx (setsR ρ is zs) μ1) (hl : ns.length ≤ 100000 := by decide) (hc : X.calm = true := by rfl) (he : ts.map nmOf = ns.map some := by rfl) (hi : is.map (fun i => X.N[i]?) = ns.map some := by rfl)
    (hf : ns.all (fun n => decide (X.env.scope.names.lookup n = some .local) || decide (X.env.scope.names.lookup n = some .cell)) = true := by rfl) (hfn : ∀ n, X.fn n = true := by exact fun _ => rfl)
    (hn : (assignEach ts X.env).length = n := by rfl) (hnn : ns.length = n := by rfl)
    (hs : swapsWithSole [.Tuple ts kt pt] (.Tuple es k2 pt2) pos.line X.env = pure false := by rfl) (hw : swappedStores [.Tuple ts kt pt] (.Tuple es k2 pt2) X.env = pure none := by rfl) (h1 : (assignEach [.Tuple ts kt pt] X.env).map (·.2) = [assign (.Tuple ts kt pt) X.env] := by rfl) :
    TSP X (.Assign [.Tuple ts kt pt] (.Tuple es k2 pt2) pos) ρ μ D := by
  subst hnn
  refine tsp_parG is (n := ns.length) (fun ad Hb H σ W N Q' g => h ad Hb H σ W N Q' fun vs zs μ1 ad1 Hb1 H1 ⟨l, q⟩ s1 W1 r1 => g vs zs μ1 ad1 Hb1 H1 ⟨by rw [l]; exact hl, l, ?_⟩ s1 W1 r1) hc hn (names_len he).2 hs hw h1
  refine tgs_names nd ns ts is zs ρ he l (fun _ h => h) hi (fun x hx => ?_) q
  have := List.all_eq_true.mp hf x hx
  simp only [Bool.or_eq_true, decide_eq_true_eq] at this
  exact ⟨this, .inl (hfn x)⟩
theorem tsp_whileP {c : Expr} {bodyS : List Stmt} (I : Nat → Rho → Mu → Prop) (m : Nat) (h0 : I m ρ μ)
    (turn : ∀ m ρ2 μ2, I m ρ2 μ2 → TTP X c ρ2 μ2 fun d μ3 => if d = true then TSs X bodyS ρ2 μ3 { D with nx := fun ρ4 μ4 => ∃ m', m' < m ∧ I m' ρ4 μ4, ct := fun ρ4 μ4 => ∃ m', m' < m ∧ I m' ρ4 μ4, bk := D.nx } else D.nx ρ2 μ3)
    (hp : PassesOwn (model X.prog X.w) X.A X.env X.xe := by exact fun _ _ h => h.elim) : TSP X (.While c bodyS [] pos) ρ μ D := tsp_while I m h0 turn hp
end
theorem ei_nats {X : Cx} {tg e : Expr} {ρ : Rho} {μ : Mu} {l : List Nat} (h : EV X e ρ μ (.sh (.lst (natsP l)))) : EI X tg e ρ μ (l.map fun e => .sh (.int (e : Nat))) := (ei_list h).is (by unfold natsP; rw [List.map_map]; rfl)
theorem natsP_len (l : List Nat) : (natsP l).length = l.length := by unfold natsP; rw [List.length_map]
theorem filter_split {α : Type} (p : α → Bool) : ∀ l : List α, l.length = (l.filter p).length + (l.filter fun x => !p x).length
  | [] => rfl
  | a :: l => by
    have ih := filter_split p l
    rw [List.filter_cons, List.filter_cons]
    cases h : p a <;> simp [h] <;> omega
theorem ttsb0 {X : Cx} {scope : Scope} {ρ : Rho} {μ : Mu} : ∀ Q : Bool → Mu → Prop, Q true μ → TTsB X scope [] ρ μ Q := fun Q q s H C cl fp => tts_nil q
theorem ttsb1 {X : Cx} {scope : Scope} {ρ : Rho} {μ : Mu} {c : Expr} {b : Bool} (h : ETB X scope c ρ μ b) : ∀ Q : Bool → Mu → Prop, Q b μ → TTsB X scope [c] ρ μ Q := fun Q q s H C cl fp => tts_one (h s H C cl fp Q q)
theorem dget_foldl_some {α β κ : Type} [DecidableEq κ] (kf : α → κ) (vf : α → β) (k : κ) : ∀ (l : List α) (d : List (κ × β)), (dget (l.foldl (fun d a => dput d (kf a) (vf a)) d) k).isSome = ((dget d k).isSome || l.any fun a => decide (kf a = k))
  | [], d => by simp
  | a :: l, d => by
    rw [List.foldl_cons, dget_foldl_some kf vf k l, dget_put, List.any_cons]
    by_cases c : kf a = k
    · simp [c]
    · simp [c]
end PV

/-! Rows of cells. -/
namespace PV
open PySem PySem.Spec PyProof.Rows L2
theorem atI_nat {α : Type} (xs : List α) (i : Nat) : atI xs (i : Int) = xs[i]? := by
  unfold atI ixN
  rw [if_pos (by omega)]
  by_cases h : i < xs.length
  · rw [if_pos (by omega)]
    simp
  · rw [if_neg (by omega), List.getElem?_eq_none (by omega)]
    rfl
theorem atI_of {α : Type} {xs : List α} {i : Int} {x : α} (j : Nat) (hi : i = (j : Int)) (h : xs[j]? = some x) : atI xs i = some x := by rw [hi, atI_nat, h]
theorem atI_last {α : Type} {xs : List α} {x : α} (h : xs ≠ []) (hx : xs.getLast? = some x) : atI xs (-1) = some x := by
  have hl : 0 < xs.length := List.length_pos_iff.mpr h
  unfold atI ixN
  rw [if_neg (by omega), if_pos (by omega)]
  rw [List.getLast?_eq_getElem?] at hx
  have : ((-1 : Int) + xs.length).toNat = xs.length - 1 := by omega
  simp only [this, Option.bind_some]
  exact hx
/-- n things told by F, then the rest -/
def rowsM {α : Type} (n : Nat) (F : Nat → α) (rest : List α) : List α := (List.range n).map F ++ rest
theorem rowsM_get {α : Type} {n : Nat} {F : Nat → α} {rest : List α} {e : Nat} (h : e < n) : (rowsM n F rest)[e]? = some (F e) := by
  unfold rowsM
  rw [List.getElem?_append_left (by simpa using h), List.getElem?_map, List.getElem?_range h]
  rfl
theorem rowsM_top {α : Type} {n : Nat} {F : Nat → α} {rest : List α} (i : Nat) : (rowsM n F rest)[n + i]? = rest[i]? := by
  unfold rowsM
  rw [List.getElem?_append_right (by simp), List.length_map, List.length_range]
  congr 1
  omega
theorem rowsM_set {α : Type} {n : Nat} {F : Nat → α} {rest : List α} {e : Nat} {v : α} (h : e < n) : (rowsM n F rest).set e v = rowsM n (fun x => if x = e then v else F x) rest := by
  unfold rowsM
  rw [List.set_append_left _ _ (by simpa using h)]
  congr 1
  refine List.ext_getElem? fun i => ?_
  rw [List.getElem?_set]
  simp only [List.getElem?_map, List.length_map, List.length_range]
  by_cases c : e = i
  · subst c
    rw [if_pos rfl, if_pos h, List.getElem?_range h]
    simp
  · rw [if_neg c]
    by_cases hi : i < n
    · rw [List.getElem?_range hi]
      simp [Ne.symm c]
    · rw [List.getElem?_eq_none (by simpa using hi)]
      rfl
theorem rowsM_congr {α : Type} {n : Nat} {F F' : Nat → α} {rest : List α} (h : ∀ e, e < n → F e = F' e) : rowsM n F rest = rowsM n F' rest := by
  unfold rowsM
  congr 1
  exact List.map_congr_left fun e he => h e (List.mem_range.mp he)
theorem rowsM_len {α : Type} {n : Nat} {F : Nat → α} {rest : List α} : (rowsM n F rest).length = n + rest.length := by
  unfold rowsM
  simp
section
variable {X : Cx} {tg iter elt : Expr} {ρ : Rho} {Q : E → Mu → Prop} {pos : Pos} {scope : Scope} {items : List E}
/-- [a new list for x in ..], the cells empty ahead of it -/
theorem tep_lcNew (n : Nat) (c : Cell) (r : Nat → Rho) (own : List (Str × Nat)) (js : List Nat) (nd : X.N.Nodup) (ok : BlkOk X.N X.env.scope scope own) (hi : EI X tg iter ρ [] items) (hn : items.length = n) (hl : n ≤ 100000)
    (ht : ∀ i x μ2, items[i]? = some x → TgB X scope tg js x (wipeR ρ (own.map (·.2))) (r i) μ2) (he : ∀ i μ2, i < n → ∀ Q : E → Mu → Prop, Q (.pt (List.length μ2)) (μ2 ++ [some c]) → TEB X scope elt (r i) μ2 Q)
    (q : Q (.pt n) (rowsM n (fun _ => some c) [some (.lst ((List.range n).map .pt))])) (hc : X.calm = true := by rfl) (hjs : ∀ j ∈ js, j ∈ own.map (·.2) := by decide)
    (hs : ∀ x, foldedSetIterable iter X.env x = pure x := by intro _; rfl) : TEP X (.ListComp elt [⟨tg, iter, [], 0⟩] scope pos) ρ [] Q := by
  subst hn
  refine tep_lcC own js hc nd ok hjs (hi _ ⟨fun i acc μ2 => acc = (List.range i).map .pt ∧ μ2 = (List.range i).map (fun _ => some c), ⟨rfl, rfl⟩, fun _ _ _ _ _ => trivial, ?_, ?_⟩) hs
  · rintro i x acc μ2 hx ⟨rfl, rfl⟩
    have hlt := (List.getElem?_eq_some_iff.mp hx).1
    refine ht i x _ hx _ (ttsb0 _ ?_)
    rw [if_pos rfl]
    refine he i _ hlt _ ⟨?_, ?_, ?_⟩
    · rw [List.length_map, List.length_range]; omega
    · rw [List.range_succ, List.map_append, List.length_map, List.length_range]; rfl
    · rw [List.range_succ, List.map_append]; rfl
  · rintro acc μ2 ⟨rfl, rfl⟩
    rw [List.length_map, List.length_range]
    exact q
/-- name = [.. for .. in .. if c], the name a plain local, on one line -/
theorem tsp_setL1 (i : Nat) {α : Type} (l : List α) (f : α → P) (r : α → Rho) (p : α → Bool) (g : α → P) (js : List Nat) (own : List (Str × Nat)) {y : Str} {py spos : Pos} {c : Expr} {μ : Mu} {D : Out} (nd : X.N.Nodup) (ok : BlkOk X.N X.env.scope scope own) (hi : EI X tg iter ρ μ items) (hl : l.length ≤ 100000)
    (ht : ∀ a ∈ l, TgB X scope tg js (.sh (f a)) (wipeR ρ (own.map (·.2))) (r a) μ) (hp : ∀ a ∈ l, ETB X scope c (r a) μ (p a)) (he : ∀ a ∈ l, p a = true → EVB X scope elt (r a) μ (.sh (g a))) (q : D.nx (ρ.set i (some (.sh (.lst ((l.filter p).map g))))) μ)
    (hz : items = l.map (fun a => .sh (f a)) := by first | rfl | (rw [List.map_map]; rfl) | simp) (hjs : ∀ j ∈ js, j ∈ own.map (·.2) := by decide) (hc : X.calm = true := by rfl) (hy : X.N[i]? = some y := by rfl) (hyl : X.env.scope.names.lookup y = some .local := by rfl)
    (hsw : swapsWith (.ListComp elt [⟨tg, iter, [c], 0⟩] scope pos) (some (.Name y py)) spos.line X.env = pure true := by rfl) (hs : ∀ x, foldedSetIterable iter X.env x = pure x := by intro _; rfl) : TSP X (.Assign [.Name y py] (.ListComp elt [⟨tg, iter, [c], 0⟩] scope pos) spos) ρ μ D :=
  tsp_setLc i own js hc nd hy hyl ok hjs (lc_inv (p := p) (hi.is hz) hl ht (fun a ha => ttsb1 (hp a ha)) (fun a ha h Q q s H C cl fp => he a ha h s H C cl fp Q q) (.inl ⟨_, rfl, q⟩)) hsw hs
theorem tsp_setL0 (i : Nat) {α : Type} (l : List α) (f : α → P) (r : α → Rho) (g : α → P) (js : List Nat) (own : List (Str × Nat)) {y : Str} {py spos : Pos} {μ : Mu} {D : Out} (nd : X.N.Nodup) (ok : BlkOk X.N X.env.scope scope own) (hi : EI X tg iter ρ μ items) (hl : l.length ≤ 100000)
    (ht : ∀ a ∈ l, TgB X scope tg js (.sh (f a)) (wipeR ρ (own.map (·.2))) (r a) μ) (he : ∀ a ∈ l, EVB X scope elt (r a) μ (.sh (g a))) (q : D.nx (ρ.set i (some (.sh (.lst (l.map g))))) μ)
    (hz : items = l.map (fun a => .sh (f a)) := by first | rfl | (rw [List.map_map]; rfl) | simp) (hjs : ∀ j ∈ js, j ∈ own.map (·.2) := by decide) (hc : X.calm = true := by rfl) (hy : X.N[i]? = some y := by rfl) (hyl : X.env.scope.names.lookup y = some .local := by rfl)
    (hsw : swapsWith (.ListComp elt [⟨tg, iter, [], 0⟩] scope pos) (some (.Name y py)) spos.line X.env = pure true := by rfl) (hs : ∀ x, foldedSetIterable iter X.env x = pure x := by intro _; rfl) : TSP X (.Assign [.Name y py] (.ListComp elt [⟨tg, iter, [], 0⟩] scope pos) spos) ρ μ D := by
  have e : l.filter (fun _ => true) = l := List.filter_eq_self.mpr fun _ _ => rfl
  exact tsp_setLc i own js hc nd hy hyl ok hjs (lc_inv (p := fun _ => true) (g := g) (hi.is hz) hl ht (fun a ha => ttsb0) (fun a ha h Q q s H C cl fp => he a ha s H C cl fp Q q) (.inl ⟨_, rfl, by rw [e]; exact q⟩)) hsw hs
theorem tsp_setL1C (i : Nat) {α : Type} (l : List α) (f : α → P) (r : α → Rho) (p : α → Bool) (g : α → P) (js : List Nat) (own : List (Str × Nat)) {y : Str} {py spos : Pos} {c : Expr} {μ : Mu} {D : Out} (nd : X.N.Nodup) (ok : BlkOk X.N X.env.scope scope own) (hi : EI X tg iter ρ μ items) (hl : l.length ≤ 100000)
    (ht : ∀ a ∈ l, TgB X scope tg js (.sh (f a)) (wipeR ρ (own.map (·.2))) (r a) μ) (hp : ∀ a ∈ l, ETB X scope c (r a) μ (p a)) (he : ∀ a ∈ l, p a = true → EVB X scope elt (r a) μ (.sh (g a))) (q : D.nx (ρ.set i (some (.pt μ.length))) (μ ++ [some (.lst (((l.filter p).map g).map .sh))]))
    (hz : items = l.map (fun a => .sh (f a)) := by first | rfl | (rw [List.map_map]; rfl) | simp) (hjs : ∀ j ∈ js, j ∈ own.map (·.2) := by decide) (hc : X.calm = true := by rfl) (hy : X.N[i]? = some y := by rfl) (hyl : X.env.scope.names.lookup y = some .local := by rfl)
    (hsw : swapsWith (.ListComp elt [⟨tg, iter, [c], 0⟩] scope pos) (some (.Name y py)) spos.line X.env = pure true := by rfl) (hs : ∀ x, foldedSetIterable iter X.env x = pure x := by intro _; rfl) : TSP X (.Assign [.Name y py] (.ListComp elt [⟨tg, iter, [c], 0⟩] scope pos) spos) ρ μ D :=
  tsp_setLc i own js hc nd hy hyl ok hjs (lc_inv (p := p) (g := g) (Fin := fun acc μ2 => (∃ zs : List P, acc = zs.map .sh ∧ D.nx (ρ.set i (some (.sh (.lst zs)))) μ2) ∨ D.nx (ρ.set i (some (.pt μ2.length))) (μ2 ++ [some (.lst acc)])) (hi.is hz) hl ht (fun a ha => ttsb1 (hp a ha)) (fun a ha h Q q s H C cl fp => he a ha h s H C cl fp Q q) (.inr q)) hsw hs
end
end PV

/-! Objects as cells; new instances; sorted lists of tuples. -/
namespace PV
open PySem PySem.Spec PyProof.Rows L2
def putA {α : Type} (f : Str) (v : α) : List (Str × α) → List (Str × α)
  | [] => [(f, v)]
  | (n, y) :: r => if n = f then (n, v) :: r else (n, y) :: putA f v r
theorem putA_lt {α : Type} {f : Str} {v : α} {k : Nat} : ∀ {gs : List (Str × α)}, gs.length < k → (putA f v gs).length < k + 1
  | [], h => Nat.succ_lt_succ h
  | (n, y) :: r, h => by
    cases k with
    | zero => cases h
    | succ k =>
      have ih := putA_lt (f := f) (v := v) (gs := r) (k := k) (by simpa using h)
      unfold putA
      split
      · simp only [List.length_cons] at h ⊢
        omega
      · simp only [List.length_cons]
        omega
theorem pd_putA {F : V → E → Prop} {f : Str} {v : V} {y : E} (h : F v y) : ∀ {fs : List (Str × V)} {gs : List (Str × E)}, Paired (fun p q => p.1 = q.1 ∧ F p.2 q.2) fs gs → Paired (fun p q => p.1 = q.1 ∧ F p.2 q.2) (putF f v fs) (putA f y gs)
  | _, _, .nil => .cons ⟨rfl, h⟩ .nil
  | (n, u) :: fs, (m, z) :: gs, .cons r t => by
    obtain rfl : n = m := r.1
    unfold putF putA
    by_cases c : n = f
    · subst c
      simp only [beq_self_eq_true, if_true]
      exact .cons ⟨rfl, h⟩ t
    · have c2 : (n == f) = false := by simpa using c
      have c3 : (f == n) = false := by simpa using Ne.symm c
      simp only [c, c2, c3, if_false, Bool.false_eq_true]
      exact .cons r (pd_putA h t)
section
variable {X : Cx} {o value : Expr} {ρ : Rho} {μ : Mu} {D : Out} {Q : E → Mu → Prop} {pos pos' p2 : Pos}
/-- o.f = value, o a cell -/
theorem tsp_seta {f : Str} (h : TEP X value ρ μ fun y μ1 => TEP X o ρ μ1 fun z μ2 => ∃ j C gs, z = .pt j ∧ μ2[j]? = some (some (.obj C gs)) ∧ Cls X.K C ∧ NoAttr X.K C f ∧ gs.length < 1000 ∧ D.nx ρ (μ2.set j (some (.obj C (putA f y gs)))))
    (hs : swapsWith value (some (.Attribute o f pos')) pos.line X.env = pure false := by rfl) : TSP X (.Assign [.Attribute o f pos'] value pos) ρ μ D := fun ad Hb H σ W N D' g => by
  refine ps_go (ps_fld pe_self pe_self hs) (h ad Hb H σ W N _ fun v y μ1 ad1 Hb1 H1 q1 s1 W1 r1 => q1 ad1 Hb1 H1 σ W1 (N.step s1) _ ?_)
  rintro w z μ2 ad2 Hb2 H2 ⟨j, C, gs, rfl, hj, hC, hn, hl, q⟩ s2 W2 ⟨a, ha, rfl⟩
  obtain ⟨_, dx, fs, hv, r⟩ := W2.off j a _ ha hj
  obtain ⟨W3, s3⟩ := W2.put (d := .obj C (putA f y gs)) (o := .ins C dx (putF f v fs)) ha hj ⟨_, _, upd_same, pd_putA (RepE.step s2 r1) r⟩
  exact ⟨a, C, dx, fs, rfl, hv, hC, hn, by rw [r.length]; exact hl, g.nx _ _ _ _ _ _ q ((s1.trans s2).trans s3) W3 (N.step ((s1.trans s2).trans s3))⟩
theorem pd_lookE {F : V → E → Prop} {f : Str} {y : E} : ∀ {fs : List (Str × V)} {gs : List (Str × E)}, Paired (fun p q => p.1 = q.1 ∧ F p.2 q.2) fs gs → gs.lookup f = some y → ∃ v, fs.lookup f = some v ∧ F v y
  | _, _, .nil, h => nomatch h
  | (n, u) :: fs, (m, z) :: gs, .cons r t, h => by
    obtain rfl : n = m := r.1
    rw [List.lookup_cons] at h ⊢
    cases c : f == n with
    | true => rw [c] at h; cases h; exact ⟨u, rfl, r.2⟩
    | false => rw [c] at h; exact pd_lookE t h
theorem ev_attrC {j : Nat} {C : Addr} {gs : List (Str × E)} {f : Str} {y : E} (h : EV X o ρ μ (.pt j)) (hj : μ[j]? = some (some (.obj C gs))) (hC : Cls X.K C) (hn : NoAttr X.K C f) (hl : gs.lookup f = some y) (hb : attributeBase o f X.env (eval o X.env) = eval o X.env := by rfl) : EV X (.Attribute o f pos) ρ μ y := fun Q q ad Hb H σ W N Q' g => by
  refine pe_go (pe_fld pe_self hb) (h (fun y μ1 => y = .pt j ∧ μ1 = μ) ⟨rfl, rfl⟩ ad Hb H σ W N _ ?_)
  rintro v x μ1 ad1 Hb1 H1 ⟨rfl, rfl⟩ s1 W1 ⟨a, ha, rfl⟩
  obtain ⟨_, dx, fs, hv, r⟩ := W1.off j a _ ha hj
  obtain ⟨v, h1, h2⟩ := pd_lookE r hl
  exact ⟨a, C, dx, fs, v, rfl, hv, hC, hn, h1, g v y _ _ _ _ q s1 W1 h2⟩
end
/-! ### new instances -/
/-- __init__, called for a new instance, its arguments values: Pre, Post -/
def spMk (K : PySem.W.Frag) (C : Addr) (Pre : List P → Prop) (Post : List P → P → Prop) : Sp := fun vs H Q _ => ∃ (a dx : Addr) (ws : List V) (zs : List P) (H0 : Hp) (ad : List Addr) (Hb : Hp) (μ : Mu), vs = .ref a :: ws ∧ H0 a = none ∧ H0 dx = none ∧ dx ≠ a ∧ H = upd (upd H0 dx (.own a)) a (.ins C dx []) ∧ Wd K ad Hb H0 μ ∧ RepL K Hb ws zs ∧ Pre zs ∧
  ∀ (y : P) (Hb2 H2 : Hp), Post zs y → Step ad Hb H0 ad Hb2 H2 → Wd K ad Hb2 H2 μ → Rep K Hb2 (.ref a) y → Q .non H2
structure Mkr (Pg : Program) (w : World) (K : PySem.W.Frag) (mg : Str → Option Value) (base : Heap) (k : Nat) (x : Str) (C : Addr) (Pre : List P → Prop) (Post : List P → P → Prop) : Prop where
  ok : ∃ (f : Addr) (fd : FuncData) (ps : List Str), mg x = some (.ref C) ∧ Mk K C f ∧ Binds K fd ps [] ∧ FnG false Pg w K mg base k f fd ps (spMk K C Pre Post)
section
variable {P : Program} {w : World} {K : PySem.W.Frag} {mg : Str → Option Value} {base : Heap}
theorem mkr_of {x qual : Str} {st : Stmt} {C f : Addr} {fd : FuncData} {N ps : List Str} {k : Nat} {Pre : List PV.P → Prop} {Post : List PV.P → PV.P → Prop} (M : Mk K C f) (hm : mg x = some (.ref C)) (F : FnP K "__init__" qual st f fd) (Sc : FnScope N ps (defScope st)) (hb : BindsBy "__init__" qual st ps)
    (len : ∀ zs, Pre zs → zs.length + 1 = ps.length)
    (body : ∀ (cdv : Value) (A : Around) (outer : List PySem.Env) (s : Shared) (H : Hp) (E : XK), RoomG false k (A.deeper (envOfC qual (defScope st) s.heap.objs.size f cdv)) → ∀ zs, Pre zs →
      TSs (cxB P w K mg base N qual st f cdv A outer s H E) (defBody st) (startR N (.pt 0 :: zs.map .sh)) [some (.obj C [])] { nx := fun _ μ' => ∃ y, Post zs y ∧ Frz μ' (.pt 0) y, rt := fun _ _ => False }) : Mkr P w K mg base (k + 1) x C Pre Post := by
  refine ⟨f, fd, ps, hm, M, F.binds hb, fnG_of F Sc ?_ ?_⟩
  · rintro vs H Q E ⟨a, dx, ws, zs, H0, ad, Hb, μ, rfl, _, _, _, _, _, r, pre, _⟩
    rw [← len zs pre, List.length_cons, r.length]
  · rintro cdv A outer s H vs Q E hr ⟨a, dx, ws, zs, H0, ad, Hb, μ, rfl, ha, hd, ne, rfl, W, r, pre, fin⟩
    have hba : Hb a = none := W.base_none ha
    have hbd : Hb dx = none := W.base_none hd
    have W0 : Wd K [] Hb H0 [] := ⟨rfl, W.inc, fun j a c h => by simp at h, fun i j a c d h => by simp at h, fun a h => by simp at h⟩
    have W1 : Wd K [] Hb (upd H0 dx (.own a)) [] := W0.apart (by simp) hbd
    have h1a : (upd H0 dx (.own a)) a = none := (upd_ne (Ne.symm ne)).trans ha
    obtain ⟨W2, s2⟩ := W1.cell (c := .obj C []) (o := .ins C dx []) h1a ⟨dx, [], upd_same, .nil⟩
    have st0 : Step [] Hb H0 [] Hb (upd H0 dx (.own a)) := (Step.refl _ _ _).apart hd
    have N2 : Env K [a] Hb (L2.start N (.ref a :: ws)) (startR N (.pt 0 :: zs.map .sh)) := start_env (.cons ⟨a, rfl, rfl⟩ (repEs_of r))
    refine body cdv A outer s _ E hr zs pre [a] Hb _ _ W2 N2 _ ⟨fun σ' ρ' μ' ad' Hb' H' q s' W' N' => ?_, fun v z μ' ad' Hb' H' q => q.elim, fun _ _ _ _ _ _ z => z.elim, fun _ _ _ _ _ _ z => z.elim⟩
    obtain ⟨y, post, fz⟩ := q
    obtain ⟨Hb2, ex, W3, off, k2⟩ := freeze_all W'
    have s'' : Step [] Hb H0 ad' Hb' H' := (st0.trans s2).trans s'
    have s3 : Step [] Hb H0 [] Hb2 H' := ⟨s''.ex.trans ex, ⟨[], rfl⟩, fun _ z => .inl z, fun b o _ e => s''.fr b o (by simp) e, fun b o _ e t n => by
      rw [off b fun z => by
        rcases s''.new b z with z | z
        · simp at z
        · rw [e] at z; cases z]
      exact s''.fgn b o (by simp) e t n, s''.bs⟩
    obtain ⟨W4, s4⟩ := frame_back W s3 W3
    refine fin y Hb2 H' post s4 W4 (k2 _ _ _ ?_ fz)
    obtain ⟨l, e⟩ := s'.pre
    exact ⟨a, by rw [e]; rfl, rfl⟩
end
section
variable {X : Cx} {e : Expr} {es : List Expr} {ρ : Rho} {μ : Mu} {Q : E → Mu → Prop} {pos p2 : Pos} {k : Nat} {x : Str} {C : Addr} {Pre : List P → Prop} {Post : List P → P → Prop}
theorem tep_make (M : Mkr X.prog X.w X.K X.mg X.base k x C Pre Post) (hr : Room (k + 1) X.A) {zs : List P} (h : EAs X (e :: es) ρ μ zs) (pre : Pre zs) (q : ∀ y, Post zs y → Q (.sh y) μ) (hg : Gl X x := by rfl) (hdb : (x == ("__debug__" : Str)) = false := by decide)
    (he : starEach (e :: es) X.env = (false, eval e X.env) :: starEach es X.env := by rfl) (hpl : (backTo pos (starEach es X.env)).any (·.1) = false := by rfl) : TEP X (.Call (.Name x p2) (e :: es) [] pos) ρ μ Q := fun ad Hb H σ W N Q' g => by
  obtain ⟨f, fd, ps, hm, mk, hb, F⟩ := M.ok
  refine pe_go (pe_make (E := E0) mk F.plain hr hg hm hb .nil pass0 pa_self hdb he hpl) (h (fun ys μ1 => ys = zs.map .sh ∧ μ1 = μ) ⟨rfl, rfl⟩ ad Hb H σ W N _ ?_)
  rintro vs ys μ1 ad1 Hb1 H1 ⟨rfl, rfl⟩ s1 W1 r1 a dx ha hd ne
  rw [List.append_nil]
  exact ⟨a, dx, vs, zs, H1, ad1, Hb1, μ1, rfl, ha, hd, ne, rfl, W1, repEs_sh r1, pre, fun y Hb2 H2 post s2 W2 r2 => ⟨rfl, g _ (.sh y) _ _ _ _ (q y post) (s1.trans s2) W2 r2⟩⟩
end
/-! ### sorted, of tuples of small numbers -/
theorem perm_rep {α β : Type} {F : V → β → Prop} (f : α → β) {xs ys : List V} (h : xs.Perm ys) : ∀ {l : List α}, Paired F xs (l.map f) → ∃ l2 : List α, l2.Perm l ∧ Paired F ys (l2.map f) := by
  induction h with
  | nil =>
    intro l r
    cases l with
    | nil => exact ⟨[], .nil, .nil⟩
    | cons _ _ => cases r
  | cons x _ ih =>
    intro l r
    cases l with
    | nil => cases r
    | cons a l =>
      cases r with
      | cons r t =>
        obtain ⟨l2, h1, h2⟩ := ih t
        exact ⟨a :: l2, h1.cons a, .cons r h2⟩
  | swap x y l0 =>
    intro l r
    cases l with
    | nil => cases r
    | cons a l =>
      cases r with
      | cons r t =>
        cases l with
        | nil => cases t
        | cons b l =>
          cases t with
          | cons r2 t => exact ⟨b :: a :: l, .swap a b l, .cons r2 (.cons r t)⟩
  | trans _ _ ih1 ih2 =>
    intro l r
    obtain ⟨l2, h1, h2⟩ := ih1 r
    obtain ⟨l3, h3, h4⟩ := ih2 h2
    exact ⟨l3, h3.trans h1, h4⟩
section
variable {X : Cx} {e : Expr} {ρ : Rho} {μ : Mu} {Q : E → Mu → Prop} {pos p2 : Pos}
/-- sorted(e), e a list of tuples of d numbers below B: some order of them -/
theorem tep_sortT {α : Type} (l : List α) (f : α → List Int) (d : Nat) (Bn : Int) (hd : 1 ≤ d) (hm : X.mg "sorted" = none) (h : EV X e ρ μ (.sh (.lst (l.map fun a => .tup ((f a).map .int))))) (hl : l.length < 64) (hf : ∀ a ∈ l, (f a).length = d ∧ ∀ m ∈ f a, 0 ≤ m ∧ m < Bn)
    (q : ∀ l2 : List α, l2.Perm l → Q (.sh (.lst (l2.map fun a => .tup ((f a).map .int)))) μ) (hg : Gl X "sorted" := by rfl) (hs : starEach [e] X.env = (false, eval e X.env) :: starEach [] X.env := by rfl) : TEP X (.Call (.Name "sorted" p2) [e] [] pos) ρ μ Q :=
  tep_callB (cr_sortT (B := Bn) hd) hg hm bo_sorted (tap_consV h (tap_nil fun ad Hb H vs W r0 Q' g => by
    obtain ⟨v, rfl, r1⟩ := vals1 r0
    obtain ⟨a, ws, rfl, ha, r⟩ := Rep.lst_at r1
    have tupAt : ∀ v ∈ ws, ∃ x ∈ l, Rep X.K Hb v (.tup ((f x).map .int)) := fun v hv => by
      obtain ⟨i, hi⟩ := List.mem_iff_getElem?.mp hv
      obtain ⟨z, h1, h2⟩ := pd_right r i v hi
      rw [List.getElem?_map] at h1
      cases e : l[i]? with
      | none => rw [e] at h1; cases h1
      | some x =>
        rw [e] at h1
        cases h1
        exact ⟨x, List.mem_of_getElem? e, h2⟩
    refine ⟨a, ws, rfl, W.sqL (.inl (.inl ha)), by have := r.length; rw [List.length_map] at this; omega, fun v hv => ?_, fun ys p pm _ hp => ?_⟩
    · obtain ⟨x, hx, rv⟩ := tupAt v hv
      obtain ⟨t, us, rfl, ht, ru⟩ := Rep.tup_inv rv
      obtain rfl := rep_ints ru
      exact ⟨f x, ⟨t, rfl, .inl (.inl (W.tup ht))⟩, (hf x hx).1, (hf x hx).2⟩
    · obtain ⟨l2, h1, h2⟩ := perm_rep (fun a => P.tup ((f a).map .int)) pm.symm r
      obtain ⟨W2, s2⟩ := W.alloc (o := .lst ys) hp
      exact g _ (.sh (.lst _)) _ _ _ _ (q l2 h1) s2 W2 (Rep.lstL upd_same (RepL.mono s2.ex h2))) hs) (by decide) (by decide) hs rfl
end
end PV

/-! Defs that give None or a new list | dict, to be changed by the caller. -/
namespace PV
open PySem PySem.Spec PyProof.Rows L2
/-- nothing in it is a cell -/
def shC : Cell → Prop
  | .lst xs => ∃ ps : List P, xs = ps.map .sh
  | .dT kvs => ∃ ps : List (List Key × P), kvs = ps.map fun q => (q.1, .sh q.2)
  | _ => False
theorem pd_sh {K : PySem.W.Frag} {ad ad2 : List Addr} {Hb Hb2 : Hp} (ex : Ex Hb Hb2) {vs : List V} {ps : List P} (r : RepEs K ad Hb vs (ps.map .sh)) : RepEs K ad2 Hb2 vs (ps.map .sh) := repEs_of (RepL.mono ex (repEs_sh r))
theorem pd_sh2 {κ : Type} {K : PySem.W.Frag} {ad ad2 : List Addr} {Hb Hb2 : Hp} (ex : Ex Hb Hb2) : ∀ {vs : List (κ × V)} {ps : List (κ × P)}, Paired (fun p q => p.1 = q.1 ∧ RepE K ad Hb p.2 q.2) vs (ps.map fun q => (q.1, E.sh q.2)) → Paired (fun p q => p.1 = q.1 ∧ RepE K ad2 Hb2 p.2 q.2) vs (ps.map fun q => (q.1, E.sh q.2))
  | _, [], .nil => .nil
  | _, _ :: _, .cons r t => .cons ⟨r.1, Rep.mono ex r.2⟩ (pd_sh2 ex t)
theorem CellOk.sh {K : PySem.W.Frag} {ad ad2 : List Addr} {Hb Hb2 H : Hp} {a : Addr} {c : Cell} (h : CellOk K ad Hb H a c) (s : shC c) (ex : Ex Hb Hb2) : CellOk K ad2 Hb2 H a c := by
  cases c with
  | lst xs =>
    obtain ⟨ps, rfl⟩ := s
    obtain ⟨vs, e, r⟩ := h
    exact ⟨vs, e, pd_sh ex r⟩
  | dT kvs =>
    obtain ⟨ps, rfl⟩ := s
    obtain ⟨vs, e, r⟩ := h
    exact ⟨vs, e, pd_sh2 ex r⟩
  | _ => exact s.elim
/-- None, or a new cell -/
def SO (Fr : List P → Option Cell → Prop) : PSpec := fun xs μ Q => ∃ ps c, xs = ps.map .sh ∧ Fr ps c ∧ match c with
  | none => Q (.sh .non) μ
  | some c => Q (.pt μ.length) (μ ++ [some c])
/-- the same, what comes left open by Post -/
def SOi {ι : Type} (Pre : ι → List P → Prop) (Post : ι → Option Cell → Prop) : PSpec := fun xs μ Q => ∃ i ps, xs = ps.map .sh ∧ Pre i ps ∧ ∀ c, Post i c → match c with
  | none => Q (.sh .non) μ
  | some c => Q (.pt μ.length) (μ ++ [some c])
/-- a pure run's cell handed to the caller -/
theorem own_back {K : PySem.W.Frag} {ad ad2 : List Addr} {Hb H Hb2 H2 : Hp} {μ μ2 : Mu} {j : Nat} {a : Addr} {c : Cell} (W : Wd K ad Hb H μ) (s : Step [] Hb H ad2 Hb2 H2) (W2 : Wd K ad2 Hb2 H2 μ2) (ha : ad2[j]? = some a) (hj : μ2[j]? = some (some c)) (sh : shC c) :
    ∃ Hb3, Wd K (ad ++ [a]) Hb3 H2 (μ ++ [some c]) ∧ Step ad Hb H (ad ++ [a]) Hb3 H2 := by
  have hl : j < μ2.length := (List.getElem?_eq_some_iff.mp hj).1
  have sp : ∀ (i : Nat) (b : Addr) (d : Cell), ad2[i]? = some b → (μ2.set j none)[i]? = some (some d) → b ≠ a ∧ μ2[i]? = some (some d) := fun i b d hb hd => by
    by_cases e : j = i
    · subst e
      rw [List.getElem?_set_self hl] at hd
      cases hd
    · rw [List.getElem?_set_ne e] at hd
      refine ⟨fun z => ?_, hd⟩
      subst z
      exact e (W2.nd j i b c d ha hb hj hd)
  have W3 : Wd K ad2 Hb2 H2 (μ2.set j none) := ⟨by rw [List.length_set]; exact W2.len, W2.inc, fun i b d hb hd => W2.off i b d hb (sp i b d hb hd).2, fun i k b c d hi hk hc hd => W2.nd i k b c d hi hk (sp i b c hi hc).2 (sp k b d hk hd).2, W2.trk⟩
  obtain ⟨Hb3, ex, W4, off, _⟩ := freeze_off W3
  have na : Hb3 a = none := by
    rw [off a fun ⟨i, d, h1, h2⟩ => (sp i a d h1 h2).1 rfl]
    exact (W2.off j a c ha hj).1
  have hHa : H a = none := by
    rcases s.new a (List.mem_of_getElem? ha) with z | z
    · simp at z
    · exact z
  have s3 : Step [] Hb H [] Hb3 H2 := ⟨s.ex.trans ex, ⟨[], rfl⟩, fun _ z => .inl z, fun b o _ e => s.fr b o (by simp) e, fun b o _ e t n => by
    rw [off b fun ⟨i, d, h1, _⟩ => by
      rcases s.new b (List.mem_of_getElem? h1) with z | z
      · simp at z
      · rw [e] at z; cases z]
    exact s.fgn b o (by simp) e t n, s.bs⟩
  obtain ⟨W5, s5⟩ := frame_back W s3 W4
  have nad : a ∉ ad := fun z => W.trk a z hHa
  obtain ⟨W6, s6⟩ := W5.adoptC s5 hHa nad na ((W2.off j a c ha hj).2.sh sh ex)
  exact ⟨Hb3, W6, s6⟩
section
variable {P : Program} {w : World} {K : PySem.W.Frag} {mg : Str → Option Value} {base : Heap}
theorem ct_own {g : Bool} {x qual : Str} {st : Stmt} {f : Addr} {fd : FuncData} {N ps : List Str} {k : Nat} {Fr : List PV.P → Option Cell → Prop} (F : FnP K x qual st f fd) (hm : mg x = some (.ref f)) (Sc : FnScope N ps (defScope st)) (hb : BindsBy x qual st ps)
    (len : ∀ zs c, Fr zs c → zs.length = ps.length)
    (body : ∀ (cdv : Value) (A : Around) (outer : List PySem.Env) (s : Shared) (H : Hp) (E : XK), RoomG g k (A.deeper (envOfC qual (defScope st) s.heap.objs.size f cdv)) → ∀ zs c, Fr zs c →
      TSs (cxB P w K mg base N qual st f cdv A outer s H E) (defBody st) (startR N (zs.map .sh)) [] { nx := fun _ _ => c = none, rt := fun z μ' => (c = none ∧ z = .sh .non) ∨ ∃ j d, c = some d ∧ z = .pt j ∧ μ'[j]? = some (some d) ∧ shC d }) : Ct g P w K mg base (k + 1) x (SO Fr) := by
  refine ⟨f, fd, ps, hm, F.kp, F.binds hb, fnG_of F Sc (fun vs H Q E ⟨ad, Hb, μ, xs, Q0, W, r, ⟨zs, c, e, hF, _⟩, _⟩ => ?_) fun cdv A outer s H vs Q E hr ⟨ad, Hb, μ, xs, Q0, W, r, ⟨zs, c, e, hF, q⟩, g⟩ => ?_⟩
  · subst e
    rw [r.length, List.length_map]
    exact len _ _ hF
  · subst e
    have W0 : Wd K [] Hb H [] := ⟨rfl, W.inc, fun j a c h => by simp at h, fun i j a c d h => by simp at h, fun a h => by simp at h⟩
    have none_ : ∀ (μ' : Mu) (ad' : List Addr) (Hb' H' : Hp), c = none → Step [] Hb H ad' Hb' H' → Wd K ad' Hb' H' μ' → Q .non H' := fun μ' ad' Hb' H' hc s' W' => by
      subst hc
      obtain ⟨Hb2, ex, W2, off, k2⟩ := freeze_all W'
      have s2 : Step [] Hb H [] Hb2 H' := ⟨s'.ex.trans ex, ⟨[], rfl⟩, fun _ z => .inl z, fun a o _ e => s'.fr a o (by simp) e, fun a o _ e t n => by
        rw [off a fun z => by
          rcases s'.new a z with z | z
          · simp at z
          · rw [e] at z; cases z]
        exact s'.fgn a o (by simp) e t n, s'.bs⟩
      obtain ⟨W3, s3⟩ := frame_back W s2 W2
      exact g .non (.sh .non) μ ad Hb2 H' q s3 W3 .non
    refine body cdv A outer s H E hr zs c hF [] Hb H _ W0 (start_env (repEs_of (repEs_sh r))) _ ⟨fun σ' ρ' μ' ad' Hb' H' q1 s1 W1 N1 => none_ μ' ad' Hb' H' q1 s1 W1, fun v z μ' ad' Hb' H' q1 s1 W1 r1 => ?_, fun _ _ _ _ _ _ z => z.elim, fun _ _ _ _ _ _ z => z.elim⟩
    rcases q1 with ⟨hc, rfl⟩ | ⟨j, d, hc, rfl, hj, sh⟩
    · obtain rfl := Rep.non_inv r1
      exact none_ μ' ad' Hb' H' hc s1 W1
    · subst hc
      obtain ⟨a, ha, rfl⟩ := r1
      obtain ⟨Hb3, W3, s3⟩ := own_back W s1 W1 ha hj sh
      exact g _ (.pt μ.length) _ _ _ _ q s3 W3 ⟨a, by rw [← W.len]; simp, rfl⟩
theorem ct_ownI {ι : Type} {g : Bool} {x qual : Str} {st : Stmt} {f : Addr} {fd : FuncData} {N ps : List Str} {k : Nat} {Pre : ι → List PV.P → Prop} {Post : ι → Option Cell → Prop} (F : FnP K x qual st f fd) (hm : mg x = some (.ref f)) (Sc : FnScope N ps (defScope st)) (hb : BindsBy x qual st ps)
    (len : ∀ i zs, Pre i zs → zs.length = ps.length)
    (body : ∀ (cdv : Value) (A : Around) (outer : List PySem.Env) (s : Shared) (H : Hp) (E : XK), RoomG g k (A.deeper (envOfC qual (defScope st) s.heap.objs.size f cdv)) → ∀ i zs, Pre i zs →
      TSs (cxB P w K mg base N qual st f cdv A outer s H E) (defBody st) (startR N (zs.map .sh)) [] { nx := fun _ _ => Post i none, rt := fun z μ' => (Post i none ∧ z = .sh .non) ∨ ∃ j d, Post i (some d) ∧ z = .pt j ∧ μ'[j]? = some (some d) ∧ shC d }) : Ct g P w K mg base (k + 1) x (SOi Pre Post) := by
  refine ⟨f, fd, ps, hm, F.kp, F.binds hb, fnG_of F Sc (fun vs H Q E ⟨ad, Hb, μ, xs, Q0, W, r, ⟨i, zs, e, hF, _⟩, _⟩ => ?_) fun cdv A outer s H vs Q E hr ⟨ad, Hb, μ, xs, Q0, W, r, ⟨i, zs, e, hF, q⟩, g⟩ => ?_⟩
  · subst e
    rw [r.length, List.length_map]
    exact len _ _ hF
  · subst e
    have W0 : Wd K [] Hb H [] := ⟨rfl, W.inc, fun j a c h => by simp at h, fun i j a c d h => by simp at h, fun a h => by simp at h⟩
    have none_ : ∀ (μ' : Mu) (ad' : List Addr) (Hb' H' : Hp), Post i none → Step [] Hb H ad' Hb' H' → Wd K ad' Hb' H' μ' → Q .non H' := fun μ' ad' Hb' H' hc s' W' => by
      obtain ⟨Hb2, ex, W2, off, k2⟩ := freeze_all W'
      have s2 : Step [] Hb H [] Hb2 H' := ⟨s'.ex.trans ex, ⟨[], rfl⟩, fun _ z => .inl z, fun a o _ e => s'.fr a o (by simp) e, fun a o _ e t n => by
        rw [off a fun z => by
          rcases s'.new a z with z | z
          · simp at z
          · rw [e] at z; cases z]
        exact s'.fgn a o (by simp) e t n, s'.bs⟩
      obtain ⟨W3, s3⟩ := frame_back W s2 W2
      exact g .non (.sh .non) μ ad Hb2 H' (q none hc) s3 W3 .non
    refine body cdv A outer s H E hr i zs hF [] Hb H _ W0 (start_env (repEs_of (repEs_sh r))) _ ⟨fun σ' ρ' μ' ad' Hb' H' q1 s1 W1 N1 => none_ μ' ad' Hb' H' q1 s1 W1, fun v z μ' ad' Hb' H' q1 s1 W1 r1 => ?_, fun _ _ _ _ _ _ z => z.elim, fun _ _ _ _ _ _ z => z.elim⟩
    rcases q1 with ⟨hc, rfl⟩ | ⟨j, d, hc, rfl, hj, sh⟩
    · obtain rfl := Rep.non_inv r1
      exact none_ μ' ad' Hb' H' hc s1 W1
    · obtain ⟨a, ha, rfl⟩ := r1
      obtain ⟨Hb3, W3, s3⟩ := own_back W s1 W1 ha hj sh
      exact g _ (.pt μ.length) _ _ _ _ (q (some d) hc) s3 W3 ⟨a, by rw [← W.len]; simp, rfl⟩
end
section
variable {X : Cx} {e : Expr} {es : List Expr} {ρ : Rho} {μ : Mu} {Q : E → Mu → Prop} {pos p2 : Pos} {k : Nat} {x : Str} {Fr : List P → Option Cell → Prop}
theorem tep_callO {g : Bool} (c : Ct g X.prog X.w X.K X.mg X.base k x (SO Fr)) (hr : RoomG g k X.A) {zs : List P} {d : Option Cell} (h : EAs X (e :: es) ρ μ zs) (hF : Fr zs d) (h0 : d = none → Q (.sh .non) μ) (h1 : ∀ c, d = some c → Q (.pt μ.length) (μ ++ [some c])) (hg : Gl X x := by rfl) (hdb : (x == ("__debug__" : Str)) = false := by decide)
    (he : starEach (e :: es) X.env = (false, eval e X.env) :: starEach es X.env := by rfl) (hpl : (backTo pos (starEach es X.env)).any (·.1) = false := by rfl) : TEP X (.Call (.Name x p2) (e :: es) [] pos) ρ μ Q := tep_call c hr (h _ ⟨zs, d, rfl, hF, by
  cases d with
  | none => exact h0 rfl
  | some c => exact h1 c rfl⟩) hg hdb he hpl
theorem tep_callI {ι : Type} {Pre : ι → List P → Prop} {Post : ι → Option Cell → Prop} {g : Bool} (c : Ct g X.prog X.w X.K X.mg X.base k x (SOi Pre Post)) (hr : RoomG g k X.A) (i : ι) {zs : List P} (h : EAs X (e :: es) ρ μ zs) (hF : Pre i zs) (h0 : Post i none → Q (.sh .non) μ) (h1 : ∀ c, Post i (some c) → Q (.pt μ.length) (μ ++ [some c])) (hg : Gl X x := by rfl) (hdb : (x == ("__debug__" : Str)) = false := by decide)
    (he : starEach (e :: es) X.env = (false, eval e X.env) :: starEach es X.env := by rfl) (hpl : (backTo pos (starEach es X.env)).any (·.1) = false := by rfl) : TEP X (.Call (.Name x p2) (e :: es) [] pos) ρ μ Q := tep_call c hr (h _ ⟨i, zs, rfl, hF, fun d hd => by
  cases d with
  | none => exact h0 hd
  | some c => exact h1 c hd⟩) hg hdb he hpl
end
end PV

/-! Dicts of tuple keys walked: keys, values. -/
namespace PV
open PySem PySem.Spec PyProof.Rows L2
/-- a locked dict of tuple keys, raw -/
theorem frzV {X : Cx} {pins : List (Addr × Obj)} {σ : L2.St} {H : Hp} {s : Shared} {d : Addr} {o : Obj} {kvs : List (List Key × V)} (I : Inv X pins σ H s) (h : H d = some (.frz o (.dT kvs))) :
    (d == sysModules) = false ∧ ∃ es ep, s.heap.DictRaw d es ep ∧ o.data = .dict es ep ∧ es.size = kvs.length ∧ ∀ (i : Nat) k v, kvs[i]? = some (k, v) → ∃ (en : DictEntry) (q : Addr), es[i]? = some en ∧ en.key = .ref q ∧ H q = some (.tup (k.map kV)) ∧ RelV v en.val := by
  obtain ⟨hd, z, hs, xs, pr, o', es, ep, ho, hx, hdt, he, _⟩ := I.hok d _ h
  obtain rfl : o' = o := Option.some.inj (ho.symm.trans hd)
  have l1 : es.size = xs.length := size_of_entries he
  have l2 : kvs.length = xs.length := Paired.length pr
  refine ⟨hs, es, ep, ⟨o', hd, hx, hdt⟩, hdt, by omega, fun i k v e => ?_⟩
  obtain ⟨b, hb, e1, e2, e3⟩ := paired_get pr e
  have q := entry_at he i
  rw [hb] at q
  exact ⟨_, b.2.1, q, rfl, e2, e3⟩
/-- the values of the locked dict at d -/
def ItV (d : Addr) (o : Obj) (kvs : List (List Key × V)) : It where
  go := fun i H => H d = some (.frz o (.dT kvs)) ∧ i < kvs.length
  yld := fun i H x H2 => H2 = H ∧ ∃ k, kvs[i]? = some (k, x)
  stop := fun i H => H d = some (.frz o (.dT kvs)) ∧ kvs.length ≤ i
theorem turn_valsT {P : Program} {w : World} {K : PySem.W.Frag} {tg : Expr} {d : Addr} {o : Obj} {es : Array DictEntry} {ep : Nat} {kvs : List (List Key × V)} (it : Addr) (hod : o.data = .dict es ep) : Turn P w K tg (ItV d o kvs) [it] it (fun i h => h.IsValIter it d i kvs.length ep) where
  mem := by simp
  obj := fun i h st b hb => by
    rw [List.mem_singleton.mp hb]
    obtain ⟨oi, e, c, dd⟩ := st
    exact ⟨oi, e, fun v z => by rw [dd] at z; cases z⟩
  keep := fun i h h' st k => by
    obtain ⟨oi, e, r⟩ := st
    exact ⟨oi, k it (by simp) oi e, r⟩
  item := by
    intro X hP hw hK hc i pins s σ H E I hf st hg
    subst hP hw hK
    obtain ⟨hd, hi⟩ := hg
    obtain ⟨f0, f1, f2, f3, f4, f5⟩ := hf it (by simp)
    obtain ⟨hs, es2, ep2, hr, hdt, hsz, ent⟩ := frzV I hd
    obtain ⟨rfl, rfl⟩ := dict_ep hod hdt
    obtain ⟨⟨k, v⟩, hkv⟩ : ∃ p, kvs[i]? = some p := ⟨kvs[i], List.getElem?_eq_getElem hi⟩
    obtain ⟨en, q, hen, _, _, rv⟩ := ent i k v hkv
    have hi2 : i < es2.size := by omega
    rw [Array.getElem?_eq_getElem hi2] at hen
    cases hen
    rw [← hsz] at st
    refine wpAny_pyNext_values_item_raw st hr hi2 fun h' st' sb => ?_
    have I1 : Inv X pins σ H { s with heap := h' } := I.turned (t' := s.toks) (fun b ob hb e => (sb.2 b hb).trans e) f0 f1 f3 f4 f5
    rw [hsz] at st'
    obtain ⟨oi, e, c, dd⟩ := id st'
    exact ⟨_, rfl, go_of (s := { s with heap := h' }) e c dd (by decide) ⟨v, H, I1, rv, ⟨rfl, k, hkv⟩, st', fun b hb => (hf b hb).1⟩⟩
  done := by
    intro X hP hw hK hc i pins s σ H E I hf st hg
    subst hP hw hK
    obtain ⟨hd, hi⟩ := hg
    obtain ⟨f0, f1, f2, f3, f4, f5⟩ := hf it (by simp)
    obtain ⟨hs, es2, ep2, hr, hdt, hsz, ent⟩ := frzV I hd
    obtain ⟨rfl, rfl⟩ := dict_ep hod hdt
    rw [← hsz] at st
    exact wpAny_pyNext_values_end_raw (I.ok.hd hc) st hr (by omega) fun h' eb => ⟨rfl, I.turned (t' := s.toks) (fun b ob hb e => eb b ob hb e) f0 f1 f3 f4 f5⟩
  self := fun A i s Q E st h => wpAny_pyIter_valiter st h
/-- the thing at d locked, from here on -/
def LkT (R : Addr → Obj → List (List Key × V) → Hp → Prop) : V → Hp → Prop := fun x H => ∃ d kvs, x = .ref d ∧ ((∃ o, H d = some (.frz o (.dT kvs)) ∧ R d o kvs H) ∨ (H d = some (.dT kvs) ∧ ∀ o, R d o kvs (upd H d (.frz o (.dT kvs)))))
theorem lkT_go {X : Cx} {pins : List (Addr × Obj)} {σ : L2.St} {H : Hp} {s : Shared} {x : V} {R : Addr → Obj → List (List Key × V) → Hp → Prop} (I : Inv X pins σ H s) (h : LkT R x H) : ∃ d o kvs H2, x = .ref d ∧ Inv X pins σ H2 s ∧ H2 d = some (.frz o (.dT kvs)) ∧ R d o kvs H2 := by
  obtain ⟨d, kvs, rfl, ⟨o, hd, q⟩ | ⟨hd, q⟩⟩ := h
  · exact ⟨d, o, kvs, H, rfl, I, hd, q⟩
  · obtain ⟨o, I2⟩ := I.lock hd trivial
    exact ⟨d, o, kvs, _, rfl, I2, upd_same, q o⟩
section
variable {X : Cx} {tg e : Expr} {td : TE} {apos cpos : Pos}
theorem pi_keysL (he : PE X e td) : PI X tg e (fun σ H R => td σ H (LkT fun d o kvs H2 => R (Itkt d o kvs) H2)) := .mk fun pins s σ H R I h => by
  refine thn (he.run pins s σ H _ I h) ?_
  rintro u s1 ⟨x, H1, I1, rx, q⟩
  obtain ⟨d, o, kvs, H2, rfl, I2, hd, q⟩ := lkT_go I1 q
  obtain rfl : u = .ref d := rx
  obtain ⟨hs, hgd, hx, es, ep, hdt, hsz, ent⟩ := I2.frzT hd
  refine iter_keys hs hgd hx hdt (pi_one (tk := s1.toks) I2 _ (turn_keysT _ hdt) ⟨_, Heap.get?_push_size _ rfl, rfl, ?_⟩ q)
  rw [hsz] <;> rfl
theorem pi_valsL (he : PE X e td) (hbase : attributeBase e "values" X.env (eval e X.env) = eval e X.env) (hline : (apos.endLine == cpos.line) = true) : PI X tg (.Call (.Attribute e "values" apos) [] [] cpos) (fun σ H R => td σ H (LkT fun d o kvs H2 => R (ItV d o kvs) H2)) := .mk fun pins s σ H R I h => by
  refine wpAny_Call_method (T := "dict") (id := "dict.values") hbase rfl hline F.plainAttrs_dict F.slot_dict_values F.type_dict_values (thn (he.run pins s σ H _ I h) ?_)
  rintro u s1 ⟨x, H1, I1, rx, q⟩
  obtain ⟨d, o, kvs, H2, rfl, I2, hd, q⟩ := lkT_go I1 q
  obtain rfl : u = .ref d := rx
  obtain ⟨hs, es, ep, hr, hdt, hsz, ent⟩ := frzV I2 hd
  refine ⟨hr.typeIs, ?_, ?_⟩
  · rintro a z
    cases z
    obtain ⟨ob, h1, h2, _⟩ := hr
    exact ⟨ob, h1, h2.2.1⟩
  have I3 : Inv X pins σ H2 { s1 with heap := s1.heap.push ⟨.type "dict_values", none, .fields #[.ref d], #[]⟩ } := I2.kept (t' := s1.toks) fun b ob z => Heap.get?_push_of_some _ z
  have fin : wpAny (model X.prog X.w) X.A (pyIter (.ref s1.heap.objs.size)) (PIE X pins σ tg R) X.xe { s1 with heap := s1.heap.push ⟨.type "dict_values", none, .fields #[.ref d], #[]⟩ } := by
    refine wpAny_pyIter_values_raw (d := d) ⟨_, Heap.get?_push_size _ rfl, rfl, rfl⟩ (hr.at fun o z => Heap.get?_push_of_some _ z) (pi_one (tk := s1.toks) I3 _ (turn_valsT _ hdt) ⟨_, Heap.get?_push_size _ rfl, rfl, ?_⟩ q)
    rw [hsz] <;> rfl
  show wpAny _ _ (callWith cpos (.builtin "dict.values") [.ref d] [] []) _ X.xe s1
  exact method_meetsIn F.slot_dict_values F.entry_dict_values rfl (PySem.evalArgs_none ⟨rfl, hr.typeIs, F.args_dict_values_1 _, _, meets_dict_values_raw d hs, ⟨es, ep, hr⟩, fin⟩)
end
theorem Wd.lock {K : PySem.W.Frag} {ad : List Addr} {Hb H : Hp} {μ : Mu} (W : Wd K ad Hb H μ) {d : Addr} {ks : List (List Key × V)} (hb : Hb d = some (.dT ks)) (e : H d = some (.dT ks)) (o : Obj) : Wd K ad Hb (upd H d (.frz o (.dT ks))) μ ∧ Step ad Hb H ad Hb (upd H d (.frz o (.dT ks))) := by
  refine ⟨⟨W.len, fun a u h => ?_, fun j a c ha hc => ?_, W.nd, fun a ha => upd_trk (W.trk a ha)⟩, ⟨Ex.refl _, ⟨[], by simp⟩, fun _ z => .inl z, fun a u _ h => ?_, fun _ _ _ _ _ n => n, fun a u q _ h => ?_⟩⟩
  · by_cases c : a = d
    · subst c
      obtain rfl : HO.dT ks = u := Option.some.inj (hb.symm.trans h)
      exact .inr ⟨o, upd_same⟩
    · exact (W.inc a u h).keep (upd_ne c)
  · obtain ⟨h1, h2⟩ := W.off j a c ha hc
    have ne : a ≠ d := by
      rintro rfl
      rw [h1] at hb
      cases hb
    exact ⟨h1, h2.keep (upd_ne ne) fun _ _ r => r⟩
  · by_cases c : a = d
    · subst c
      obtain rfl : HO.dT ks = u := Option.some.inj (e.symm.trans h)
      exact .inr ⟨o, rfl, hb, upd_same⟩
    · exact .inl ((upd_ne c).trans h)
  · have ne : a ≠ d := by
      rintro rfl
      rw [e] at h
      cases h
    exact (upd_ne ne).trans h
/-- a shared dict of tuple keys, locked -/
theorem Wd.lkT {K : PySem.W.Frag} {ad : List Addr} {Hb H : Hp} {μ : Mu} (W : Wd K ad Hb H μ) {d : Addr} {ks : List (List Key × V)} (hb : Hb d = some (.dT ks)) {R : Addr → Obj → List (List Key × V) → Hp → Prop}
    (q : ∀ o H2, H2 d = some (.frz o (.dT ks)) → Step ad Hb H ad Hb H2 → Wd K ad Hb H2 μ → R d o ks H2) : LkT R (.ref d) H := by
  rcases W.inc d _ hb with z | ⟨o, z⟩
  · exact ⟨d, ks, rfl, .inr ⟨z, fun o => q o _ upd_same (W.lock hb z o).2 (W.lock hb z o).1⟩⟩
  · exact ⟨d, ks, rfl, .inl ⟨o, z, q o H z (Step.refl _ _ _) W⟩⟩
section
variable {X : Cx} {tg e : Expr} {ρ : Rho} {μ : Mu} {apos cpos : Pos} {kvs : List (List Key × P)}
theorem ei_keysT (h : EV X e ρ μ (.sh (.dT kvs))) : EI X tg e ρ μ (kvs.map fun q => .sh (.tup (q.1.map kP))) := fun R q ad Hb H σ W N R' g => by
  refine pi_go (pi_keysL pe_self) (h (fun y μ1 => y = .sh (.dT kvs) ∧ μ1 = μ) ⟨rfl, rfl⟩ ad Hb H σ W N _ ?_)
  rintro v x μ1 ad1 Hb1 H1 ⟨rfl, rfl⟩ s1 W1 r1
  obtain ⟨d, ks, rfl, hb, r⟩ := Rep.dT_inv r1
  have hl : ks.length = kvs.length := r.length
  refine W1.lkT hb fun o H2 hd s2 W2 => g _ _ (fun _ => True) _ _ _ _ q (s1.trans s2) W2 ⟨fun i ad3 Hb3 H3 μ3 hi s3 W3 _ => ?_, fun ad3 Hb3 H3 μ3 s3 W3 _ => ?_, fun i ad3 Hb3 H3 μ3 x H4 hi s3 W3 _ y => ?_⟩
  · exact ⟨s3.bs d _ o hb hd, by rw [List.length_map] at hi; omega⟩
  · exact ⟨s3.bs d _ o hb hd, by rw [List.length_map]; omega⟩
  · obtain ⟨rfl, k, v, p, hk, rfl, hp⟩ := y
    obtain ⟨Hb4, h4, W4, s4⟩ := W3.join hp
    obtain ⟨z, hz, hz2⟩ := pd_right r i _ hk
    refine ⟨Hb4, .sh (.tup (k.map kP)), s4, W4, ?_, Rep.tupL h4 ?_⟩
    · rw [List.getElem?_map, hz]
      have : z.1 = k := hz2.1.symm
      simp [this]
    · generalize k = l
      induction l with
      | nil => exact .nil
      | cons a l ih =>
        refine .cons ?_ ih
        cases a with
        | inl i => exact .int i
        | inr i => exact .str i
theorem ei_valsT (h : EV X e ρ μ (.sh (.dT kvs))) (hbase : attributeBase e "values" X.env (eval e X.env) = eval e X.env := by rfl) (hline : (apos.endLine == cpos.line) = true := by rfl) : EI X tg (.Call (.Attribute e "values" apos) [] [] cpos) ρ μ (kvs.map fun q => .sh q.2) := fun R q ad Hb H σ W N R' g => by
  refine pi_go (pi_valsL pe_self hbase hline) (h (fun y μ1 => y = .sh (.dT kvs) ∧ μ1 = μ) ⟨rfl, rfl⟩ ad Hb H σ W N _ ?_)
  rintro v x μ1 ad1 Hb1 H1 ⟨rfl, rfl⟩ s1 W1 r1
  obtain ⟨d, ks, rfl, hb, r⟩ := Rep.dT_inv r1
  have hl : ks.length = kvs.length := r.length
  refine W1.lkT hb fun o H2 hd s2 W2 => g _ _ (fun _ => True) _ _ _ _ q (s1.trans s2) W2 ⟨fun i ad3 Hb3 H3 μ3 hi s3 W3 _ => ?_, fun ad3 Hb3 H3 μ3 s3 W3 _ => ?_, fun i ad3 Hb3 H3 μ3 x H4 hi s3 W3 _ y => ?_⟩
  · exact ⟨s3.bs d _ o hb hd, by rw [List.length_map] at hi; omega⟩
  · exact ⟨s3.bs d _ o hb hd, by rw [List.length_map]; omega⟩
  · obtain ⟨rfl, k, hk⟩ := y
    obtain ⟨z, hz, hz2⟩ := pd_right r i _ hk
    refine ⟨Hb3, .sh z.2, Step.refl _ _ _, W3, ?_, Rep.mono (s2.ex.trans s3.ex) hz2.2⟩
    rw [List.getElem?_map, hz]
    rfl
/-- the same of a cell that stands still meanwhile: locked for as long as the expression runs -/
theorem tep_lock {j : Nat} {zs : List (List Key × E)} {Q : E → Mu → Prop} (hj : μ[j]? = some (some (.dT zs))) (h : ∀ o ks, TEP X e ρ (μ.set j (some (.lk o ks zs))) fun x μ1 => μ1[j]? = some (some (.lk o ks zs)) ∧ Q x (μ1.set j (some (.dT zs)))) : TEP X e ρ μ Q := fun ad Hb H σ W N Q' g => by
  have hl : j < ad.length := by rw [W.len]; exact (List.getElem?_eq_some_iff.mp hj).1
  obtain ⟨a, ha⟩ : ∃ a, ad[j]? = some a := ⟨_, List.getElem?_eq_getElem hl⟩
  obtain ⟨hb, ks, hv, r⟩ := W.off j a _ ha hj
  refine pe_go (pe_lock pe_self) ⟨a, _, hv, trivial, fun o => ?_⟩
  obtain ⟨W2, s2⟩ := W.put (d := .lk o ks zs) (o := .frz o (.dT ks)) ha hj ⟨upd_same, r⟩
  refine h o ks ad Hb _ σ W2 N _ fun v x μ1 ad1 Hb1 H1 ⟨h1, q⟩ s3 W3 r3 => ?_
  obtain ⟨hb1, hv1, r1⟩ := W3.off j a _ (s3.at_ ha) h1
  obtain ⟨W4, s4⟩ := W3.put (d := .dT zs) (o := .dT ks) (s3.at_ ha) h1 ⟨ks, upd_same, r1⟩
  exact ⟨hv1, g v x _ ad1 Hb1 _ q ((s2.trans s3).trans s4) W4 r3⟩
/-- a locked cell walked -/
theorem tip_lkKeys {j : Nat} {o : Obj} {ks : List (List Key × V)} {zs : List (List Key × E)} {R : List E → (Mu → Prop) → Mu → Prop} (h : EV X e ρ μ (.pt j)) (hj : μ[j]? = some (some (.lk o ks zs))) (q : R (zs.map fun q => .sh (.tup (q.1.map kP))) (fun μ2 => μ2[j]? = some (some (.lk o ks zs))) μ) : TIP X tg e ρ μ R := fun ad Hb H σ W N R' g => by
  refine pi_go (pi_keysL pe_self) (h (fun y μ1 => y = .pt j ∧ μ1 = μ) ⟨rfl, rfl⟩ ad Hb H σ W N _ ?_)
  rintro v x μ1 ad1 Hb1 H1 ⟨rfl, rfl⟩ s1 W1 ⟨a, ha, rfl⟩
  obtain ⟨_, hd, r⟩ := W1.off j a _ ha hj
  have hl : ks.length = zs.length := r.length
  refine ⟨a, ks, rfl, .inl ⟨o, hd, g _ _ (fun μ2 => μ2[j]? = some (some (.lk o ks zs))) _ _ _ _ q s1 W1 ⟨fun i ad3 Hb3 H3 μ3 hi s3 W3 G => ?_, fun ad3 Hb3 H3 μ3 s3 W3 G => ?_, fun i ad3 Hb3 H3 μ3 x H4 hi s3 W3 G y => ?_⟩⟩⟩
  · exact ⟨(W3.off j a _ (s3.at_ ha) G).2.1, by rw [List.length_map] at hi; omega⟩
  · exact ⟨(W3.off j a _ (s3.at_ ha) G).2.1, by rw [List.length_map]; omega⟩
  · obtain ⟨rfl, k, v, p, hk, rfl, hp⟩ := y
    obtain ⟨Hb4, h4, W4, s4⟩ := W3.join hp
    obtain ⟨z, hz, hz2⟩ := pd_right r i _ hk
    refine ⟨Hb4, .sh (.tup (k.map kP)), s4, W4, ?_, Rep.tupL h4 ?_⟩
    · rw [List.getElem?_map, hz]
      have : z.1 = k := hz2.1.symm
      simp [this]
    · generalize k = l
      induction l with
      | nil => exact .nil
      | cons a l ih =>
        refine .cons ?_ ih
        cases a with
        | inl i => exact .int i
        | inr i => exact .str i
theorem tip_lkVals {j : Nat} {o : Obj} {ks : List (List Key × V)} {zs : List (List Key × E)} {R : List E → (Mu → Prop) → Mu → Prop} (h : EV X e ρ μ (.pt j)) (hj : μ[j]? = some (some (.lk o ks zs))) (q : R (zs.map (·.2)) (fun μ2 => μ2[j]? = some (some (.lk o ks zs))) μ)
    (hbase : attributeBase e "values" X.env (eval e X.env) = eval e X.env := by rfl) (hline : (apos.endLine == cpos.line) = true := by rfl) : TIP X tg (.Call (.Attribute e "values" apos) [] [] cpos) ρ μ R := fun ad Hb H σ W N R' g => by
  refine pi_go (pi_valsL pe_self hbase hline) (h (fun y μ1 => y = .pt j ∧ μ1 = μ) ⟨rfl, rfl⟩ ad Hb H σ W N _ ?_)
  rintro v x μ1 ad1 Hb1 H1 ⟨rfl, rfl⟩ s1 W1 ⟨a, ha, rfl⟩
  obtain ⟨_, hd, r⟩ := W1.off j a _ ha hj
  have hl : ks.length = zs.length := r.length
  refine ⟨a, ks, rfl, .inl ⟨o, hd, g _ _ (fun μ2 => μ2[j]? = some (some (.lk o ks zs))) _ _ _ _ q s1 W1 ⟨fun i ad3 Hb3 H3 μ3 hi s3 W3 G => ?_, fun ad3 Hb3 H3 μ3 s3 W3 G => ?_, fun i ad3 Hb3 H3 μ3 x H4 hi s3 W3 G y => ?_⟩⟩⟩
  · exact ⟨(W3.off j a _ (s3.at_ ha) G).2.1, by rw [List.length_map] at hi; omega⟩
  · exact ⟨(W3.off j a _ (s3.at_ ha) G).2.1, by rw [List.length_map]; omega⟩
  · obtain ⟨rfl, k, hk⟩ := y
    obtain ⟨z, hz, hz2⟩ := pd_right r i _ hk
    exact ⟨Hb3, z.2, Step.refl _ _ _, W3, by rw [List.getElem?_map, hz]; rfl, RepE.step s3 hz2.2⟩
end
end PV

/-! sorted(d), list(d), .. of dicts of tuple keys. -/
namespace SrtO
open PySem PyProof.Rows Srt
theorem pv_sortedSrc {prog : Program} {w : World} {A : Around} {E : Value → Shared → Prop} {s : Shared} {T : String} {r d : Addr} {n : Nat} {P : Nat → Value → Prop} {OK : Heap → Prop} {k : Value → Int × Int} {Q : Value → Shared → Prop} (S : PySem.W.KdlSrc prog w T r d n P OK) (hh : A.handled = none) (ok : OK s.heap) (hn : n ≤ sizeLine)
    (hk : ∀ (i : Nat) v, P i v → IsPair s.heap v (k v).1 (k v).2)
    (h : ∀ (h1 h2 : Heap) (tk : Nat) (vs out : List Value) (c : Nat), vs.length = n → (∀ (j : Nat) v, vs[j]? = some v → P j v) → Srtd (fun v u => lexB (k v) (k u)) out → out.Perm vs → (∀ b o, s.heap.get? b = some o → h1.get? b = some o) → (∀ b o, h1.get? b = some o → h2.get? b = some o) → h2.get? h1.objs.size = some (seqObj "list" out.toArray c) → Q (.ref h1.objs.size) { s with heap := h2, toks := tk }) :
    wpAny (model prog w) A (call (.builtin "sorted") [.ref r]) Q E s := by
  refine Calls.call_function_entry kind_sorted plain_sorted entry_sorted (args_sorted1 _) ?_
  unfold Builtin.«sorted»
  refine wpAny_bind (m := checkCount "sorted" 1 1 _) (wpAny_pure ?_)
  refine wpAny_bind (PySem.W.kdu_collect (A := A.in1) S hh ok hn fun h1 tk acc keep it => ?_)
  have hl : acc.toList.length = n := by rw [Array.length_toList]; exact it.1
  have hz : acc.toList.length ≤ sizeLine := by rw [hl]; exact hn
  refine wpAny_bind (wpAny_newList ?_ hz)
  have items : ∀ (j : Nat) v, acc.toList[j]? = some v → P j v := fun j v e => it.2 j v (by rw [← Array.getElem?_toList]; exact e)
  have pairs : ∀ v ∈ acc.toList, IsPair s.heap v (k v).1 (k v).2 := fun v hv => by
    obtain ⟨j, hj⟩ := List.mem_iff_getElem?.mp hv
    exact hk j v (items j v hj)
  have hg : (h1.push (seqObj "list" acc.toList.toArray 0)).get? h1.objs.size = some (seqObj "list" acc.toList.toArray 0) := Heap.get?_push_size _ rfl
  have lo : ∀ b o, h1.get? b = some o → b ≠ h1.objs.size ∧ (h1.push (seqObj "list" acc.toList.toArray 0)).get? b = some o := fun b o e => ⟨Nat.ne_of_lt (Heap.lt_size e), Heap.get?_push_of_some _ e⟩
  refine wpAny_bind (wpAny_holding (wpAny_call_entry slot_list_sort ⟨_, hg, rfl⟩ entry_list_sort (list_sort_ord (s := { s with heap := h1.push (seqObj "list" acc.toList.toArray 0), toks := tk }) (swo_lex k) hg hz (fun h2 => ?_) fun out hs hb => ⟨_, rfl, ?_⟩) (args_list_sort _)))
  · refine pairs_sortableO (by omega) (fun v hv => (pairs v hv).keeps fun b o e _ => (lo b o (keep b o e)).2) fun o e c => ?_
    have e2 : some (seqObj "list" acc.toList.toArray 0) = some o := hg.symm.trans e
    cases e2
    exact absurd (Value.type.inj c) (by decide)
  · obtain ⟨c, hc⟩ := sortedHeap_at (out := out.toArray) hg
    refine wpAny_pure ⟨_, rfl, h h1 _ tk acc.toList out c hl items hs hb.perm keep (fun b o e => ?_) hc⟩
    rw [sortedHeap_old (lo b o e).1 (by rw [size_push']; exact Nat.lt_succ_of_lt (Heap.lt_size e))]
    exact (lo b o e).2
end SrtO

namespace PV
open PySem PySem.Spec PyProof.Rows L2
abbrev PR := Nat × Nat
def prK (p : PR) : List Key := [.inl (p.1 : Int), .inl (p.2 : Int)]
def prP (p : PR) : P := .tup [.int (p.1 : Int), .int (p.2 : Int)]
def prLe (p q : PR) : Prop := p.1 < q.1 ∨ (p.1 = q.1 ∧ p.2 ≤ q.2)
instance : DecidablePred fun p : PR × PR => prLe p.1 p.2 := fun p => by unfold prLe; infer_instance
def prB (p q : PR) : Bool := decide (p.1 < q.1 ∨ (p.1 = q.1 ∧ p.2 ≤ q.2))
theorem prB_iff {p q : PR} : prB p q = true ↔ prLe p q := by unfold prB prLe; exact decide_eq_true_iff
def sortP (l : List PR) : List PR := l.mergeSort prB
theorem sortP_perm (l : List PR) : (sortP l).Perm l := List.mergeSort_perm _ _
theorem sortP_sorted (l : List PR) : (sortP l).Pairwise prLe := by
  have h := List.pairwise_mergeSort (le := prB) (fun a b c h1 h2 => by
    have h1 := prB_iff.mp h1
    have h2 := prB_iff.mp h2
    refine prB_iff.mpr ?_
    unfold prLe at *
    omega) (fun a b => by
    cases h : prB a b with
    | true => rfl
    | false =>
      have h : ¬ prLe a b := fun z => by rw [prB_iff.mpr z] at h; cases h
      have : prLe b a := by
        unfold prLe at *
        omega
      rw [prB_iff.mpr this]
      rfl) l
  exact h.imp fun h => prB_iff.mp h
theorem pr_uniq : ∀ {l m : List PR}, l.Perm m → l.Pairwise prLe → m.Pairwise prLe → l = m
  | [], m, h, _, _ => (List.Perm.eq_nil h.symm).symm
  | x :: l, [], h, _, _ => absurd h.length_eq (by simp)
  | x :: l, y :: m, h, hl, hm => by
    have le : ∀ {a : PR} {r : List PR}, (a :: r).Pairwise prLe → ∀ b ∈ a :: r, prLe a b := fun {a r} hp b hb => by
      rcases List.mem_cons.mp hb with e | e
      · rw [e]; exact .inr ⟨rfl, Nat.le_refl _⟩
      · exact (List.pairwise_cons.mp hp).1 b e
    have h1 := le hl y (h.mem_iff.mpr (List.mem_cons_self ..))
    have h2 := le hm x (h.mem_iff.mp (List.mem_cons_self ..))
    have e : x = y := by
      unfold prLe at h1 h2
      exact Prod.ext (by omega) (by omega)
    subst e
    rw [pr_uniq h.cons_inv (List.pairwise_cons.mp hl).2 (List.pairwise_cons.mp hm).2]
/-- the pair of numbers that a tuple of the heap is -/
def kOf (H : Hp) : Value → Int × Int
  | .ref a => match H a with
    | some (.tup [.int i, .int j]) => (i, j)
    | _ => (0, 0)
  | _ => (0, 0)
def adV : Value → Addr
  | .ref a => a
  | _ => 0
def gOf (H : Hp) (u : Value) : PR := ((kOf H u).1.toNat, (kOf H u).2.toNat)
/-- sorted(d), its keys pairs of numbers -/
def rSortD : List V → Hp → VK → Prop := fun xs H Q => ∃ (d : Addr) (kvs : List (List Key × V)) (ps : List PR), xs = [.ref d] ∧ Rd H d (.dT kvs) ∧ kvs.map (·.1) = ps.map prK ∧
  ∀ (bs : List Addr) (p : Addr), Paired (fun b (q : PR) => H b = some (.tup [.int (q.1 : Int), .int (q.2 : Int)])) bs (sortP ps) → H p = none → Q (.ref p) (upd H p (.lst (bs.map .ref)))
theorem cr_sortedD {X : Cx} (hc : X.calm = true) : CallR X (.builtin "sorted") rSortD := by
  intro pins s σ H xs us Q I r h
  obtain ⟨d, kvs, ps, rfl, hd, hps, q⟩ := h
  obtain ⟨u, rfl, rx⟩ := r.one
  cases rx
  obtain ⟨z, hs, ks, pr, o, es, ep, ho, hx, hdt, he, hn⟩ := (show ObjOk X.prog X.w H s.heap d (.dT kvs) from hd.ok I.hok)
  have l1 : es.size = ks.length := size_of_entries he
  have l2 : kvs.length = ks.length := Paired.length pr
  -- a key's tuple
  have keyAt : ∀ (i : Nat) (b : List Key × Addr × Value), ks[i]? = some b → ∃ p : PR, ps[i]? = some p ∧ H b.2.1 = some (.tup [.int (p.1 : Int), .int (p.2 : Int)]) := fun i b hb => by
    have hi : i < kvs.length := by have := (List.getElem?_eq_some_iff.mp hb).1; omega
    obtain ⟨b2, hb2, e1, e2, _⟩ := paired_get pr (List.getElem?_eq_getElem hi)
    obtain rfl : b2 = b := Option.some.inj (hb2.symm.trans hb)
    have h1 := congrArg (·[i]?) hps
    simp only [List.getElem?_map, List.getElem?_eq_getElem hi, Option.map_some] at h1
    cases hp : ps[i]? with
    | none => rw [hp] at h1; cases h1
    | some p =>
      rw [hp] at h1
      have h2 : (kvs[i]).1 = prK p := Option.some.inj h1
      refine ⟨p, rfl, ?_⟩
      rw [e2, h2]
      rfl
  have valAt : ∀ (i : Nat) (v : Value), (∃ hi : i < es.size, v = es[i].key) → ∃ (p : PR) (a : Addr), ps[i]? = some p ∧ v = .ref a ∧ H a = some (.tup [.int (p.1 : Int), .int (p.2 : Int)]) := fun i v ⟨hi, e⟩ => by
    have qe := entry_at he i
    rw [Array.getElem?_eq_getElem hi] at qe
    cases hb : ks[i]? with
    | none => rw [hb] at qe; cases qe
    | some b =>
      rw [hb] at qe
      obtain ⟨p, h1, h2⟩ := keyAt i b hb
      refine ⟨p, b.2.1, h1, ?_, h2⟩
      rw [e, Option.some.inj qe]
      rfl
  have pairAt : ∀ (i : Nat) (v : Value), (∃ hi : i < es.size, v = es[i].key) → Srt.IsPair s.heap v (kOf H v).1 (kOf H v).2 := fun i v hv => by
    obtain ⟨p, a, _, rfl, ha⟩ := valAt i v hv
    obtain ⟨_, its, rv, o2, ho2, hc2, n2, hd2⟩ := I.hok _ _ ha
    obtain ⟨u1, u2, rfl, ⟨t1, rfl⟩, ⟨t2, rfl⟩⟩ := vals2 rv
    have ek : kOf H (.ref a) = ((p.1 : Int), (p.2 : Int)) := by
      simp only [kOf, ha]
    rw [ek]
    exact ⟨a, o2, t1, t2, n2, rfl, ho2, hc2, hd2⟩
  refine SrtO.pv_sortedSrc (k := kOf H) (PySem.KdlSrc.rawDict (es := es) (ep := ep) hs) (I.ok.hd hc) ⟨o, ho, hx, hdt⟩ (by rw [l1, ← l2]; exact z) pairAt fun h1 h2 tk vs out c lv iv srt pm k1 k2 hg => ?_
  have memAt : ∀ v ∈ vs, ∃ (p : PR) (a : Addr), p ∈ ps ∧ v = .ref a ∧ H a = some (.tup [.int (p.1 : Int), .int (p.2 : Int)]) := fun v hv => by
    obtain ⟨j, hj⟩ := List.mem_iff_getElem?.mp hv
    obtain ⟨p, a, h3, h4, h5⟩ := valAt j v (iv j v hj)
    exact ⟨p, a, List.mem_of_getElem? h3, h4, h5⟩
  have gv : ∀ {v : Value} {p : PR} {a : Addr}, v = .ref a → H a = some (.tup [.int (p.1 : Int), .int (p.2 : Int)]) → kOf H v = ((p.1 : Int), (p.2 : Int)) ∧ gOf H v = p := fun {v p a} e1 e2 => by
    subst e1
    have ek : kOf H (.ref a) = ((p.1 : Int), (p.2 : Int)) := by
      simp only [kOf, e2]
    refine ⟨ek, ?_⟩
    unfold gOf
    rw [ek]
    rfl
  have evs : vs.map (gOf H) = ps := by
    refine List.ext_getElem? fun j => ?_
    rw [List.getElem?_map]
    cases hj : vs[j]? with
    | none =>
      have h3 := List.getElem?_eq_none_iff.mp hj
      have h4 := congrArg List.length hps
      rw [List.length_map, List.length_map] at h4
      rw [List.getElem?_eq_none (by omega)]
      rfl
    | some v =>
      obtain ⟨p, a, h3, h4, h5⟩ := valAt j v (iv j v hj)
      rw [h3]
      exact congrArg some (gv h4 h5).2
  have eout : out.map (gOf H) = sortP ps := by
    refine pr_uniq ?_ ?_ (sortP_sorted ps)
    · refine ((pm.map (gOf H)).trans ?_).trans (sortP_perm ps).symm
      rw [evs]
    · refine List.pairwise_map.mpr (srt.imp_of_mem fun {a b} ha hb hab => ?_)
      obtain ⟨p, x, _, h3, h4⟩ := memAt a (pm.mem_iff.mp ha)
      obtain ⟨p2, x2, _, h5, h6⟩ := memAt b (pm.mem_iff.mp hb)
      have e1 := gv h3 h4
      have e2 := gv h5 h6
      have hno := SrtO.lexB_no.mp hab
      rw [e1.1, e2.1] at hno
      rw [e1.2, e2.2]
      unfold prLe
      simp only at hno
      omega
  have I1 : Inv X pins σ H { s with heap := h1 } := I.kept (t' := s.toks) k1
  have isref : ∀ v ∈ out, ∃ a, v = Value.ref a := fun v hv => by
    obtain ⟨p, a, _, h3, _⟩ := memAt v (pm.mem_iff.mp hv)
    exact ⟨a, h3⟩
  have eb : (out.map adV).map V.ref = out.map fun v => V.ref (adV v) := by
    rw [List.map_map]
    rfl
  have vals : Vals ((out.map adV).map V.ref) out := by
    rw [eb]
    clear eb eout pm srt hg q
    induction out with
    | nil => exact .nil
    | cons v out ih =>
      obtain ⟨a, rfl⟩ := isref v (List.mem_cons_self ..)
      exact .cons rfl (ih fun v hv => isref v (List.mem_cons_of_mem _ hv))
  have hlen : ((out.map adV).map V.ref).length ≤ sizeLine := by
    rw [List.length_map, List.length_map, pm.length_eq, lv, l1, ← l2]
    exact z
  refine ⟨.ref h1.objs.size, upd H h1.objs.size (.lst ((out.map adV).map V.ref)), I1.laid (t' := tk) k2 (Nat.le_refl _) ⟨hlen, out, c, vals, hg⟩, rfl, q _ _ ?_ (I1.hok.fresh (Nat.le_refl _))⟩
  rw [← eout]
  have all : ∀ v ∈ out, H (adV v) = some (.tup [.int ((gOf H v).1 : Int), .int ((gOf H v).2 : Int)]) := fun v hv => by
    obtain ⟨p, a, _, h3, h4⟩ := memAt v (pm.mem_iff.mp hv)
    rw [(gv h3 h4).2, h3]
    exact h4
  clear eout eb vals hlen isref pm srt hg q
  induction out with
  | nil => exact .nil
  | cons v out ih => exact .cons (all v (List.mem_cons_self ..)) (ih fun v hv => all v (List.mem_cons_of_mem _ hv))
section
variable {X : Cx} {e : Expr} {ρ : Rho} {μ : Mu} {Q : E → Mu → Prop} {pos p2 : Pos}
theorem join_pairs {K : PySem.W.Frag} {ad : List Addr} {H : Hp} {μ : Mu} : ∀ {bs : List Addr} {qs : List PR} {Hb : Hp}, Wd K ad Hb H μ → Paired (fun b (q : PR) => H b = some (.tup [.int (q.1 : Int), .int (q.2 : Int)])) bs qs → ∃ Hb2, Wd K ad Hb2 H μ ∧ Step ad Hb H ad Hb2 H ∧ RepL K Hb2 (bs.map .ref) (qs.map prP)
  | _, _, Hb, W, .nil => ⟨Hb, W, Step.refl _ _ _, .nil⟩
  | _, _, Hb, W, .cons h t => by
    obtain ⟨Hb1, h1, W1, s1⟩ := W.join h
    obtain ⟨Hb2, W2, s2, r⟩ := join_pairs W1 t
    exact ⟨Hb2, W2, s1.trans s2, .cons (Rep.tupL (s2.ex _ _ h1) (.cons (.int _) (.cons (.int _) .nil))) r⟩
/-- sorted(d), d a dict of pairs -/
theorem tep_sortD (ps : List PR) (hc : X.calm = true) (hm : X.mg "sorted" = none) (h : TEP X e ρ μ fun x μ1 => ((∃ kvs : List (List Key × P), x = .sh (.dT kvs) ∧ kvs.map (·.1) = ps.map prK) ∨ ∃ (j : Nat) (zs : List (List Key × E)), x = .pt j ∧ μ1[j]? = some (some (.dT zs)) ∧ zs.map (·.1) = ps.map prK) ∧ Q (.sh (.lst ((sortP ps).map prP))) μ1)
    (hg : Gl X "sorted" := by rfl) (hs : starEach [e] X.env = (false, eval e X.env) :: starEach [] X.env := by rfl) : TEP X (.Call (.Name "sorted" p2) [e] [] pos) ρ μ Q :=
  tep_callB (cr_sortedD hc) hg hm bo_sorted (tap_cons (fun ad Hb H σ W N Q' g => h ad Hb H σ W N Q' fun v x μ1 ad1 Hb1 H1 ⟨hx, q⟩ s1 W1 r1 => g v x μ1 ad1 Hb1 H1 (tap_nil fun ad Hb H vs W r0 Q' g => by
    obtain ⟨v, rfl, r1⟩ := vals1 r0
    have key : ∃ d ks, v = .ref d ∧ Rd H d (.dT ks) ∧ ks.map (·.1) = ps.map prK := by
      rcases hx with ⟨kvs, rfl, hk⟩ | ⟨j, zs, rfl, hj, hk⟩
      · obtain ⟨d, ks, rfl, hb, r⟩ := Rep.dT_inv r1
        exact ⟨d, ks, rfl, W.inc _ _ hb, by rw [← hk]; exact pd_fst r⟩
      · obtain ⟨d, hd, rfl⟩ := r1
        obtain ⟨_, ks, hv, r⟩ := W.off j d _ hd hj
        exact ⟨d, ks, rfl, .inl hv, by rw [← hk]; exact pd_fst r⟩
    obtain ⟨d, ks, rfl, hd, hk⟩ := key
    refine ⟨d, ks, ps, rfl, hd, hk, fun bs p pr hp => ?_⟩
    obtain ⟨Hb2, W2, s2, r2⟩ := join_pairs W pr
    obtain ⟨W3, s3⟩ := W2.alloc (o := .lst (bs.map .ref)) hp
    exact g _ (.sh (.lst ((sortP ps).map prP))) _ _ _ _ q (s2.trans s3) W3 (Rep.lstL upd_same (RepL.mono s3.ex r2))) s1 W1 r1) hs) (by decide) (by decide) hs rfl
end
end PV

/-! list(d), list(d.values()), list(d.items()) of dicts of tuple keys. -/
namespace PV
open PySem PySem.Spec PyProof.Rows L2
/-- a dict of tuple keys, read: raw -/
theorem rdV {X : Cx} {pins : List (Addr × Obj)} {σ : L2.St} {H : Hp} {s : Shared} {d : Addr} {kvs : List (List Key × V)} (I : Inv X pins σ H s) (h : Rd H d (.dT kvs)) :
    (d == sysModules) = false ∧ kvs.length ≤ sizeLine ∧ ∃ es ep, s.heap.DictRaw d es ep ∧ es.size = kvs.length ∧ ∀ (i : Nat) (hi : i < es.size), ∃ (k : List Key) (v : V) (q : Addr), kvs[i]? = some (k, v) ∧ es[i].key = .ref q ∧ H q = some (.tup (k.map kV)) ∧ RelV v es[i].val := by
  obtain ⟨z, hs, xs, pr, o, es, ep, ho, hx, hdt, he, _⟩ := (show ObjOk X.prog X.w H s.heap d (.dT kvs) from h.ok I.hok)
  have l1 : es.size = xs.length := size_of_entries he
  have l2 : kvs.length = xs.length := Paired.length pr
  refine ⟨hs, z, es, ep, ⟨o, ho, hx, hdt⟩, by omega, fun i hi => ?_⟩
  have hi2 : i < kvs.length := by omega
  obtain ⟨b, hb, e1, e2, e3⟩ := paired_get pr (List.getElem?_eq_getElem hi2)
  have q := entry_at he i
  rw [hb, Array.getElem?_eq_getElem hi] at q
  have e := Option.some.inj q
  refine ⟨(kvs[i]).1, (kvs[i]).2, b.2.1, List.getElem?_eq_getElem hi2, by rw [e]; rfl, e2, by rw [e]; exact e3⟩
section
variable {X : Cx} {e : Expr} {te : TE} {p apos cpos pos : Pos}
/-- list(e.values()) -/
theorem pe_listVals (hc : X.calm = true) (he : PE X e te) (hg : Gl X "list") (hm : X.mg "list" = none) (hbase : attributeBase e "values" X.env (eval e X.env) = eval e X.env) (hline : (apos.endLine == cpos.line) = true)
    (hs : starEach [.Call (.Attribute e "values" apos) [] [] cpos] X.env = (false, eval (.Call (.Attribute e "values" apos) [] [] cpos) X.env) :: starEach [] X.env) :
    PE X (.Call (.Name "list" p) [.Call (.Attribute e "values" apos) [] [] cpos] [] pos) (fun σ H Q => te σ H fun x H1 => ∃ (d : Addr) (kvs : List (List Key × V)), x = .ref d ∧ Rd H1 d (.dT kvs) ∧ ∀ p, H1 p = none → Q (.ref p) (upd H1 p (.lst (kvs.map (·.2))))) := .mk fun pins s σ H Q I hq => by
  refine wpAny_Call_Name_kw (ld_blt I hg hm bo_list (PyProof.Rows.callWith_type1 ?_ hs rfl))
  rw [hs]
  show wpAny _ _ (spliced ((false, eval (.Call (.Attribute e "values" apos) [] [] cpos) X.env) :: backTo pos (starEach [] X.env))) _ _ s
  refine Calls.spliced_cons (wpAny_Call_method (T := "dict") (id := "dict.values") hbase rfl hline F.plainAttrs_dict F.slot_dict_values F.type_dict_values (thn (he.run pins s σ H _ I hq) ?_))
  rintro u s1 ⟨x, H1, I1, rx, d, kvs, rfl, hd, q⟩
  obtain rfl : u = .ref d := rx
  obtain ⟨hs0, hz, es, ep, hr, hsz, ent⟩ := rdV I1 hd
  refine ⟨hr.typeIs, fun a z => ?_, ?_⟩
  · cases z
    obtain ⟨ob, h1, h2, _⟩ := hr
    exact ⟨ob, h1, h2.2.1⟩
  have I2 : Inv X pins σ H1 { s1 with heap := s1.heap.push ⟨.type "dict_values", none, .fields #[.ref d], #[]⟩ } := I1.kept (t' := s1.toks) fun b ob z => Heap.get?_push_of_some _ z
  show wpAny _ _ (callWith cpos (.builtin "dict.values") [.ref d] [] []) _ X.xe s1
  refine method_meetsIn F.slot_dict_values F.entry_dict_values rfl (PySem.evalArgs_none ⟨rfl, hr.typeIs, F.args_dict_values_1 _, _, meets_dict_values_raw d hs0, ⟨es, ep, hr⟩, ?_⟩)
  refine Calls.spliced_nil (PySem.W.kdl_call (PySem.KdlSrc.rawValues (es := es) (ep := ep) (d := d)) (I1.ok.hd hc) ⟨⟨_, Heap.get?_push_size _ rfl, rfl, rfl⟩, hr.at fun o z => Heap.get?_push_of_some _ z⟩ (by rw [hsz]; exact hz) fun h' tk acc c hk hS it => ?_)
  have rv : Vals (kvs.map (·.2)) acc.toList := by
    refine pd_of (by rw [List.length_map, Array.length_toList]; exact (it.1.trans hsz).symm) fun i v w h1 h2 => ?_
    obtain ⟨hi, rfl⟩ := it.2 i w (by rw [← Array.getElem?_toList]; exact h2)
    obtain ⟨k, v2, b, h3, _, _, h4⟩ := ent i hi
    rw [List.getElem?_map, h3] at h1
    cases h1
    exact h4
  refine ⟨.ref _, upd H1 _ (.lst (kvs.map (·.2))), I2.laid (t' := tk) hk (Nat.le_refl _) ⟨by rw [List.length_map]; exact hz, acc.toList, c, rv, by rw [Array.toArray_toList]; exact hS⟩, rfl, q _ (I2.hok.fresh (Nat.le_refl _))⟩
end
section
variable {X : Cx} {e : Expr} {ρ : Rho} {μ : Mu} {Q : E → Mu → Prop} {apos cpos pos p2 : Pos}
/-- what is known of a dict of tuple keys, shared or a cell: its keys and values -/
def DTv (μ : Mu) (x : E) (zs : List (List Key × E)) : Prop := (∃ kvs : List (List Key × P), x = .sh (.dT kvs) ∧ zs = kvs.map fun q => (q.1, .sh q.2)) ∨ ∃ j, x = .pt j ∧ μ[j]? = some (some (.dT zs))
theorem pd_map2 {κ : Type} {K : PySem.W.Frag} {ad : List Addr} {Hb : Hp} : ∀ {vs : List (κ × V)} {zs : List (κ × P)}, Paired (fun p q => p.1 = q.1 ∧ Rep K Hb p.2 q.2) vs zs → Paired (fun p q => p.1 = q.1 ∧ RepE K ad Hb p.2 q.2) vs (zs.map fun q => (q.1, E.sh q.2))
  | _, _, .nil => .nil
  | _, _, .cons r t => .cons r (pd_map2 t)
theorem DTv.get {K : PySem.W.Frag} {ad : List Addr} {Hb H : Hp} {x : E} {zs : List (List Key × E)} (h : DTv μ x zs) (W : Wd K ad Hb H μ) {v : V} (r : RepE K ad Hb v x) : ∃ d ks, v = .ref d ∧ Rd H d (.dT ks) ∧ Paired (fun p q => p.1 = q.1 ∧ RepE K ad Hb p.2 q.2) ks zs := by
  rcases h with ⟨kvs, rfl, rfl⟩ | ⟨j, rfl, hj⟩
  · obtain ⟨d, ks, rfl, hb, r⟩ := Rep.dT_inv r
    exact ⟨d, ks, rfl, W.inc _ _ hb, pd_map2 r⟩
  · obtain ⟨d, hd, rfl⟩ := r
    obtain ⟨_, ks, hv, r⟩ := W.off j d _ hd hj
    exact ⟨d, ks, rfl, .inl hv, r⟩
theorem pd_snd {κ : Type} {F : V → E → Prop} : ∀ {vs : List (κ × V)} {zs : List (κ × E)}, Paired (fun p q => p.1 = q.1 ∧ F p.2 q.2) vs zs → Paired F (vs.map (·.2)) (zs.map (·.2))
  | _, _, .nil => .nil
  | _, _, .cons r t => .cons r.2 (pd_snd t)
theorem tep_listVals {ps : List P} (hm : X.mg "list" = none) (h : TEP X e ρ μ fun x μ1 => ∃ zs : List (List Key × E), DTv μ1 x zs ∧ zs.map (·.2) = ps.map .sh ∧ Q (.sh (.lst ps)) μ1) (hc : X.calm = true := by rfl) (hg : Gl X "list" := by rfl) (hbase : attributeBase e "values" X.env (eval e X.env) = eval e X.env := by rfl) (hline : (apos.endLine == cpos.line) = true := by rfl)
    (hs : starEach [.Call (.Attribute e "values" apos) [] [] cpos] X.env = (false, eval (.Call (.Attribute e "values" apos) [] [] cpos) X.env) :: starEach [] X.env := by rfl) : TEP X (.Call (.Name "list" p2) [.Call (.Attribute e "values" apos) [] [] cpos] [] pos) ρ μ Q := fun ad Hb H σ W N Q' g => by
  refine pe_go (pe_listVals hc pe_self hg hm hbase hline hs) (h ad Hb H σ W N _ ?_)
  rintro v x μ1 ad1 Hb1 H1 ⟨zs, dv, hz, q⟩ s1 W1 r1
  obtain ⟨d, ks, rfl, hd, r⟩ := dv.get W1 r1
  refine ⟨d, ks, rfl, hd, fun p hp => ?_⟩
  obtain ⟨W2, s2⟩ := W1.alloc (o := .lst (ks.map (·.2))) hp
  have r2 := pd_snd r
  rw [hz] at r2
  exact g _ (.sh (.lst ps)) _ _ _ _ q (s1.trans s2) W2 (Rep.lstL upd_same (RepL.mono s2.ex (repEs_sh r2)))
def keyP (k : List Key) : P := .tup (k.map kP)
theorem join_keys {K : PySem.W.Frag} {ad : List Addr} {H : Hp} {μ : Mu} : ∀ {ks : List (List Key × V)} {bs : List Addr} {Hb : Hp}, Wd K ad Hb H μ → IsKeys H ks bs → ∃ Hb2, Wd K ad Hb2 H μ ∧ Step ad Hb H ad Hb2 H ∧ RepL K Hb2 (bs.map .ref) (ks.map fun q => keyP q.1)
  | _, _, Hb, W, .nil => ⟨Hb, W, Step.refl _ _ _, .nil⟩
  | _, _, Hb, W, .cons h t => by
    obtain ⟨Hb1, h1, W1, s1⟩ := W.join h
    obtain ⟨Hb2, W2, s2, r⟩ := join_keys W1 t
    refine ⟨Hb2, W2, s1.trans s2, .cons (Rep.tupL (s2.ex _ _ h1) ?_) r⟩
    generalize (_ : List Key × V).1 = l
    induction l with
    | nil => exact .nil
    | cons a l ih =>
      refine .cons ?_ ih
      cases a with
      | inl i => exact .int i
      | inr i => exact .str i
/-- list(d): the keys, in a new cell -/
theorem tep_listDC (hm : X.mg "list" = none) (h : TEP X e ρ μ fun x μ1 => ∃ zs : List (List Key × E), DTv μ1 x zs ∧ Q (.pt μ1.length) (μ1 ++ [some (.lst (zs.map fun q => .sh (keyP q.1)))])) (hc : X.calm = true := by rfl) (hg : Gl X "list" := by rfl) (hs : starEach [e] X.env = (false, eval e X.env) :: starEach [] X.env := by rfl) : TEP X (.Call (.Name "list" p2) [e] [] pos) ρ μ Q :=
  tep_callTy (call_list_dT hc) hg hm bo_list (tap_cons (fun ad Hb H σ W N Q' g => h ad Hb H σ W N Q' fun v x μ1 ad1 Hb1 H1 ⟨zs, dv, q⟩ s1 W1 r1 => g v x μ1 ad1 Hb1 H1 (tap_nil fun ad Hb H vs W r0 Q' g => by
    obtain ⟨v, rfl, r1⟩ := vals1 r0
    obtain ⟨d, ks, rfl, hd, r⟩ := dv.get W r1
    refine ⟨d, ks, rfl, hd, fun p bs hp hk => ?_⟩
    obtain ⟨Hb2, W2, s2, r2⟩ := join_keys W hk
    have e1 : zs.map (fun q => keyP q.1) = ks.map fun q => keyP q.1 := by
      have := pd_fst r
      have h2 := congrArg (List.map keyP) this
      rw [List.map_map, List.map_map] at h2
      exact h2.symm
    have e2 : (zs.map fun q => E.sh (keyP q.1)) = (ks.map fun q => keyP q.1).map .sh := by
      rw [← e1, List.map_map]
      rfl
    obtain ⟨W3, s3⟩ := W2.cell (o := .lst (bs.map .ref)) (c := .lst (zs.map fun q => .sh (keyP q.1))) hp ⟨_, upd_same, by rw [e2]; exact repEs_of r2⟩
    exact g _ (.pt _) _ _ _ _ q (s2.trans s3) W3 ⟨p, by rw [← W2.len]; simp, rfl⟩) s1 W1 r1) hs) (by decide) (by decide) hs rfl
end
end PV

/-! range downwards; dicts of pairs to numbers. -/
namespace PV
open PySem PySem.Spec PyProof.Rows L2
section
variable {X : Cx} {tg iter a b c : Expr} {ρ : Rho} {μ : Mu} {pos p2 : Pos} {D : Out} {rest : List Stmt}
/-- .. over what stands as long as G does -/
theorem lc_invG {α : Type} {l : List α} {f : α → P} {p : α → Bool} {g : α → P} {ρ' : α → Rho} {elt : Expr} {ifs : List Expr} {scope : Scope} {own : List (Str × Nat)} {js : List Nat} {Fin : List E → Mu → Prop} {G : Mu → Prop} (hG : G μ) (hi : ∀ R : List E → (Mu → Prop) → Mu → Prop, R (l.map fun a => .sh (f a)) G μ → TIP X tg iter ρ μ R) (hl : l.length ≤ 100000)
    (ht : ∀ a ∈ l, ∀ R : Rho → Mu → Prop, R (ρ' a) μ → TGB X scope tg js (.sh (f a)) (wipeR ρ (own.map (·.2))) μ R)
    (hp : ∀ a ∈ l, ∀ Q : Bool → Mu → Prop, Q (p a) μ → TTsB X scope ifs (ρ' a) μ Q) (he : ∀ a ∈ l, p a = true → ∀ Q : E → Mu → Prop, Q (.sh (g a)) μ → TEB X scope elt (ρ' a) μ Q) (q : Fin (((l.filter p).map g).map .sh) μ) :
    TIP X tg iter ρ μ fun items G μ1 => ∃ I : Nat → List E → Mu → Prop, I 0 [] μ1 ∧ (∀ i acc μ2, i ≤ items.length → I i acc μ2 → G μ2) ∧
      (∀ i x acc μ2, items[i]? = some x → I i acc μ2 → TGB X scope tg js x (wipeR ρ (own.map (·.2))) μ2 fun ρ3 μ3 => TTsB X scope ifs ρ3 μ3 fun b μ4 => if b = true then TEB X scope elt ρ3 μ4 (fun y μ5 => acc.length < 100000 ∧ I (i + 1) (acc ++ [y]) μ5) else I (i + 1) acc μ4) ∧
      ∀ acc μ2, I items.length acc μ2 → Fin acc μ2 := by
  refine hi _ ⟨fun i acc μ2 => μ2 = μ ∧ acc = (((l.take i).filter p).map g).map .sh, ⟨rfl, rfl⟩, fun _ _ _ _ h => h.1 ▸ hG, ?_, ?_⟩
  · rintro i x acc μ2 hx ⟨rfl, rfl⟩
    rw [List.getElem?_map] at hx
    cases e : l[i]? with
    | none => rw [e] at hx; cases hx
    | some a =>
      rw [e] at hx
      cases hx
      have ha : a ∈ l := List.mem_of_getElem? e
      have ht' : l.take (i + 1) = l.take i ++ [a] := by
        rw [List.take_add_one, e]
        rfl
      refine ht a ha _ (hp a ha _ ?_)
      by_cases c : p a = true
      · rw [if_pos c]
        refine he a ha c _ ⟨?_, rfl, ?_⟩
        · have h1 := List.length_filter_le p (l.take i)
          have h2 := (List.getElem?_eq_some_iff.mp e).1
          rw [List.length_map, List.length_map]
          rw [List.length_take] at h1
          omega
        · rw [ht', List.filter_append, List.map_append, List.map_append]
          simp [c]
      · rw [if_neg c]
        refine ⟨rfl, ?_⟩
        rw [ht', List.filter_append, List.map_append, List.map_append]
        simp [c]
  · rintro acc μ2 ⟨rfl, rfl⟩
    rw [List.length_map, List.take_length]
    exact q
theorem ei_rangeDown {i j : Int} (hm : X.mg "range" = none) (ha : EV X a ρ μ (.sh (.int i))) (hb : EV X b ρ μ (.sh (.int j))) (hcc : EV X c ρ μ (.sh (.int (-1)))) (hk : -(2 ^ 62) ≤ i ∧ i < 2 ^ 62 ∧ -(2 ^ 62) ≤ j ∧ j < 2 ^ 62) (hg : Gl X "range" := by rfl)
    (hs : starEach [a, b, c] X.env = (false, eval a X.env) :: starEach [b, c] X.env := by rfl) (hs2 : starEach [b, c] X.env = (false, eval b X.env) :: starEach [c] X.env := by rfl) (hs3 : starEach [c] X.env = (false, eval c X.env) :: starEach [] X.env := by rfl) (hpl : (backTo pos (starEach [b, c] X.env)).any (·.1) = false := by rfl) :
    EI X tg (.Call (.Name "range" p2) [a, b, c] [] pos) ρ μ ((List.range (i - j).toNat).map fun k => .sh (.int (i - (k : Nat)))) := fun R q ad Hb H σ W N R' g => by
  refine pi_go (pi_range3 hg hm pa_self hs hpl) ((ea_cons ha (ea_cons hb (ea_cons hcc ea_nil hs3) hs2) hs) (fun ys μ1 => ys = [.sh (.int i), .sh (.int j), .sh (.int (-1))] ∧ μ1 = μ) ⟨rfl, rfl⟩ ad Hb H σ W N _ ?_)
  rintro vs ys μ1 ad1 Hb1 H1 ⟨rfl, rfl⟩ s1 W1 r0
  obtain ⟨v, w, u, rfl, r1, r2, r3⟩ := vals3E r0
  obtain rfl := Rep.int_inv r1
  obtain rfl := Rep.int_inv r2
  obtain rfl := Rep.int_inv r3
  refine ⟨i, j, -1, (i - j).toNat, rfl, RgC.neg hk.1 hk.2.1 hk.2.2.1 hk.2.2.2, g _ _ _ _ _ _ _ q s1 W1 ?_⟩
  have e : (fun k : Nat => V.int (i + (k : Nat) * (-1))) = fun k : Nat => V.int (i - (k : Nat)) := funext fun k => by
    congr 1
    omega
  have w := walk_rangeC (lo := i) (c := -1) (n := (i - j).toNat)
  rw [e] at w
  exact pwalk_fn w fun k H => .int _
theorem ev_addN {i j : Nat} (ha : EV X a ρ μ (.sh (.int (i : Nat)))) (hb : EV X b ρ μ (.sh (.int (j : Nat)))) : EV X (.BinOp a .Add b pos) ρ μ (.sh (.int ((i + j : Nat) : Int))) := (ev_add ha hb).is (by rw [Int.natCast_add])
theorem ev_subN {i j : Nat} (h : j ≤ i) (ha : EV X a ρ μ (.sh (.int (i : Nat)))) (hb : EV X b ρ μ (.sh (.int (j : Nat)))) : EV X (.BinOp a .Sub b pos) ρ μ (.sh (.int ((i - j : Nat) : Int))) := (ev_sub ha hb).is (by rw [show ((i - j : Nat) : Int) = (i : Int) - j by omega])
/-- [elt for x in d.values()], d a cell -/
theorem ev_lcVals {α : Type} {j : Nat} {zs : List (List Key × E)} {o elt : Expr} {scope : Scope} {apos cpos : Pos} (l : List α) (f : α → P) (g : α → P) (r : α → Rho) (js : List Nat) (own : List (Str × Nat)) (nd : X.N.Nodup) (ok : BlkOk X.N X.env.scope scope own) (hj : μ[j]? = some (some (.dT zs))) (hz : zs.map (·.2) = l.map fun a => .sh (f a)) (hl : l.length ≤ 100000)
    (ho : ∀ μ2, EV X o ρ μ2 (.pt j)) (ht : ∀ a ∈ l, ∀ μ2, TgB X scope tg js (.sh (f a)) (wipeR ρ (own.map (·.2))) (r a) μ2) (he : ∀ a ∈ l, ∀ μ2, EVB X scope elt (r a) μ2 (.sh (g a))) (hjs : ∀ j ∈ js, j ∈ own.map (·.2) := by decide) (hc : X.calm = true := by rfl)
    (hbase : attributeBase o "values" X.env (eval o X.env) = eval o X.env := by rfl) (hline : (apos.endLine == cpos.line) = true := by rfl) (hs : ∀ x, foldedSetIterable (.Call (.Attribute o "values" apos) [] [] cpos) X.env x = pure x := by intro _; rfl) :
    EV X (.ListComp elt [⟨tg, .Call (.Attribute o "values" apos) [] [] cpos, [], 0⟩] scope pos) ρ μ (.sh (.lst (l.map g))) := fun Q q => by
  have hl2 : j < μ.length := (List.getElem?_eq_some_iff.mp hj).1
  refine tep_lock hj fun od ks => ?_
  have hj2 : (μ.set j (some (.lk od ks zs)))[j]? = some (some (.lk od ks zs)) := List.getElem?_set_self hl2
  have back : (μ.set j (some (.lk od ks zs))).set j (some (.dT zs)) = μ := by
    rw [List.set_set]
    refine List.ext_getElem? fun i => ?_
    by_cases c : j = i
    · subst c
      rw [List.getElem?_set_self hl2, hj]
    · rw [List.getElem?_set_ne c]
  have e : l.filter (fun _ => true) = l := List.filter_eq_self.mpr fun _ _ => rfl
  refine tep_lc own js hc nd ok hjs (lc_invG (p := fun _ => true) (g := g) (G := fun μ2 => μ2[j]? = some (some (.lk od ks zs))) (Fin := fun acc μ2 => ∃ ys : List P, acc = ys.map .sh ∧ (μ2[j]? = some (some (.lk od ks zs)) ∧ Q (.sh (.lst ys)) (μ2.set j (some (.dT zs))))) hj2 (fun R h => tip_lkVals (ho _) hj2 (by rw [hz]; exact h) hbase hline) hl (fun a ha => ht a ha _) (fun a _ => ttsb0) (fun a ha _ Q q s H C cl fp => he a ha _ s H C cl fp Q q) ⟨l.map g, by rw [e], hj2, by rw [back]; exact q⟩) hs
/-- a cell's dict is as good as shared from here on -/
theorem tss_shareT (j : Nat) {zs : List (List Key × P)} {R : Rho} (hj : μ[j]? = some (some (.dT (zs.map fun q => (q.1, .sh q.2))))) (hR : R.length = ρ.length) (hR2 : ∀ (i : Nat) (x : E), R[i]? = some (some x) → ρ[i]? = some (some x) ∨ (ρ[i]? = some (some (.pt j)) ∧ x = .sh (.dT zs))) (h : TSs X rest R (μ.set j none) D) : TSs X rest ρ μ D := fun ad Hb H σ W N D' g => by
  have hl : j < μ.length := (List.getElem?_eq_some_iff.mp hj).1
  have hla : j < ad.length := by rw [W.len]; exact hl
  obtain ⟨a, ha⟩ : ∃ a, ad[j]? = some a := ⟨_, List.getElem?_eq_getElem hla⟩
  obtain ⟨b1, vs, hv, r⟩ := W.off j a _ ha hj
  have s : Step ad Hb H ad (upd Hb a (.dT vs)) H := ⟨Ex.new b1, ⟨[], by simp⟩, fun _ z => .inl z, fun _ _ _ z => .inl z, fun b o hb e t n => by
    rw [upd_ne (fun z => hb (by rw [z]; exact List.mem_of_getElem? ha))]
    exact n, fun _ _ _ _ z => z⟩
  have sp : ∀ (i : Nat) (b : Addr) (c : Cell), ad[i]? = some b → (μ.set j none)[i]? = some (some c) → b ≠ a ∧ μ[i]? = some (some c) := fun i b c hb hc => by
    by_cases e : j = i
    · subst e
      rw [List.getElem?_set_self hl] at hc
      cases hc
    · rw [List.getElem?_set_ne e] at hc
      refine ⟨fun z => ?_, hc⟩
      subst z
      exact e (W.nd j i b _ c ha hb hj hc)
  refine h ad _ H σ ⟨by rw [List.length_set]; exact W.len, fun b u e => ?_, fun i b c hb hc => ?_, fun i k b c d hi hk hc hd => W.nd i k b c d hi hk (sp i b c hi hc).2 (sp k b d hk hd).2, W.trk⟩ ⟨N.1.trans hR.symm, fun i x hx => ?_⟩ D' (g.after s)
  · by_cases eb : b = a
    · subst eb
      rw [upd_same] at e
      cases e
      exact .inl hv
    · rw [upd_ne eb] at e
      exact W.inc b u e
  · obtain ⟨n, hc2⟩ := sp i b c hb hc
    obtain ⟨h3, h4⟩ := W.off i b c hb hc2
    exact ⟨by rw [upd_ne n]; exact h3, h4.keep rfl fun v x r => RepE.step s r⟩
  · rcases hR2 i x hx with h1 | ⟨h1, rfl⟩
    · obtain ⟨v, h2, h3⟩ := N.2 i x h1
      exact ⟨v, h2, RepE.step s h3⟩
    · obtain ⟨v, h2, b, h3, rfl⟩ := N.2 i _ h1
      rw [ha] at h3
      cases h3
      exact ⟨_, h2, .dT upd_same (pd_fst (pd_unmap r)) fun i v x h5 h6 => Rep.mono s.ex (pd_get (pd_unmap r) i v x h5 h6).2⟩
/-- xs[::-1], xs a cell: a new one -/
theorem tep_revC {j k : Nat} {p1 p3 : Pos} {zs : List E} {Q : E → Mu → Prop} (ha : EV X a ρ μ (.pt j)) (hj : μ[j]? = some (some (.lst zs))) (q : Q (.pt μ.length) (μ ++ [some (.lst zs.reverse)])) : TEP X (.Subscript a (.Slice none none (some (.UnaryOp .USub (.Constant (.int 1) k p1) p2)) p3) pos) ρ μ Q := fun ad Hb H σ W N Q' g => by
  refine pe_go (pe_revL pe_self) (ha (fun y μ1 => y = .pt j ∧ μ1 = μ) ⟨rfl, rfl⟩ ad Hb H σ W N _ ?_)
  rintro v x μ1 ad1 Hb1 H1 ⟨rfl, rfl⟩ s1 W1 ⟨d, hd, rfl⟩
  obtain ⟨_, vs, hv, r⟩ := W1.off j d _ hd hj
  refine ⟨d, vs, rfl, .inl (.inl hv), fun p hp => ?_⟩
  obtain ⟨W4, s4⟩ := W1.cell (o := .lst vs.reverse) (c := .lst zs.reverse) hp ⟨_, upd_same, pd_imp (fun v x r => repE_mono (Ex.refl _) ⟨[p], rfl⟩ r) (pd_rev r)⟩
  exact g _ (.pt μ1.length) _ _ _ _ q (s1.trans s4) W4 ⟨p, by rw [← W1.len]; simp, rfl⟩
/-- names = a tuple, some of the names cells -/
theorem tgp_namesC {es : List Expr} {k : Nat} {js : List Nat} (ns : List Str) (is : List Nat) {x : P} {xs : List P} {R : Rho → Mu → Prop} (nd : X.N.Nodup) (hx : Sq x xs) (hl : xs.length = ns.length) (q : R (setsR ρ is (xs.map .sh)) μ) (hc : X.calm = true := by rfl) (he : es.map nmOf = ns.map some := by rfl) (hj : ∀ i ∈ is, i ∈ js := by decide)
    (hi : is.map (fun i => X.N[i]?) = ns.map some := by rfl) (hf : ns.all (fun n => decide (X.env.scope.names.lookup n = some .local) || decide (X.env.scope.names.lookup n = some .cell)) = true := by rfl) (hfn : ∀ n, X.fn n = true := by exact fun _ => rfl) : TGP X (.Tuple es k pos) js (.sh x) ρ μ R := by
  have h := tgs_names (js := js) (R := R) nd ns es is (xs.map .sh) ρ he (by rw [List.length_map]; exact hl) hj hi (fun n hn => by
    have := List.all_eq_true.mp hf n hn
    simp only [Bool.or_eq_true, decide_eq_true_eq] at this
    exact ⟨this, .inl (hfn n)⟩) q
  obtain ⟨h1, h2⟩ := names_len (env := X.env) he
  rcases hx with rfl | rfl
  · exact tgp_unl hc h hl h1 h2
  · exact tgp_tup hc h hl h1 h2
theorem tsp_asgA (js : List Nat) {tg e : Expr} {x : E} (h : EV X e ρ μ x) (t : TGP X tg js x ρ μ D.nx) (hs : swapsWithSole [tg] e pos.line X.env = pure false := by rfl) (hw : swappedStores [tg] e X.env = pure none := by rfl) (h1 : (assignEach [tg] X.env).map (·.2) = [assign tg X.env] := by rfl) : TSP X (.Assign [tg] e pos) ρ μ D := tsp_asg js (h _ t) hs hw h1
end
section
variable {κ κ' α β : Type} [DecidableEq κ] [DecidableEq κ']
theorem dget_mapk {f : κ → κ'} (inj : ∀ a b, f a = f b → a = b) (g : α → β) (d : List (κ × α)) (k : κ) : dget (d.map fun q => (f q.1, g q.2)) (f k) = (dget d k).map g := by
  unfold dget
  induction d with
  | nil => rfl
  | cons q d ih =>
    rw [List.map_cons, List.find?_cons, List.find?_cons]
    by_cases c : q.1 = k
    · simp [c]
    · have c2 : ¬ f q.1 = f k := fun z => c (inj _ _ z)
      simp only [c, c2, decide_false]
      exact ih
theorem dput_mapk {f : κ → κ'} (inj : ∀ a b, f a = f b → a = b) (g : α → β) (d : List (κ × α)) (k : κ) (v : α) : dput (d.map fun q => (f q.1, g q.2)) (f k) (g v) = (dput d k v).map fun q => (f q.1, g q.2) := by
  unfold dput
  have e : ((d.map fun q => (f q.1, g q.2)).any fun kv => decide (kv.1 = f k)) = (d.any fun kv => decide (kv.1 = k)) := by
    rw [List.any_map]
    refine congrArg (List.any d) (funext fun q => ?_)
    exact decide_eq_decide.mpr ⟨fun z => inj _ _ z, fun z => congrArg f z⟩
  rw [e]
  split
  · rw [List.map_map, List.map_map]
    refine List.map_congr_left fun q _ => ?_
    by_cases c : q.1 = k
    · simp [c]
    · have c2 : ¬ f q.1 = f k := fun z => c (inj _ _ z)
      simp [c, c2]
  · rw [List.map_append]
    rfl
theorem dget_mem {d : List (κ × α)} {k : κ} {v : α} (h : dget d k = some v) : (k, v) ∈ d := by
  unfold dget at h
  cases e : d.find? (fun kv => decide (kv.1 = k)) with
  | none => rw [e] at h; cases h
  | some q =>
    rw [e] at h
    have h1 : q.1 = k := of_decide_eq_true (List.find?_some (p := fun kv : κ × α => decide (kv.1 = k)) e)
    have h2 : q.2 = v := Option.some.inj h
    have := List.mem_of_find?_eq_some e
    rw [← h1, ← h2]
    exact this
/-- keys once -/
def dnd (d : List (κ × α)) : Prop := (d.map (·.1)).Nodup
theorem dput_keys (d : List (κ × α)) (k : κ) (v : α) : (dput d k v).map (·.1) = if (d.any fun kv => decide (kv.1 = k)) = true then d.map (·.1) else d.map (·.1) ++ [k] := by
  unfold dput
  split
  · rw [List.map_map]
    refine List.map_congr_left fun q _ => ?_
    by_cases c : q.1 = k <;> simp [c]
  · rw [List.map_append]
    rfl
theorem dput_nd {d : List (κ × α)} (h : dnd d) (k : κ) (v : α) : dnd (dput d k v) := by
  unfold dnd
  rw [dput_keys]
  split
  · exact h
  · rename_i c
    refine List.nodup_append.mpr ⟨h, (List.pairwise_singleton _ _ : [k].Nodup), fun x hx y hy => ?_⟩
    have := List.mem_singleton.mp hy
    subst this
    rintro rfl
    obtain ⟨q, hq, rfl⟩ := List.mem_map.mp hx
    exact c (List.any_eq_true.mpr ⟨q, hq, by simp⟩)
theorem dget_of_mem {d : List (κ × α)} (h : dnd d) {k : κ} {v : α} (hm : (k, v) ∈ d) : dget d k = some v := by
  unfold dget
  induction d with
  | nil => cases hm
  | cons q d ih =>
    rw [List.find?_cons]
    have h' := List.nodup_cons.mp h
    rcases List.mem_cons.mp hm with e | e
    · subst e
      simp
    · have c : ¬ q.1 = k := fun z => h'.1 (by show q.1 ∈ _; rw [z]; exact List.mem_map.mpr ⟨_, e, rfl⟩)
      simp only [c, decide_false]
      exact ih h'.2 e
theorem dget_key {d : List (κ × α)} {k : κ} : (dget d k).isSome = true ↔ k ∈ d.map (·.1) := by
  unfold dget
  rw [Option.isSome_map, List.find?_isSome]
  simp only [decide_eq_true_eq]
  constructor
  · rintro ⟨q, hq, rfl⟩
    exact List.mem_map.mpr ⟨q, hq, rfl⟩
  · intro h
    obtain ⟨q, hq, e⟩ := List.mem_map.mp h
    exact ⟨q, hq, e⟩
end
/-- pairs of numbers to numbers -/
abbrev DD := List (PR × Int)
theorem prK_inj : ∀ a b : PR, prK a = prK b → a = b := fun a b h => by
  unfold prK at h
  have h1 := (List.cons.inj h).1
  have h2 := (List.cons.inj (List.cons.inj h).2).1
  exact Prod.ext (by have := Sum.inl.inj h1; omega) (by have := Sum.inl.inj h2; omega)
def ddP (d : DD) : List (List Key × P) := d.map fun q => (prK q.1, .int q.2)
def ddE (d : DD) : List (List Key × E) := d.map fun q => (prK q.1, .sh (.int q.2))
theorem ddE_get (d : DD) (p : PR) : dget (ddE d) (prK p) = (dget d p).map fun v => .sh (.int v) := dget_mapk prK_inj (fun v => E.sh (.int v)) d p
theorem ddP_get (d : DD) (p : PR) : dget (ddP d) (prK p) = (dget d p).map fun v => .int v := dget_mapk prK_inj (fun v => P.int v) d p
theorem ddE_put (d : DD) (p : PR) (v : Int) : dput (ddE d) (prK p) (.sh (.int v)) = ddE (dput d p v) := dput_mapk prK_inj (fun v => E.sh (.int v)) d p v
theorem ddP_put (d : DD) (p : PR) (v : Int) : dput (ddP d) (prK p) (.int v) = ddP (dput d p v) := dput_mapk prK_inj (fun v => P.int v) d p v
theorem ddE_P (d : DD) : ddE d = (ddP d).map fun q => (q.1, .sh q.2) := by
  unfold ddE ddP
  rw [List.map_map]
  rfl
theorem ddP_keys (d : DD) : (ddP d).map (·.1) = (d.map (·.1)).map prK := by
  unfold ddP
  rw [List.map_map, List.map_map]
  rfl
theorem ddE_keys (d : DD) : (ddE d).map (·.1) = (d.map (·.1)).map prK := by
  unfold ddE
  rw [List.map_map, List.map_map]
  rfl
theorem ddE_len (d : DD) : (ddE d).length = d.length := by unfold ddE; rw [List.length_map]
end PV

/-! == and != of nested lists and tuples. -/
namespace PV
open PySem PySem.Spec PyProof.Rows L2
/-- x read as the kit's data, nested n deep at most -/
inductive PD : Nat → P → PyData → Prop
  | non (n : Nat) : PD n .non .none
  | bl (n : Nat) (b : Bool) : PD n (.bl b) (.bool b)
  | int (n : Nat) (i : Int) : PD n (.int i) (.int i)
  | lst {n : Nat} {xs : List P} {ds : List PyData} (l : xs.length = ds.length) (e : ∀ (i : Nat) x d, xs[i]? = some x → ds[i]? = some d → PD n x d) : PD (n + 1) (.lst xs) (.list ds)
  | tup {n : Nat} {xs : List P} {ds : List PyData} (l : xs.length = ds.length) (e : ∀ (i : Nat) x d, xs[i]? = some x → ds[i]? = some d → PD n x d) : PD (n + 1) (.tup xs) (.tuple ds)
theorem dpAll_of {K : PySem.W.Frag} {H : Hp} : ∀ {vs : List V} {ds : List PyData}, vs.length = ds.length → (∀ (i : Nat) v d, vs[i]? = some v → ds[i]? = some d → Dp K H v d) → DpAll K H vs ds
  | [], [], _, _ => .nil
  | [], _ :: _, h, _ => by simp at h
  | _ :: _, [], h, _ => by simp at h
  | v :: vs, d :: ds, h, e => .cons (e 0 v d rfl rfl) (dpAll_of (by simpa using h) fun i v d h1 h2 => e (i + 1) v d (by simpa using h1) (by simpa using h2))
theorem PD.dp {K : PySem.W.Frag} {ad : List Addr} {Hb H : Hp} {μ : Mu} (W : Wd K ad Hb H μ) {n : Nat} {x : P} {d : PyData} (h : PD n x d) : ∀ {v : V}, Rep K Hb v x → Dp K H v d := by
  induction h with
  | non n => intro v r; obtain rfl := Rep.non_inv r; exact .non
  | bl n b => intro v r; obtain rfl := Rep.bl_inv r; exact .bl b
  | int n i => intro v r; obtain rfl := Rep.int_inv r; exact .int i
  | lst l e ih =>
    intro v r
    obtain ⟨a, vs, rfl, hq, r⟩ := Rep.lst_inv r
    refine .lst (W.sqL hq) (dpAll_of (r.length.trans l) fun i v d h1 h2 => ?_)
    obtain ⟨x, h3, h4⟩ := pd_right r i v h1
    exact ih i x d h3 h2 h4
  | tup l e ih =>
    intro v r
    obtain ⟨a, vs, rfl, hq, r⟩ := Rep.tup_inv r
    refine .tup (.inl (.inl (W.tup hq))) (dpAll_of (r.length.trans l) fun i v d h1 h2 => ?_)
    obtain ⟨x, h3, h4⟩ := pd_right r i v h1
    exact ih i x d h3 h2 h4
theorem lay_all : ∀ {ds : List PyData} {n : Nat}, (∀ d ∈ ds, d.canLay0 = true ∧ d.depth ≤ n) → PyData.canLayAll0 ds = true ∧ PyData.depthAll ds ≤ n
  | [], n, _ => ⟨rfl, Nat.zero_le _⟩
  | d :: ds, n, h => by
    have h1 := h d (List.mem_cons_self ..)
    have h2 := lay_all fun e he => h e (List.mem_cons_of_mem _ he)
    unfold PyData.canLayAll0 PyData.depthAll
    exact ⟨by rw [h1.1, h2.1]; rfl, Nat.max_le.mpr ⟨h1.2, h2.2⟩⟩
theorem PD.lay {n : Nat} {x : P} {d : PyData} (h : PD n x d) : d.canLay0 = true ∧ d.depth ≤ n := by
  induction h with
  | non n => exact ⟨by simp [PyData.canLay0], by simp [PyData.depth]⟩
  | bl n b => exact ⟨by simp [PyData.canLay0], by simp [PyData.depth]⟩
  | int n i => exact ⟨by simp [PyData.canLay0], by simp [PyData.depth]⟩
  | @lst n xs ds l e ih =>
    have h2 := lay_all (ds := ds) (n := n) fun d hd => by
      obtain ⟨i, hi⟩ := List.mem_iff_getElem?.mp hd
      have hl : i < xs.length := by rw [l]; exact (List.getElem?_eq_some_iff.mp hi).1
      exact ih i _ d (List.getElem?_eq_getElem hl) hi
    refine ⟨by simp only [PyData.canLay0]; exact h2.1, by simp only [PyData.depth]; omega⟩
  | @tup n xs ds l e ih =>
    have h2 := lay_all (ds := ds) (n := n) fun d hd => by
      obtain ⟨i, hi⟩ := List.mem_iff_getElem?.mp hd
      have hl : i < xs.length := by rw [l]; exact (List.getElem?_eq_some_iff.mp hi).1
      exact ih i _ d (List.getElem?_eq_getElem hl) hi
    refine ⟨by simp only [PyData.canLay0]; exact h2.1, by simp only [PyData.depth]; omega⟩
theorem PD.shaped {n : Nat} {x : P} {d : PyData} (h : PD n x d) (hn : n ≤ 64) : SeqAt.shaped d = true := by
  unfold SeqAt.shaped
  rw [h.lay.1, decide_eq_true (Nat.le_trans h.lay.2 hn)]
  rfl
/-- a value, or a list of values in a cell, as data -/
inductive DE (μ : Mu) : E → PyData → Prop
  | sh {n : Nat} {x : P} {d : PyData} (h : PD n x d) (hn : n ≤ 64) : DE μ (.sh x) d
  | pt {n j : Nat} {xs : List P} {d : PyData} (hj : μ[j]? = some (some (.lst (xs.map .sh)))) (h : PD n (.lst xs) d) (hn : n ≤ 64) : DE μ (.pt j) d
theorem DE.dp {K : PySem.W.Frag} {ad : List Addr} {Hb H : Hp} {μ : Mu} (W : Wd K ad Hb H μ) {x : E} {d : PyData} (h : DE μ x d) {v : V} (r : RepE K ad Hb v x) : Dp K H v d ∧ SeqAt.shaped d = true := by
  cases h with
  | sh h hn => exact ⟨h.dp W r, h.shaped hn⟩
  | pt hj h hn =>
    obtain ⟨a, ha, rfl⟩ := r
    obtain ⟨_, vs, hv, r⟩ := W.off _ a _ ha hj
    refine ⟨?_, h.shaped hn⟩
    have r2 := repEs_sh r
    cases h with
    | lst l e =>
      refine .lst (.inl (.inl hv)) (dpAll_of (r2.length.trans l) fun i v d h1 h2 => ?_)
      obtain ⟨x, h3, h4⟩ := pd_right r2 i v h1
      exact (e i x d h3 h2).dp W h4
section
variable {X : Cx} {a b : Expr} {ρ : Rho} {μ : Mu} {pos : Pos} {x y : E} {d e : PyData}
theorem v2_eqD {Q : E → Mu → Prop} (h1 : DE μ x d) (h2 : DE μ y e) (q : Q (.sh (.bl (PyData.eqv d e))) μ) : V2 X.K (rEqD X.K) x y μ Q := fun ad Hb H v w W r1 r2 Q' g =>
  ⟨d, e, (h1.dp W r1).1, (h2.dp W r2).1, (h1.dp W r1).2, (h2.dp W r2).2, g.now W (x := .sh (.bl _)) (.bl _) q⟩
theorem v2_neD {Q : E → Mu → Prop} (h1 : DE μ x d) (h2 : DE μ y e) (q : Q (.sh (.bl (!PyData.eqv d e))) μ) : V2 X.K (rNeD X.K) x y μ Q := fun ad Hb H v w W r1 r2 Q' g =>
  ⟨d, e, (h1.dp W r1).1, (h2.dp W r2).1, (h1.dp W r1).2, (h2.dp W r2).2, g.now W (x := .sh (.bl _)) (.bl _) q⟩
theorem ev_eqD (hu : X.A.units + 64 < cLine) (ha : EV X a ρ μ x) (hb : EV X b ρ μ y) (h1 : DE μ x d) (h2 : DE μ y e) : EV X (.Compare a [.Eq] [b] pos) ρ μ (.sh (.bl (PyData.eqv d e))) := ev_cmp (op_eqD hu) (nomark _) ha hb fun Q q => v2_eqD h1 h2 q
theorem ev_neD (hu : X.A.units + 64 < cLine) (ha : EV X a ρ μ x) (hb : EV X b ρ μ y) (h1 : DE μ x d) (h2 : DE μ y e) : EV X (.Compare a [.NotEq] [b] pos) ρ μ (.sh (.bl (!PyData.eqv d e))) := ev_cmp (op_neD hu) (nomark _) ha hb fun Q q => v2_neD h1 h2 q
theorem et_eqD (hu : X.A.units + 64 < cLine) (ha : EV X a ρ μ x) (hb : EV X b ρ μ y) (h1 : DE μ x d) (h2 : DE μ y e) : ET X (.Compare a [.Eq] [b] pos) ρ μ (PyData.eqv d e) := et_cmp (op_eqD hu) (nomark _) ha hb fun Q q => v2_eqD h1 h2 q
theorem et_neD (hu : X.A.units + 64 < cLine) (ha : EV X a ρ μ x) (hb : EV X b ρ μ y) (h1 : DE μ x d) (h2 : DE μ y e) : ET X (.Compare a [.NotEq] [b] pos) ρ μ (!PyData.eqv d e) := et_cmp (op_neD hu) (nomark _) ha hb fun Q q => v2_neD h1 h2 q
end
theorem pd_ints {n : Nat} (ns : List Int) : PD (n + 1) (.lst (ns.map .int)) (.list (ns.map .int)) := .lst (by simp) fun i x d h1 h2 => by
  rw [List.getElem?_map] at h1 h2
  cases e : ns[i]? with
  | none => rw [e] at h1; cases h1
  | some z => rw [e] at h1 h2; cases h1; cases h2; exact .int _ _
theorem pd_nil {n : Nat} : PD (n + 1) (.lst []) (.list []) := .lst rfl fun i x d h1 h2 => by simp at h1
theorem eqv_nil (ds : List PyData) : PyData.eqv (.list ds) (.list []) = ds.isEmpty := by
  cases ds <;> simp [PyData.eqv, PyData.eqvAll]
theorem RoomG.u64 {g : Bool} {k : Nat} {A : Around} (r : RoomG g k A) : A.units + 64 < cLine := r.room.units
/-- what holds between two statements -/
theorem tsp_mid {X : Cx} {st : Stmt} {ρ : Rho} {μ : Mu} {D : Out} (M : Rho → Mu → Prop) (h : TSP X st ρ μ { D with nx := M }) (k : ∀ ρ1 μ1, M ρ1 μ1 → D.nx ρ1 μ1) : TSP X st ρ μ D := fun ad Hb H σ W N D' g => h ad Hb H σ W N D' ⟨fun σ' ρ' μ' ad' Hb' H' q s W' N' => g.nx σ' ρ' μ' ad' Hb' H' (k ρ' μ' q) s W' N', g.rt, g.bk, g.ct⟩
end PV

/-! index, range of what is not known beforehand. -/
namespace PV
open PySem PySem.Spec PyProof.Rows L2
theorem idx_min : ∀ (l : List Nat) (x m : Nat) (h : m < l.length), l[m] = x → l.idxOf x ≤ m
  | [], _, _, h, _ => absurd h (by simp)
  | a :: l, x, 0, _, e => by
    have e : a = x := e
    subst e
    simp
  | a :: l, x, m + 1, h, e => by
    have := idx_min l x m (by simpa using h) (by simpa using e)
    rw [List.idxOf_cons]
    by_cases c : a == x
    · simp [c]
    · simp [c]; omega
section
variable {X : Cx} {tg o e : Expr} {ρ : Rho} {μ : Mu} {apos cpos pos p2 : Pos} {l : List Nat} {x : Nat}
theorem rep_nats {K : PySem.W.Frag} {H : Hp} : ∀ {vs : List V} {l : List Nat}, RepL K H vs (natsP l) → vs = l.map fun e => V.int (e : Nat)
  | _, [], .nil => rfl
  | _, a :: l, .cons r t => by
    rw [Rep.int_inv r, rep_nats t]
    rfl
/-- order.index(x), x in it -/
theorem ev_indexN (ho : EV X o ρ μ (.sh (.lst (natsP l)))) (h : EV X e ρ μ (.sh (.int (x : Nat)))) (hx : x ∈ l)
    (hbase : attributeBase o "index" X.env (eval o X.env) = eval o X.env := by rfl)
    (hfew : ((backTo cpos (starEach [e] X.env)).all (fun x => !x.1) && (backToKw cpos (keywordEach [] X.env)).all (fun x => x.1.isSome) && decide ([e].length + ([] : List Keyword).length + (if ([] : List Keyword).isEmpty then 0 else 1) < 30)) = true := by rfl)
    (hline : (apos.endLine == cpos.line) = true := by rfl) (hs : starEach [e] X.env = (false, eval e X.env) :: starEach [] X.env := by rfl) : EV X (.Call (.Attribute o "index" apos) [e] [] cpos) ρ μ (.sh (.int (l.idxOf x : Nat))) := fun Q q =>
  tep_bm PySem.F.plainAttrs_list PySem.F.slot_list_index PySem.F.type_list_index mt_index (ho _ ⟨rfl, tap_cons (h _ (tap_nil fun ad Hb H v vs W r0 rs Q' g => by
    obtain ⟨w, rfl, rw_⟩ := vals1 rs
    obtain rfl := Rep.int_inv rw_
    obtain ⟨a, us, rfl, hq, r⟩ := Rep.lst_inv r0
    obtain rfl := rep_nats r
    have hl := List.idxOf_lt_length_iff.mpr hx
    refine ⟨a, _, _, l.idxOf x, .int (x : Nat), rfl, rfl, W.sqL hq, rfl, ?_, ?_, ?_, fun m z hm hz => ?_, g.now W (x := .sh (.int (l.idxOf x : Nat))) (.int _) q⟩
    · rw [List.all_map, List.all_eq_true]
      intro _ _
      rfl
    · rw [List.getElem?_map, List.getElem?_eq_getElem hl, List.getElem_idxOf hl]
      rfl
    · simp [eqV]
    · rw [List.getElem?_map, List.getElem?_eq_getElem (by omega)] at hz
      cases hz
      have : l[m] ≠ x := fun z => by have := idx_min l x m (by omega) z; omega
      have h2 : ¬ ((l[m] : Int) = (x : Int)) := fun z => this (by omega)
      simp [eqV, h2])) hs⟩) hbase hfew hline hs rfl
/-- for .. in range(e) -/
theorem tip_range1 {R : List E → (Mu → Prop) → Mu → Prop} (hm : X.mg "range" = none) (h : TEP X e ρ μ fun x μ1 => ∃ n : Nat, x = .sh (.int (n : Nat)) ∧ n < 100000 ∧ R ((List.range n).map fun i => .sh (.int (i : Nat))) (fun _ => True) μ1) (hg : Gl X "range" := by rfl) (hs : starEach [e] X.env = [(false, eval e X.env)] := by rfl) (hs2 : starEach [e] X.env = (false, eval e X.env) :: starEach [] X.env := by rfl) : TIP X tg (.Call (.Name "range" p2) [e] [] pos) ρ μ R := fun ad Hb H σ W N R' g => by
  refine pi_go (pi_range1 hg hm pa_self hs) ((tap_cons (Q := fun ys μ1 => ∃ n : Nat, ys = [.sh (.int (n : Nat))] ∧ n < 100000 ∧ R ((List.range n).map fun i => .sh (.int (i : Nat))) (fun _ => True) μ1) (fun ad Hb H σ W N Q' g => h ad Hb H σ W N Q' fun v x μ1 ad1 Hb1 H1 ⟨n, hx, hn, q⟩ s1 W1 r1 => g v x μ1 ad1 Hb1 H1 (tap_nil ⟨n, by rw [hx], hn, q⟩) s1 W1 r1) hs2) ad Hb H σ W N _ ?_)
  rintro vs ys μ1 ad1 Hb1 H1 ⟨n, rfl, hn, q⟩ s1 W1 r1
  obtain ⟨v, rfl, r⟩ := vals1 r1
  obtain rfl := Rep.int_inv r
  refine ⟨(n : Int), rfl, by omega, by omega, g _ _ _ _ _ _ _ q s1 W1 ?_⟩
  have w := pwalk_fn (K := X.K) (ad := ad1) (Hb := Hb1) (H := H1) (f' := fun i => .int (i : Nat)) (walk_range (lo := 0) (n := (n : Int).toNat)) fun i H => by
    rw [Int.zero_add]
    exact .int _
  exact w
end
end PV

/-! A cell lent to a pure def whose result is flat. -/
namespace PV
open PySem PySem.Spec PyProof.Rows L2
def flatP : P → Bool
  | .non => true
  | .bl _ => true
  | .int _ => true
  | .str _ => true
  | _ => false
theorem flat_rep {K : PySem.W.Frag} {H H2 : Hp} {v : V} {y : P} (h : flatP y = true) (r : Rep K H v y) : Rep K H2 v y := by
  cases r with
  | non => exact .non
  | bl b => exact .bl b
  | int i => exact .int i
  | str x => exact .str x
  | _ => cases h
abbrev Lent (μ : Mu) : List E → List P → Prop := Paired fun z p => z = .sh p ∨ ∃ j xs, z = .pt j ∧ p = .lst xs ∧ μ[j]? = some (some (.lst (xs.map .sh)))
theorem ev_lend {g : Bool} {X : Cx} {e : Expr} {es : List Expr} {ρ : Rho} {μ : Mu} {pos p2 : Pos} {k : Nat} {x : Str} {Fr : List P → P → Prop} (c : Ct g X.prog X.w X.K X.mg X.base k x (SF Fr)) (hr : RoomG g k X.A) {zs : List E} {ps : List P} {y : P} (h : EA X (e :: es) ρ μ zs) (hl : Lent μ zs ps) (hF : Fr ps y) (hy : flatP y = true) (hg : Gl X x := by rfl) (hdb : (x == ("__debug__" : Str)) = false := by decide)
    (he : starEach (e :: es) X.env = (false, eval e X.env) :: starEach es X.env := by rfl) (hpl : (backTo pos (starEach es X.env)).any (·.1) = false := by rfl) : EV X (.Call (.Name x p2) (e :: es) [] pos) ρ μ (.sh y) := fun Q q ad Hb H σ W N Q' g0 => by
  classical
  obtain ⟨f, fd, pn, h1, h2, h3, h4⟩ := c.ok
  refine pe_go (pe_callG (E := E0) h4 hr hg h1 h2 h3 pa_self hdb he hpl) (h (fun ys μ1 => ys = zs ∧ μ1 = μ) ⟨rfl, rfl⟩ ad Hb H σ W N _ ?_)
  rintro vs ys μ1 ad Hb1 H1 ⟨rfl, rfl⟩ s1 W r
  rw [List.append_nil]
  let live : Addr → Prop := fun a => ∃ (j : Nat) (xs : List P), ad[j]? = some a ∧ μ1[j]? = some (some (.lst (xs.map .sh)))
  let Hp2 : Hp := fun a => if live a then H1 a else Hb1 a
  have lv : ∀ {a}, live a → Hp2 a = H1 a ∧ Hb1 a = none ∧ ∃ us, H1 a = some (.lst us) := fun {a} l => by
    obtain ⟨j, xs, ha, hj⟩ := id l
    obtain ⟨b, us, hu, _⟩ := W.off j a _ ha hj
    exact ⟨if_pos l, b, us, hu⟩
  have dd : ∀ {a}, ¬ live a → Hp2 a = Hb1 a := fun l => if_neg l
  have ex : Ex Hb1 Hp2 := fun a o e => by
    by_cases l : live a
    · rw [(lv l).2.1] at e; cases e
    · rw [dd l]; exact e
  have W0 : Wd X.K [] Hp2 H1 [] := ⟨rfl, fun a u e => by
    by_cases l : live a
    · rw [(lv l).1] at e
      exact Std.of e
    · rw [dd l] at e
      exact W.inc a u e, fun j a c h => by simp at h, fun i j a c d h => by simp at h, fun a h => by simp at h⟩
  have rp : RepL X.K Hp2 vs ps := by
    clear h hF g0
    induction hl generalizing vs with
    | nil => cases r; exact .nil
    | cons hz _ ih =>
      cases r with
      | cons r t =>
        refine .cons ?_ (ih _ t)
        rcases hz with rfl | ⟨j, xs, rfl, rfl, hj⟩
        · exact Rep.mono ex r
        · obtain ⟨a, ha, rfl⟩ := r
          have l : live a := ⟨j, xs, ha, hj⟩
          obtain ⟨b, us, hu, ru⟩ := W.off j a _ ha hj
          exact Rep.lstL ((lv l).1.trans hu) (RepL.mono ex (repEs_sh ru))
  refine ⟨[], Hp2, [], ps.map .sh, fun z _ => z = .sh y, W0, repEs_of rp, ⟨ps, y, rfl, hF, rfl⟩, fun v z μ' ad' Hb' H' hz s' W' r' => ?_⟩
  subst hz
  -- what stood stands, or is locked
  have keep : ∀ {a o}, H1 a = some o → Hb1 a = none → H' a = some o := fun {a o} e n => by
    rcases s'.fr a o (by simp) e with z | ⟨_, d, z, _⟩
    · exact z
    · by_cases l : live a
      · obtain ⟨_, _, us, hu⟩ := lv l
        rw [hu] at e
        cases e
        cases d
      · rw [dd l, n] at z
        cases z
  refine g0 v (.sh y) μ1 ad Hb1 H' q (s1.trans ⟨Ex.refl _, ⟨[], by simp⟩, fun _ z => .inl z, fun a o _ e => ?_, fun _ _ _ _ _ n => n, fun a u q hb e => s'.bs a u q (ex a u hb) e⟩) ⟨W.len, fun a u hb => ?_, fun j a c ha hc => ?_, W.nd, fun a ha => ?_⟩ (flat_rep hy r')
  · rcases s'.fr a o (by simp) e with z | ⟨q, d, z, z2⟩
    · exact .inl z
    · refine .inr ⟨q, d, ?_, z2⟩
      by_cases l : live a
      · obtain ⟨_, _, us, hu⟩ := lv l
        rw [hu] at e
        cases e
        cases d
      · rw [← dd l]; exact z
  · have st := W.inc a u hb
    have gen : ∀ o, H1 a = some o → H' a = some o ∨ ∃ q, isD o = true ∧ H' a = some (.frz q o) := fun o e => by
      rcases s'.fr a o (by simp) e with z | ⟨q, d, _, z⟩
      · exact .inl z
      · exact .inr ⟨q, d, z⟩
    cases u with
    | dT kvs =>
      rcases st with z | ⟨o, z⟩
      · rcases gen _ z with z | ⟨q, _, z⟩
        · exact .inl z
        · exact .inr ⟨q, z⟩
      · exact .inr ⟨o, s'.bs a _ o (ex a _ hb) z⟩
    | dK kvs =>
      rcases st with z | ⟨o, z⟩
      · rcases gen _ z with z | ⟨q, _, z⟩
        · exact .inl z
        · exact .inr ⟨q, z⟩
      · exact .inr ⟨o, s'.bs a _ o (ex a _ hb) z⟩
    | _ =>
      rcases gen _ st with z | ⟨q, d, z⟩
      · exact z
      · cases d
  · obtain ⟨n, ok⟩ := W.off j a c ha hc
    obtain ⟨o, e, _⟩ := ok.some
    exact ⟨n, ok.keep ((keep e n).trans e.symm) fun _ _ r => r⟩
  · cases e : H1 a with
    | none => exact absurd e (W.trk a ha)
    | some o => exact s'.fr1 (by simp) e
end PV

/-! a <= b < c. -/
namespace PV
open PySem PySem.Spec PyProof.Rows L2
section
variable {X : Cx} {a b c : Expr} {ρ : Rho} {μ : Mu} {pos : Pos} {i j k : Int}
/-- i <= j < k -/
theorem ev_leLt (ha : EV X a ρ μ (.sh (.int i))) (hb : EV X b ρ μ (.sh (.int j))) (hc : EV X c ρ μ (.sh (.int k))) (hm : lastMarks [.LtE, .Lt] [b, c] = false := by with_unfolding_all rfl) : EV X (.Compare a [.LtE, .Lt] [b, c] pos) ρ μ (.sh (.bl (decide (i ≤ j) && decide (j < k)))) := fun Q q ad Hb H σ W N Q' g => by
  refine pe_go (pe_chain op_le op_lt pe_self pe_self pe_self hm) (ha (fun y μ1 => y = .sh (.int i) ∧ μ1 = μ) ⟨rfl, rfl⟩ ad Hb H σ W N _ ?_)
  rintro v y μ1 ad1 Hb1 H1 ⟨rfl, rfl⟩ s1 W1 r1
  refine hb (fun y μ2 => y = .sh (.int j) ∧ μ2 = μ1) ⟨rfl, rfl⟩ ad1 Hb1 H1 σ W1 (N.step s1) _ ?_
  rintro w y μ2 ad2 Hb2 H2 ⟨rfl, rfl⟩ s2 W2 r2
  obtain rfl := Rep.int_inv r1
  obtain rfl := Rep.int_inv r2
  refine ⟨i, j, rfl, rfl, decide (i ≤ j), rfl, ?_⟩
  by_cases h : i ≤ j
  · rw [if_pos (decide_eq_true h)]
    refine hc (fun y μ3 => y = .sh (.int k) ∧ μ3 = μ2) ⟨rfl, rfl⟩ ad2 Hb2 H2 σ W2 ((N.step s1).step s2) _ ?_
    rintro u y μ3 ad3 Hb3 H3 ⟨rfl, rfl⟩ s3 W3 r3
    obtain rfl := Rep.int_inv r3
    rw [decide_eq_true h, Bool.true_and] at q
    exact ⟨j, k, rfl, rfl, g _ (.sh (.bl _)) _ _ _ _ q ((s1.trans s2).trans s3) W3 (.bl _)⟩
  · rw [if_neg (by simpa using h)]
    rw [decide_eq_false h, Bool.false_and] at q
    exact g _ (.sh (.bl _)) _ _ _ _ q (s1.trans s2) W2 (.bl _)
end
end PV

/-! xs[:e], xs + e, where e draws. -/
namespace PV
open PySem PySem.Spec PyProof.Rows L2
section
variable {X : Cx} {a b e : Expr} {ρ : Rho} {μ : Mu} {Q : E → Mu → Prop} {pos p2 : Pos} {xs ys : List P}
theorem tep_sliceHi (ha : EV X a ρ μ (.sh (.lst xs))) (h : TEP X e ρ μ fun y μ1 => ∃ j : Int, y = .sh (.int j) ∧ Q (.sh (.lst (cutP xs none (some j)))) μ1) : TEP X (.Subscript a (.Slice none (some e) none p2) pos) ρ μ Q := fun ad Hb H σ W N Q' g => by
  refine pe_go (pe_slice sl_list pe_self po_none (po_some pe_self)) (ha (fun y μ1 => y = .sh (.lst xs) ∧ μ1 = μ) ⟨rfl, rfl⟩ ad Hb H σ W N _ ?_)
  rintro v x μ1 ad1 Hb1 H1 ⟨rfl, rfl⟩ s1 W1 r1
  refine h ad1 Hb1 H1 σ W1 (N.step s1) _ ?_
  rintro w y μ2 ad2 Hb2 H2 ⟨j, rfl, q⟩ s2 W2 r2
  obtain rfl := Rep.int_inv r2
  refine ⟨j, rfl, ?_⟩
  obtain ⟨a, vs, rfl, hq, r⟩ := Rep.lst_inv (Rep.mono s2.ex r1)
  refine ⟨a, vs, rfl, W2.sqL hq, fun p hp => ?_⟩
  obtain ⟨W4, s4⟩ := W2.alloc (o := .lst (cutV vs none (some j))) hp
  exact g _ (.sh (.lst (cutP xs none (some j)))) _ _ _ _ q ((s1.trans s2).trans s4) W4 (Rep.lstL upd_same (RepL.mono s4.ex (pd_cut r none (some j))))
theorem v2_cat (hl : xs.length + ys.length ≤ 100000) (q : Q (.sh (.lst (xs ++ ys))) μ) : V2 X.K rCat (.sh (.lst xs)) (.sh (.lst ys)) μ Q := fun ad Hb H v w W r1 r2 Q' g => by
  obtain ⟨a, vs, rfl, h1, r1⟩ := Rep.lst_at r1
  obtain ⟨b, ws, rfl, h2, r2⟩ := Rep.lst_at r2
  refine ⟨a, b, vs, ws, rfl, rfl, W.inc _ _ h1, W.inc _ _ h2, Nat.le_trans (by rw [r1.length, r2.length]; exact hl) (by decide), fun p hp => ?_⟩
  obtain ⟨W2, s2⟩ := W.alloc (o := .lst (vs ++ ws)) hp
  exact g _ (.sh (.lst (xs ++ ys))) _ _ _ _ q s2 W2 (Rep.lstL upd_same (RepL.mono s2.ex (pd_app r1 r2)))
theorem tep_cat (h : TEP X a ρ μ fun x μ1 => TEP X b ρ μ1 fun y μ2 => ∃ xs ys : List P, x = .sh (.lst xs) ∧ y = .sh (.lst ys) ∧ xs.length + ys.length ≤ 100000 ∧ Q (.sh (.lst (xs ++ ys))) μ2) : TEP X (.BinOp a .Add b pos) ρ μ Q :=
  tep_op op_cat (fun ad Hb H σ W N Q' g => h ad Hb H σ W N Q' fun v x μ1 ad1 Hb1 H1 hx s W1 r => g v x μ1 ad1 Hb1 H1 (fun ad Hb H σ W N Q' g => hx ad Hb H σ W N Q' fun v y μ2 ad1 Hb1 H1 hy s W1 r => g v y μ2 ad1 Hb1 H1 (by
    obtain ⟨xs, ys, rfl, rfl, hl, q⟩ := hy
    exact v2_cat hl q) s W1 r) s W1 r)
end
end PV

/-! repr of data; == and != of texts. -/
namespace PV
open PySem PySem.Spec PyProof.Rows L2
def rReprD (K : PySem.W.Frag) : List V → Hp → VK → Prop := fun xs H Q => ∃ v d, xs = [v] ∧ Dp K H v d ∧ d.showable = true ∧ d.hasDict = false ∧ d.depth ≤ 60 ∧ d.shown.length ≤ sizeLine ∧ Q (.str d.shown) H
theorem call_reprD {X : Cx} (hg : X.A.guards = some []) (hu : X.A.units + 64 < cLine) : CallR X (.builtin "repr") (rReprD X.K) := by
  intro pins s σ H xs us Q I r h
  obtain ⟨v, d, rfl, hd, hs, hn, hdp, hz, q⟩ := h
  obtain ⟨u, rfl, rv⟩ := L2.vals1 r
  obtain ⟨as, hr⟩ := Dp.reads I d v u hd rv
  cases hd with
  | non =>
    cases rv
    exact PySem.P.repr_of_none ⟨.str _, H, I.tok _, ⟨_, rfl⟩, q⟩
  | bl b =>
    cases rv
    exact PySem.P.repr_of_bool ⟨.str _, H, I.tok _, ⟨_, rfl⟩, q⟩
  | int i =>
    obtain ⟨t, rfl⟩ := rv
    exact PySem.P.repr_of_int (by simpa [PyData.showable] using hs) ⟨.str _, H, I.tok _, ⟨_, rfl⟩, q⟩
  | str x =>
    obtain ⟨t, rfl⟩ := rv
    exact PySem.P.repr_of_str ⟨.str _, H, I.tok _, ⟨_, rfl⟩, q⟩ (by simpa only [PyData.shown] using hz)
  | lst h1 h2 =>
    cases rv
    exact repr_of_reads' hr hs (PySem.PyData.noDict_hsm hn) hg (by omega) (fun _ _ e => e) (fun h' u tk hk => ⟨.str _, H, I.kept hk, ⟨_, rfl⟩, q⟩) hz
  | tup h1 h2 =>
    cases rv
    exact repr_of_reads' hr hs (PySem.PyData.noDict_hsm hn) hg (by omega) (fun _ _ e => e) (fun h' u tk hk => ⟨.str _, H, I.kept hk, ⟨_, rfl⟩, q⟩) hz
section
variable {X : Cx} {a b e : Expr} {ρ : Rho} {μ : Mu} {Q : E → Mu → Prop} {pos p2 : Pos}
theorem ev_repr {k : Nat} {x : E} {d : PyData} (hr : RoomG true k X.A) (hm : X.mg "repr" = none) (h : EV X e ρ μ x) (hd : DE μ x d) (hs : d.showable = true) (hn : d.hasDict = false) (hdp : d.depth ≤ 60) (hz : d.shown.length ≤ sizeLine) (hg : Gl X "repr" := by rfl) (hst : starEach [e] X.env = (false, eval e X.env) :: starEach [] X.env := by rfl) :
    EV X (.Call (.Name "repr" p2) [e] [] pos) ρ μ (.sh (.str d.shown)) :=
  ev_callB (call_reprD (hr.gd rfl) hr.u64) hg hm bo_repr (ea_cons h ea_nil hst) (fun Q q ad Hb H vs W r0 Q' g => by
    obtain ⟨v, rfl, r⟩ := vals1 r0
    exact ⟨v, d, rfl, (hd.dp W r).1, hs, hn, hdp, hz, g.now W (x := .sh (.str _)) (.str _) q⟩) (by decide) (by decide) hst rfl
theorem ev_eqS {x y : Str} (ha : EV X a ρ μ (.sh (.str x))) (hb : EV X b ρ μ (.sh (.str y))) : EV X (.Compare a [.Eq] [b] pos) ρ μ (.sh (.bl (decide (x = y)))) := ev_cmp op_eq (nomark _) ha hb fun Q q ad Hb H v w W r1 r2 Q' k => by
  obtain rfl := Rep.str_inv r1
  obtain rfl := Rep.str_inv r2
  refine ⟨rfl, ?_⟩
  have e : (decide (V.str x = V.str y)) = decide (x = y) := decide_eq_decide.mpr ⟨fun z => by cases z; rfl, fun z => by rw [z]⟩
  rw [e]
  exact k.now W (x := .sh (.bl (decide (x = y)))) (.bl _) q
theorem ev_neS {x y : Str} (ha : EV X a ρ μ (.sh (.str x))) (hb : EV X b ρ μ (.sh (.str y))) : EV X (.Compare a [.NotEq] [b] pos) ρ μ (.sh (.bl (!decide (x = y)))) := ev_cmp op_ne (nomark _) ha hb fun Q q ad Hb H v w W r1 r2 Q' k => by
  obtain rfl := Rep.str_inv r1
  obtain rfl := Rep.str_inv r2
  refine ⟨rfl, ?_⟩
  have e : (decide (V.str x = V.str y)) = decide (x = y) := decide_eq_decide.mpr ⟨fun z => by cases z; rfl, fun z => by rw [z]⟩
  rw [e]
  exact k.now W (x := .sh (.bl (!decide (x = y)))) (.bl _) q
end
end PV

/-! Cells of any depth lent to a pure def whose result is flat; a cell shared from an expression on. -/
namespace PV
open PySem PySem.Spec PyProof.Rows L2
def iE : P ⊕ Nat → E
  | .inl x => .sh x
  | .inr j => .pt j
theorem repI_E {K : PySem.W.Frag} {ad : List Addr} {H : Hp} {v : V} {x : P ⊕ Nat} : RepI K ad H v x ↔ RepE K ad H v (iE x) := by cases x <;> exact Iff.rfl
/-- what a cell may be lent as: lists, locked dicts -/
inductive Lend (μ : Mu) : E → P → Prop
  | sh (x : P) : Lend μ (.sh x) x
  | lst {j : Nat} {zs : List E} {xs : List P} (h : μ[j]? = some (some (.lst zs))) (l : zs.length = xs.length) (e : ∀ (i : Nat) (z : E) (x : P), zs[i]? = some z → xs[i]? = some x → Lend μ z x) : Lend μ (.pt j) (.lst xs)
  | lk {j : Nat} {o : Obj} {ks : List (List Key × V)} {zs : List (List Key × E)} {xs : List (List Key × P)} (h : μ[j]? = some (some (.lk o ks zs))) (l : zs.map (·.1) = xs.map (·.1)) (e : ∀ (i : Nat) (z : List Key × E) (x : List Key × P), zs[i]? = some z → xs[i]? = some x → Lend μ z.2 x.2) : Lend μ (.pt j) (.dT xs)
  | tp {xs : List (P ⊕ Nat)} {ps : List P} (l : xs.length = ps.length) (e : ∀ (i : Nat) (x : P ⊕ Nat) (p : P), xs[i]? = some x → ps[i]? = some p → Lend μ (iE x) p) : Lend μ (.tp xs) (.tup ps)
theorem Lend.lstS {μ : Mu} {j : Nat} {xs : List P} (h : μ[j]? = some (some (.lst (xs.map .sh)))) : Lend μ (.pt j) (.lst xs) := .lst h (by simp) fun i z x h1 h2 => by
  rw [List.getElem?_map, h2] at h1
  cases h1
  exact .sh x
theorem Lend.lkS {μ : Mu} {j : Nat} {o : Obj} {ks : List (List Key × V)} {xs : List (List Key × P)} (h : μ[j]? = some (some (.lk o ks (xs.map fun q => (q.1, .sh q.2))))) : Lend μ (.pt j) (.dT xs) := .lk h (by rw [List.map_map]; rfl) fun i z x h1 h2 => by
  rw [List.getElem?_map, h2] at h1
  cases h1
  exact .sh x.2
theorem lend_pd {K : PySem.W.Frag} {ad : List Addr} {Hb Hb2 : Hp} {μ : Mu} (lend : ∀ x y, Lend μ x y → ∀ v, RepE K ad Hb v x → Rep K Hb2 v y) : ∀ {vs : List V} {zs : List E} {ps : List P}, RepEs K ad Hb vs zs → Paired (Lend μ) zs ps → RepL K Hb2 vs ps
  | _, _, _, .nil, .nil => .nil
  | _, _, _, .cons r t, .cons f g => .cons (lend _ _ f _ r) (lend_pd lend t g)
theorem tep_lend {g : Bool} {X : Cx} {e : Expr} {es : List Expr} {ρ : Rho} {μ : Mu} {pos p2 : Pos} {k : Nat} {x : Str} {Fr : List P → P → Prop} (c : Ct g X.prog X.w X.K X.mg X.base k x (SF Fr)) (hr : RoomG g k X.A) {Q : E → Mu → Prop}
    (h : TAP X (e :: es) ρ μ fun zs μ1 => ∃ ps y, Paired (Lend μ1) zs ps ∧ Fr ps y ∧ flatP y = true ∧ Q (.sh y) μ1) (hg : Gl X x := by rfl) (hdb : (x == ("__debug__" : Str)) = false := by decide)
    (he : starEach (e :: es) X.env = (false, eval e X.env) :: starEach es X.env := by rfl) (hpl : (backTo pos (starEach es X.env)).any (·.1) = false := by rfl) : TEP X (.Call (.Name x p2) (e :: es) [] pos) ρ μ Q := fun ad0 Hb0 H0 σ W0 N0 Q' g0 => by
  classical
  obtain ⟨f, fd, pn, h1, h2, h3, h4⟩ := c.ok
  refine pe_go (pe_callG (E := E0) h4 hr hg h1 h2 h3 pa_self hdb he hpl) (h ad0 Hb0 H0 σ W0 N0 _ ?_)
  rintro vs zs μ1 ad Hb1 H1 ⟨ps, y, hl, hF, hy, q⟩ s1 W r
  rw [List.append_nil]
  let live : Addr → Prop := fun a => ∃ (j : Nat) (c : Cell), ad[j]? = some a ∧ μ1[j]? = some (some c) ∧ ((∃ zs, c = .lst zs) ∨ ∃ o ks zs, c = .lk o ks zs)
  let un : Option HO → Option HO := fun o => match o with
    | some (.frz _ u) => some u
    | o => o
  let Hp2 : Hp := fun a => if live a then un (H1 a) else Hb1 a
  have lv : ∀ {a}, live a → Hp2 a = un (H1 a) ∧ Hb1 a = none ∧ ((∃ us, H1 a = some (.lst us)) ∨ ∃ o ks, H1 a = some (.frz o (.dT ks))) := fun {a} l => by
    obtain ⟨j, c, ha, hj, hc⟩ := id l
    obtain ⟨b, ok⟩ := W.off j a _ ha hj
    refine ⟨if_pos l, b, ?_⟩
    rcases hc with ⟨zs, rfl⟩ | ⟨o, ks, zs, rfl⟩
    · obtain ⟨us, hu, _⟩ := ok
      exact .inl ⟨us, hu⟩
    · exact .inr ⟨o, ks, ok.1⟩
  have dd : ∀ {a}, ¬ live a → Hp2 a = Hb1 a := fun l => if_neg l
  have ex : Ex Hb1 Hp2 := fun a o e => by
    by_cases l : live a
    · rw [(lv l).2.1] at e; cases e
    · rw [dd l]; exact e
  have W0 : Wd X.K [] Hp2 H1 [] := ⟨rfl, fun a u e => by
    by_cases l : live a
    · obtain ⟨e1, _, ⟨us, hu⟩ | ⟨o, ks, hu⟩⟩ := lv l
      · rw [e1, hu] at e
        cases e
        exact hu
      · rw [e1, hu] at e
        cases e
        exact .inr ⟨o, hu⟩
    · rw [dd l] at e
      exact W.inc a u e, fun j a c h => by simp at h, fun i j a c d h => by simp at h, fun a h => by simp at h⟩
  have lend : ∀ x y, Lend μ1 x y → ∀ v, RepE X.K ad Hb1 v x → Rep X.K Hp2 v y := by
    intro x y hxy
    induction hxy with
    | sh x => exact fun v r => Rep.mono ex r
    | @lst j zs xs h l e ih =>
      intro v r
      obtain ⟨a, ha, rfl⟩ := r
      obtain ⟨_, vs, hv, r⟩ := W.off j a _ ha h
      have hlv := (lv ⟨j, _, ha, h, .inl ⟨zs, rfl⟩⟩).1
      rw [hv] at hlv
      refine .lst hlv (r.length.trans l) fun i v x h1 h2 => ?_
      obtain ⟨z, h3, h4⟩ := pd_right r i v h1
      exact ih i z x h3 h2 v h4
    | @tp xs ps l e ih =>
      intro v r
      obtain ⟨a, vs, rfl, h, r⟩ := r
      refine .tup (ex _ _ h) (r.length.trans l) fun i v p h1 h2 => ?_
      obtain ⟨z, h3, h4⟩ := pd_right r i v h1
      exact ih i z p h3 h2 v (repI_E.mp h4)
    | @lk j o ks zs xs h l e ih =>
      intro v r
      obtain ⟨a, ha, rfl⟩ := r
      obtain ⟨_, hv, r⟩ := W.off j a _ ha h
      have hlv := (lv ⟨j, _, ha, h, .inr ⟨o, ks, zs, rfl⟩⟩).1
      rw [hv] at hlv
      refine .dT hlv ((pd_fst r).trans l) fun i v x h1 h2 => ?_
      obtain ⟨z, h3, h4⟩ := pd_right r i v h1
      exact ih i z x h3 h2 v.2 h4.2
  have rp : RepL X.K Hp2 vs ps := lend_pd lend r hl
  refine ⟨[], Hp2, [], ps.map .sh, fun z _ => z = .sh y, W0, repEs_of rp, ⟨ps, y, rfl, hF, rfl⟩, fun v z μ' ad' Hb' H' hz s' W' r' => ?_⟩
  subst hz
  -- what stood stands, or is locked
  have keep : ∀ {a o}, H1 a = some o → Hb1 a = none → H' a = some o := fun {a o} e n => by
    by_cases l : live a
    · obtain ⟨e1, _, ⟨us, hu⟩ | ⟨q, ks, hu⟩⟩ := lv l
      · rcases s'.fr a o (by simp) e with z | ⟨_, d, z, _⟩
        · exact z
        · rw [hu] at e
          cases e
          cases d
      · rw [hu] at e1
        rw [e] at hu
        cases hu
        exact s'.bs a (.dT ks) q e1 e
    · rcases s'.fr a o (by simp) e with z | ⟨_, d, z, _⟩
      · exact z
      · rw [dd l, n] at z
        cases z
  refine g0 v (.sh y) μ1 ad Hb1 H' q (s1.trans ⟨Ex.refl _, ⟨[], by simp⟩, fun _ z => .inl z, fun a o _ e => ?_, fun _ _ _ _ _ n => n, fun a u q hb e => s'.bs a u q (ex a u hb) e⟩) ⟨W.len, fun a u hb => ?_, fun j a c ha hc => ?_, W.nd, fun a ha => ?_⟩ (flat_rep hy r')
  · by_cases l : live a
    · exact .inl (keep e (lv l).2.1)
    · rcases s'.fr a o (by simp) e with z | ⟨q, d, z, z2⟩
      · exact .inl z
      · exact .inr ⟨q, d, by rw [← dd l]; exact z, z2⟩
  · have st := W.inc a u hb
    have gen : ∀ o, H1 a = some o → H' a = some o ∨ ∃ q, isD o = true ∧ H' a = some (.frz q o) := fun o e => by
      rcases s'.fr a o (by simp) e with z | ⟨q, d, _, z⟩
      · exact .inl z
      · exact .inr ⟨q, d, z⟩
    cases u with
    | dT kvs =>
      rcases st with z | ⟨o, z⟩
      · rcases gen _ z with z | ⟨q, _, z⟩
        · exact .inl z
        · exact .inr ⟨q, z⟩
      · exact .inr ⟨o, s'.bs a _ o (ex a _ hb) z⟩
    | dK kvs =>
      rcases st with z | ⟨o, z⟩
      · rcases gen _ z with z | ⟨q, _, z⟩
        · exact .inl z
        · exact .inr ⟨q, z⟩
      · exact .inr ⟨o, s'.bs a _ o (ex a _ hb) z⟩
    | _ =>
      rcases gen _ st with z | ⟨q, d, z⟩
      · exact z
      · cases d
  · obtain ⟨n, ok⟩ := W.off j a c ha hc
    obtain ⟨o, e, _⟩ := ok.some
    exact ⟨n, ok.keep ((keep e n).trans e.symm) fun _ _ r => r⟩
  · cases e : H1 a with
    | none => exact absurd e (W.trk a ha)
    | some o => exact s'.fr1 (by simp) e
/-- a cell's dict joins the base -/
theorem Wd.shareT {K : PySem.W.Frag} {ad : List Addr} {Hb H : Hp} {μ : Mu} (W : Wd K ad Hb H μ) {j : Nat} {zs : List (List Key × P)} (hj : μ[j]? = some (some (.dT (zs.map fun q => (q.1, .sh q.2))))) :
    ∃ a Hb2, ad[j]? = some a ∧ Wd K ad Hb2 H (μ.set j none) ∧ Step ad Hb H ad Hb2 H ∧ Rep K Hb2 (.ref a) (.dT zs) := by
  have hl : j < μ.length := (List.getElem?_eq_some_iff.mp hj).1
  have hla : j < ad.length := by rw [W.len]; exact hl
  obtain ⟨a, ha⟩ : ∃ a, ad[j]? = some a := ⟨_, List.getElem?_eq_getElem hla⟩
  obtain ⟨b1, vs, hv, r⟩ := W.off j a _ ha hj
  have s : Step ad Hb H ad (upd Hb a (.dT vs)) H := ⟨Ex.new b1, ⟨[], by simp⟩, fun _ z => .inl z, fun _ _ _ z => .inl z, fun b o hb e t n => by
    rw [upd_ne (fun z => hb (by rw [z]; exact List.mem_of_getElem? ha))]
    exact n, fun _ _ _ _ z => z⟩
  have sp : ∀ (i : Nat) (b : Addr) (c : Cell), ad[i]? = some b → (μ.set j none)[i]? = some (some c) → b ≠ a ∧ μ[i]? = some (some c) := fun i b c hb hc => by
    by_cases e : j = i
    · subst e
      rw [List.getElem?_set_self hl] at hc
      cases hc
    · rw [List.getElem?_set_ne e] at hc
      refine ⟨fun z => ?_, hc⟩
      subst z
      exact e (W.nd j i b _ c ha hb hj hc)
  refine ⟨a, upd Hb a (.dT vs), ha, ⟨by rw [List.length_set]; exact W.len, fun b u e => ?_, fun i b c hb hc => ?_, fun i k b c d hi hk hc hd => W.nd i k b c d hi hk (sp i b c hi hc).2 (sp k b d hk hd).2, W.trk⟩, s, .dT upd_same (pd_fst (pd_unmap r)) fun i v x h5 h6 => Rep.mono s.ex (pd_get (pd_unmap r) i v x h5 h6).2⟩
  · by_cases eb : b = a
    · subst eb
      rw [upd_same] at e
      cases e
      exact .inl hv
    · rw [upd_ne eb] at e
      exact W.inc b u e
  · obtain ⟨n, hc2⟩ := sp i b c hb hc
    obtain ⟨h3, h4⟩ := W.off i b c hb hc2
    exact ⟨by rw [upd_ne n]; exact h3, h4.keep rfl fun v x r => RepE.step s r⟩
/-- what e yields, a dict, is as good as shared from here on -/
theorem tep_shareT {X : Cx} {e : Expr} {ρ : Rho} {μ : Mu} {Q : E → Mu → Prop} (h : TEP X e ρ μ fun x μ1 => (∃ p, x = .sh p ∧ Q x μ1) ∨ ∃ j kvs, x = .pt j ∧ μ1[j]? = some (some (.dT (kvs.map fun q => (q.1, .sh q.2)))) ∧ Q (.sh (.dT kvs)) (μ1.set j none)) : TEP X e ρ μ Q := fun ad Hb H σ W N Q' g => by
  refine h ad Hb H σ W N Q' ?_
  rintro v x μ1 ad1 Hb1 H1 (⟨p, rfl, q⟩ | ⟨j, kvs, rfl, hj, q⟩) s1 W1 r1
  · exact g v _ μ1 ad1 Hb1 H1 q s1 W1 r1
  · obtain ⟨a, Hb2, ha, W2, s2, r2⟩ := W1.shareT hj
    obtain ⟨b, hb, rfl⟩ := r1
    rw [ha] at hb
    cases hb
    exact g _ (.sh (.dT kvs)) _ ad1 Hb2 H1 q (s1.trans s2) W2 r2
/-- new objects all around: one of them joins the base -/
theorem Wd.lay {K : PySem.W.Frag} {ad : List Addr} {Hb H H' : Hp} {μ : Mu} (W : Wd K ad Hb H μ) (k : ∀ b o, H b = some o → H' b = some o) {p : Addr} {o : HO} (hp : H p = none) (e : H' p = some o) : Wd K ad (upd Hb p o) H' μ ∧ Step ad Hb H ad (upd Hb p o) H' := by
  have hb := W.base_none hp
  have at_ : ∀ {a o}, H a = some o → a ≠ p ∧ H' a = H a := fun {a o} h => ⟨ne_of_none h hp, (k _ _ h).trans h.symm⟩
  refine ⟨⟨W.len, fun a u h => ?_, fun j a c ha hc => ?_, W.nd, fun a ha => ?_⟩, ⟨Ex.new hb, ⟨[], by simp⟩, fun _ z => .inl z, fun a u _ h => .inl (k _ _ h), fun a u _ h _ n => ?_, fun a u q _ h => k _ _ h⟩⟩
  · by_cases ea : a = p
    · subst ea
      rw [upd_same] at h
      cases h
      exact Std.of e
    · rw [upd_ne ea] at h
      have st := W.inc a u h
      cases hH : H a with
      | none => cases u <;> (simp only [Std, Rd] at st; rw [hH] at st; first | (rcases st with z | ⟨_, z⟩ <;> cases z; done) | cases st)
      | some o2 => exact st.keep (at_ hH).2
  · obtain ⟨h1, h2⟩ := W.off j a c ha hc
    obtain ⟨o2, h3, _⟩ := h2.some
    exact ⟨by rw [upd_ne (at_ h3).1]; exact h1, h2.keep (at_ h3).2 fun v x r => repE_mono (Ex.new hb) ⟨[], by simp⟩ r⟩
  · cases hH : H a with
    | none => exact absurd hH (W.trk a ha)
    | some o2 => rw [k _ _ hH]; exact fun z => nomatch z
  · rw [upd_ne (at_ h).1]
    exact n
end PV

/-! Dicts of tuple keys: list(d.items()), dict(pairs), == of different sizes. -/
namespace PV
open PySem PySem.Spec PyProof.Rows L2
/-! ### list(d.items()) -/
def putV : Hp → List Addr → List (V × V) → Hp
  | H, a :: as, p :: kvs => putV (upd H a (.tup [p.1, p.2])) as kvs
  | H, _, _ => H
theorem putV_off {b : Addr} : ∀ (as : List Addr) (kvs : List (V × V)) (H : Hp), b ∉ as → putV H as kvs b = H b
  | [], _, _, _ => rfl
  | _ :: _, [], _, _ => rfl
  | a :: as, p :: kvs, H, h => by
    show putV (upd H a (.tup [p.1, p.2])) as kvs b = H b
    rw [putV_off as kvs _ (fun z => h (List.mem_cons_of_mem _ z)), upd_ne (fun z => h (by rw [z]; exact List.mem_cons_self))]
theorem putV_at : ∀ (as : List Addr) (kvs : List (V × V)) (H : Hp), as.Nodup → ∀ (i : Nat) (t : Addr) (p : V × V), as[i]? = some t → kvs[i]? = some p → putV H as kvs t = some (.tup [p.1, p.2])
  | [], _, _, _, _, _, _, h, _ => by simp at h
  | _ :: _, [], _, _, _, _, _, _, h => by simp at h
  | a :: as, q :: kvs, H, hn, 0, t, p, h1, h2 => by
    simp at h1 h2
    subst h1
    subst h2
    show putV (upd H a (.tup [q.1, q.2])) as kvs a = _
    rw [putV_off as kvs _ (List.nodup_cons.mp hn).1, upd_same]
  | a :: as, q :: kvs, H, hn, i + 1, t, p, h1, h2 => putV_at as kvs _ (List.nodup_cons.mp hn).2 i t p (by simpa using h1) (by simpa using h2)
def rItemsLT : V → Hp → VK → Prop := fun x H Q => ∃ (d : Addr) (kvs : List (List Key × V)), x = .ref d ∧ Rd H d (.dT kvs) ∧
  ∀ (H' : Hp) (p : Addr) (ts : List Addr), (∀ b o, H b = some o → H' b = some o) → H p = none → H' p = some (.lst (ts.map V.ref)) → ts.length = kvs.length →
    (∀ (i : Nat) (t : Addr) (q : List Key × V), ts[i]? = some t → kvs[i]? = some q → ∃ b, H b = some (.tup (q.1.map kV)) ∧ H' t = some (.tup [.ref b, q.2])) → Q (.ref p) H'
section
variable {X : Cx} {e : Expr} {te : TE} {p apos cpos pos : Pos}
theorem items_laidT {pins : List (Addr × Obj)} {σ : L2.St} {H : Hp} {s : Shared} {h' : Heap} {tk : Nat} {kvs : List (List Key × V)} {es : Array DictEntry} {acc : Array Value} {c : Nat} {as : List Addr} (I : Inv X pins σ H s) (hz : kvs.length ≤ sizeLine) (hsz : es.size = kvs.length)
    (ent : ∀ (i : Nat) (hi : i < es.size), ∃ (k : List Key) (v : V) (q : Addr), kvs[i]? = some (k, v) ∧ es[i].key = .ref q ∧ H q = some (.tup (k.map kV)) ∧ RelV v es[i].val)
    (hk : ∀ b o, s.heap.get? b = some o → h'.get? b = some o) (hS : h'.get? s.heap.objs.size = some { cls := .type "list", dict := none, data := .seq acc c, slots := #[] }) (hl : as.length = es.size) (hG : PySem.W.DilG es s.heap.objs.size h' as) (hacc : acc.toList = as.map Value.ref) :
    ∃ H' : Hp, (∀ b o, H b = some o → H' b = some o) ∧ H s.heap.objs.size = none ∧ H' s.heap.objs.size = some (.lst (as.map V.ref)) ∧
      (∀ (i : Nat) (t : Addr) (q : List Key × V), as[i]? = some t → kvs[i]? = some q → ∃ b, H b = some (.tup (q.1.map kV)) ∧ H' t = some (.tup [.ref b, q.2])) ∧ Inv X pins σ H' { s with heap := h', toks := tk } := by
  have hSn : s.heap.objs.size ∉ as := fun z => Nat.lt_irrefl _ (hG.above _ z)
  have nd : as.Nodup := List.Pairwise.imp (fun {a b} (h : a < b) => Nat.ne_of_lt h) hG.rise
  have new : ∀ t ∈ as, H t = none := fun t ht => I.hok.fresh (Nat.le_of_lt (hG.above t ht))
  have newS : H s.heap.objs.size = none := I.hok.fresh (Nat.le_refl _)
  let ps : List (V × V) := (es.toList.zip kvs).map fun z => (V.ref (adV z.1.key), z.2.2)
  have psat : ∀ (i : Nat) (hi : i < es.size), ∃ (k : List Key) (v : V) (q : Addr), kvs[i]? = some (k, v) ∧ ps[i]? = some (.ref q, v) ∧ es[i].key = .ref q ∧ H q = some (.tup (k.map kV)) ∧ RelV v es[i].val := fun i hi => by
    obtain ⟨k, v, q, h1, h2, h3, h4⟩ := ent i hi
    refine ⟨k, v, q, h1, ?_, h2, h3, h4⟩
    have e1 : (es.toList.zip kvs)[i]? = some (es[i], (k, v)) := by
      rw [List.getElem?_zip_eq_some]
      exact ⟨by rw [Array.getElem?_toList]; exact Array.getElem?_eq_getElem hi, h1⟩
    show ((es.toList.zip kvs).map fun z => (V.ref (adV z.1.key), z.2.2))[i]? = _
    rw [List.getElem?_map, e1]
    simp [h2, adV]
  have atP := putV_at as ps (upd H s.heap.objs.size (.lst (as.map V.ref))) nd
  have off : ∀ b, b ∉ as → b ≠ s.heap.objs.size → putV (upd H s.heap.objs.size (.lst (as.map V.ref))) as ps b = H b := fun b h1 h2 => by rw [putV_off as ps _ h1, upd_ne h2]
  have low : ∀ b o, s.heap.get? b = some o → b ∉ as ∧ b ≠ s.heap.objs.size := fun b o e => ⟨fun z => absurd (Heap.lt_size e) (Nat.not_lt.mpr (Nat.le_of_lt (hG.above b z))), Nat.ne_of_lt (Heap.lt_size e)⟩
  have kp : ∀ b u, H b = some u → (putV (upd H s.heap.objs.size (.lst (as.map V.ref))) as ps) b = some u := fun b u e => by
    rw [off b (fun z => by rw [new b z] at e; cases e) (fun z => by rw [z, newS] at e; cases e)]
    exact e
  have eS : putV (upd H s.heap.objs.size (.lst (as.map V.ref))) as ps s.heap.objs.size = some (.lst (as.map V.ref)) := by rw [putV_off as ps _ hSn, upd_same]
  refine ⟨putV (upd H s.heap.objs.size (.lst (as.map V.ref))) as ps, kp, newS, eS, fun i t q h1 h2 => ?_, ?_⟩
  · have hi : i < es.size := by rw [← hl]; exact (List.getElem?_eq_some_iff.mp h1).1
    obtain ⟨k, v, b, g1, g2, g3, g4, g5⟩ := psat i hi
    rw [h2] at g1
    cases g1
    exact ⟨b, g4, atP i t _ h1 g2⟩
  refine I.call' (ch := []) rfl ⟨fun b o q _ _ _ => hk b o q, fun b o q _ _ _ => ⟨o.slots, hk b o q⟩, fun b o q n _ => ?_, fun b o q _ => ⟨o, hk b o q⟩, fun b xs q => kp b _ q, fun b o u q => kp b _ q, fun b ps q => ⟨#[], by rw [kp b _ q]; simp⟩⟩ (fun b u q => ?_) I.bare fun b z => by simp at z
  · obtain ⟨z1, z2⟩ := low b o q
    rw [off b z1 z2]
    exact n
  · by_cases hb : b ∈ as
    · obtain ⟨j, e1⟩ := List.mem_iff_getElem?.mp hb
      have hi : j < es.size := by rw [← hl]; exact (List.getElem?_eq_some_iff.mp e1).1
      obtain ⟨k, v, b2, g1, g2, g3, g4, g5⟩ := psat j hi
      rw [atP j b _ e1 g2] at q
      cases q
      obtain ⟨hj, f3⟩ := hG.pairs j b e1
      rw [g3] at f3
      exact ⟨by show 2 ≤ sizeLine; decide, [.ref b2, es[j].val], .cons rfl (.cons g5 .nil), ⟨_, f3, rfl, _, rfl⟩⟩
    · by_cases hb2 : b = s.heap.objs.size
      · rw [hb2] at q ⊢
        rw [eS] at q
        cases q
        refine ⟨by rw [List.length_map]; omega, acc.toList, c, by rw [hacc]; exact LiI.vals_refs as, ?_⟩
        rw [Array.toArray_toList]
        exact hS
      · rw [off b hb hb2] at q
        exact (I.hok b u q).stay (fun d v _ y => hk d v y) (fun d y => kp d _ y) fun d xs y => kp d _ y
theorem pe_listItemsT (hc : X.calm = true) (he : PE X e te) (hg : Gl X "list") (hm : X.mg "list" = none) (hbase : attributeBase e "items" X.env (eval e X.env) = eval e X.env) (hline : (apos.endLine == cpos.line) = true)
    (hs : starEach [.Call (.Attribute e "items" apos) [] [] cpos] X.env = (false, eval (.Call (.Attribute e "items" apos) [] [] cpos) X.env) :: starEach [] X.env) :
    PE X (.Call (.Name "list" p) [.Call (.Attribute e "items" apos) [] [] cpos] [] pos) (fun σ H Q => te σ H fun x H1 => rItemsLT x H1 Q) := .mk fun pins s σ H Q I hq => by
  refine wpAny_Call_Name_kw (ld_blt I hg hm bo_list (PyProof.Rows.callWith_type1 ?_ hs rfl))
  rw [hs]
  show wpAny _ _ (spliced ((false, eval (.Call (.Attribute e "items" apos) [] [] cpos) X.env) :: backTo pos (starEach [] X.env))) _ _ s
  refine Calls.spliced_cons (wpAny_Call_method (T := "dict") (id := "dict.items") hbase rfl hline F.plainAttrs_dict F.slot_dict_items F.type_dict_items (thn (he.run pins s σ H _ I hq) ?_))
  rintro u s1 ⟨x, H1, I1, rx, d, kvs, rfl, hd, q⟩
  obtain rfl : u = .ref d := rx
  obtain ⟨hs0, hz, es, ep, hr, hsz, ent⟩ := rdV I1 hd
  refine ⟨hr.typeIs, fun a z => ?_, ?_⟩
  · cases z
    obtain ⟨ob, h1, h2, _⟩ := hr
    exact ⟨ob, h1, h2.2.1⟩
  have I2 : Inv X pins σ H1 { s1 with heap := s1.heap.push ⟨.type "dict_items", none, .fields #[.ref d], #[]⟩ } := I1.kept (t' := s1.toks) fun b ob z => Heap.get?_push_of_some _ z
  show wpAny _ _ (callWith cpos (.builtin "dict.items") [.ref d] [] []) _ X.xe s1
  refine method_meetsIn F.slot_dict_items F.entry_dict_items rfl (PySem.evalArgs_none ⟨rfl, hr.typeIs, F.args_dict_items_1 _, _, meets_dict_items_raw d hs0, ⟨es, ep, hr⟩, ?_⟩)
  refine Calls.spliced_nil (PySem.W.dil_call (es := es) (ep := ep) (d := d) (I1.ok.hd hc) ⟨_, Heap.get?_push_size _ rfl, rfl, rfl⟩ (hr.at fun o z => Heap.get?_push_of_some _ z) (by rw [hsz]; exact hz) fun h' tk acc c as hk hS hl hG hacc => ?_)
  obtain ⟨H', k1, k2, k5, k6, J⟩ := items_laidT (tk := tk) I2 hz hsz ent hk hS hl hG hacc
  exact ⟨.ref _, H', J, rfl, q H' _ as k1 k2 k5 (by rw [hl, hsz]) k6⟩
end
theorem rep_key_tup {K : PySem.W.Frag} {H : Hp} {b : Addr} {k : List Key} (h : H b = some (.tup (k.map kV))) : Rep K H (.ref b) (keyP k) := by
  refine Rep.tupL h ?_
  induction k generalizing b with
  | nil => exact .nil
  | cons a l ih =>
    have : ∀ l : List Key, RepL K H (l.map kV) (l.map kP) := fun l => by
      induction l with
      | nil => exact .nil
      | cons a l ih =>
        refine .cons ?_ ih
        cases a with
        | inl i => exact .int i
        | inr i => exact .str i
    exact this (a :: l)
theorem join_items {K : PySem.W.Frag} {ad : List Addr} {H : Hp} {μ : Mu} : ∀ {ts : List Addr} {ks : List (List Key × V)} {zs : List (List Key × P)} {Hb : Hp}, Wd K ad Hb H μ → ts.length = ks.length → Paired (fun p q => p.1 = q.1 ∧ Rep K Hb p.2 q.2) ks zs →
    (∀ (i : Nat) (t : Addr) (q : List Key × V), ts[i]? = some t → ks[i]? = some q → ∃ b, H b = some (.tup (q.1.map kV)) ∧ H t = some (.tup [.ref b, q.2])) →
    ∃ Hb2, Wd K ad Hb2 H μ ∧ Step ad Hb H ad Hb2 H ∧ RepL K Hb2 (ts.map .ref) (zs.map fun q => .tup [keyP q.1, q.2])
  | [], _, _, Hb, W, h, r, _ => by
    cases r with
    | nil => exact ⟨Hb, W, Step.refl _ _ _, .nil⟩
    | cons _ _ => cases h
  | _ :: _, [], _, _, _, h, _, _ => by cases h
  | t :: ts, q :: ks, _, Hb, W, h, .cons (b := z) r rs, hi => by
    obtain ⟨b, hb, ht⟩ := hi 0 t q rfl rfl
    obtain ⟨Hb1, h1, W1, s1⟩ := W.join hb
    obtain ⟨Hb2, h2, W2, s2⟩ := W1.join ht
    obtain ⟨Hb3, W3, s3, r3⟩ := join_items (Hb := Hb2) W2 (Nat.succ.inj h) (pd_imp (fun _ _ x => ⟨x.1, Rep.mono (s1.ex.trans s2.ex) x.2⟩) rs) fun i t q h1 h2 => hi (i + 1) t q (by simpa using h1) (by simpa using h2)
    refine ⟨Hb3, W3, (s1.trans s2).trans s3, .cons (Rep.tupL (s3.ex _ _ h2) (.cons (by rw [← r.1]; exact rep_key_tup (s3.ex _ _ (s2.ex _ _ h1))) (.cons (Rep.mono (s1.ex.trans (s2.ex.trans s3.ex)) r.2) .nil))) r3⟩
section
variable {X : Cx} {a b e : Expr} {ρ : Rho} {μ : Mu} {Q : E → Mu → Prop} {apos cpos pos p2 : Pos} {kvs : List (List Key × P)}
theorem ev_listItems (hm : X.mg "list" = none) (h : EV X e ρ μ (.sh (.dT kvs))) (hc : X.calm = true := by rfl) (hg : Gl X "list" := by rfl) (hbase : attributeBase e "items" X.env (eval e X.env) = eval e X.env := by rfl) (hline : (apos.endLine == cpos.line) = true := by rfl)
    (hs : starEach [.Call (.Attribute e "items" apos) [] [] cpos] X.env = (false, eval (.Call (.Attribute e "items" apos) [] [] cpos) X.env) :: starEach [] X.env := by rfl) : EV X (.Call (.Name "list" p2) [.Call (.Attribute e "items" apos) [] [] cpos] [] pos) ρ μ (.sh (.lst (kvs.map fun q => .tup [keyP q.1, q.2]))) := fun Q q ad Hb H σ W N Q' g => by
  refine pe_go (pe_listItemsT hc pe_self hg hm hbase hline hs) (h (fun y μ1 => y = .sh (.dT kvs) ∧ μ1 = μ) ⟨rfl, rfl⟩ ad Hb H σ W N _ ?_)
  rintro v x μ1 ad1 Hb1 H1 ⟨rfl, rfl⟩ s1 W1 r1
  obtain ⟨d, ks, rfl, hb, r⟩ := Rep.dT_inv r1
  refine ⟨d, ks, rfl, W1.inc _ _ hb, fun H' p ts hk hp hl hlen hi => ?_⟩
  obtain ⟨W2, s2⟩ := W1.lay hk hp hl
  obtain ⟨Hb3, W3, s3, r3⟩ := join_items W2 hlen (pd_imp (fun _ _ x => ⟨x.1, Rep.mono s2.ex x.2⟩) r) fun i t q h1 h2 => by
    obtain ⟨b, h3, h4⟩ := hi i t q h1 h2
    exact ⟨b, hk _ _ h3, h4⟩
  exact g _ (.sh (.lst _)) _ _ _ _ q ((s1.trans s2).trans s3) W3 (Rep.lstL (s3.ex _ _ upd_same) r3)
end
/-! ### == of dicts of different sizes -/
def rEqDn : R2 := fun x y H Q => ∃ a b ks ls, x = .ref a ∧ y = .ref b ∧ Rd H a (.dT ks) ∧ Rd H b (.dT ls) ∧ ks.length ≠ ls.length ∧ Q (.bl false) H
theorem op_eqDn {X : Cx} (hu : X.A.units + 1 < cLine) : OpR X (compareOp .Eq) rEqDn := by
  intro pins s σ H x y v u Q I rx ry h
  obtain ⟨a, b, ks, ls, rfl, rfl, ha, hb, hn, q⟩ := h
  cases (show v = Value.ref a from rx)
  cases (show u = Value.ref b from ry)
  obtain ⟨sa, _, es, ep, da, za, _⟩ := rdV I ha
  obtain ⟨sb, _, es', ep', db, zb, _⟩ := rdV I hb
  obtain ⟨oa, hoa, _, hda⟩ := id da
  obtain ⟨ob, hob, _, hdb⟩ := id db
  refine wpAny_richCompare_same_room (op := .Eq) da.typeIs db.typeIs PySem.F.slot_dict_eq (wpAny_call_entry PySem.F.slot_dict_eq da.typeIs PySem.F.entry_dict_eq ?_ (PySem.F.args_dict_eq_2 _ _)) (Nat.lt_of_succ_lt hu)
  show wpAny _ _ (Builtin.Dict.dictSlotArgs "__eq__" ⟨[.ref a, .ref b], []⟩ >>= _) _ _ s
  refine wpAny_bind ?_
  unfold Builtin.Dict.dictSlotArgs
  refine wpAny_bind (wpAny_notOrdered_dict da.typeIs ?_)
  show wpAny _ _ (pure (Value.ref a, Value.ref b)) _ _ s
  refine wpAny_pure ?_
  refine wpAny_bind (wpAny_isInstance (T := "dict") db.typeIs PySem.F.sub_dict_dict ?_)
  simp only [Bool.not_true, Bool.false_eq_true, if_false]
  refine wpAny_bind (wpAny_pure (wpAny_bind (wpAny_pure ?_)))
  refine wpAny_bind ?_
  unfold Builtin.Dict.samePairs Builtin.Dict.showsAll
  rw [if_neg (show ¬ (a == sysModules) = true by rw [sa]; exact Bool.false_ne_true), if_neg (show ¬ (b == sysModules) = true by rw [sb]; exact Bool.false_ne_true)]
  refine wpAny_bind (wpAny_pure (wpAny_bind (wpAny_pure ?_)))
  refine wpAny_bind (wpAny_dictEntries hoa hda ?_)
  dsimp only
  refine wpAny_bind (wpAny_dictEntries hob hdb ?_)
  rw [if_pos (by rw [za, zb]; simpa using hn)]
  refine wpAny_bind (wpAny_rule (wpAny_pure ?_))
  refine wpAny_pure ⟨_, rfl, ?_, ?_⟩
  · exact fun x => nomatch x
  · exact ⟨.bl false, H, I, rfl, q⟩
section
variable {X : Cx} {a b e : Expr} {ρ : Rho} {μ : Mu} {Q : E → Mu → Prop} {pos p2 : Pos}
theorem tep_eqDn (hu : X.A.units + 1 < cLine) (h : TEP X a ρ μ fun x μ1 => TEP X b ρ μ1 fun y μ2 => ∃ zs ys, DTv μ2 x zs ∧ DTv μ2 y ys ∧ zs.length ≠ ys.length ∧ Q (.sh (.bl false)) μ2) : TEP X (.Compare a [.Eq] [b] pos) ρ μ Q :=
  tep_cmp (op_eqDn hu) (nomark _) (fun ad Hb H σ W N Q' g => h ad Hb H σ W N Q' fun v x μ1 ad1 Hb1 H1 hx s1 W1 r1 => g v x μ1 ad1 Hb1 H1 (fun ad Hb H σ W N Q' g => hx ad Hb H σ W N Q' fun v y μ2 ad1 Hb1 H1 hy s1 W1 r1 => g v y μ2 ad1 Hb1 H1 (fun ad Hb H v w W r1 r2 Q' g => by
    obtain ⟨zs, ys, d1, d2, hn, q⟩ := hy
    obtain ⟨a, ks, rfl, ha, p1⟩ := d1.get W r1
    obtain ⟨b, ls, rfl, hb, p2⟩ := d2.get W r2
    exact ⟨a, b, ks, ls, rfl, rfl, ha, hb, by rw [p1.length, p2.length]; exact hn, g.now W (x := .sh (.bl false)) (.bl _) q⟩) s1 W1 r1) s1 W1 r1)
end
end PV

/-! dict(pairs), the keys tuples, each once. -/
namespace PV
open PySem PySem.Spec PyProof.Rows L2
def rDictT (K : PySem.W.Frag) : List V → Hp → VK → Prop := fun xs H Q => ∃ (a : Addr) (ts : List Addr) (ks : List (List Key × V)), xs = [.ref a] ∧ SqL K H a (ts.map .ref) ∧ ts.length = ks.length ∧
  (∀ (i : Nat) (t : Addr) (q : List Key × V), ts[i]? = some t → ks[i]? = some q → ∃ b, H b = some (.tup (q.1.map kV)) ∧ H t = some (.tup [.ref b, q.2])) ∧ (ks.map (·.1)).Nodup ∧ ∀ p, H p = none → Q (.ref p) (upd H p (.dT ks))
theorem stored_nd {K : Type} [DecidableEq K] : ∀ (ps xs : List (K × Addr × Value)), ((xs ++ ps).map (·.1)).Nodup → storedAllH xs ps = xs ++ ps
  | [], xs, _ => by simp [storedAllH]
  | p :: ps, xs, h => by
    have e : storedH xs p.1 p.2.1 p.2.2 = xs ++ [p] := by
      rw [storedH_new]
      unfold atKey
      rw [List.find?_eq_none.mpr]
      · rfl
      · intro x hx
        simp only [decide_eq_true_eq]
        intro z
        rw [List.map_append, List.nodup_append] at h
        exact h.2.2 x.1 (List.mem_map.mpr ⟨x, hx, rfl⟩) p.1 (List.mem_map.mpr ⟨p, List.mem_cons_self .., rfl⟩) z
    show storedAllH (storedH xs p.1 p.2.1 p.2.2) ps = _
    rw [e, stored_nd ps (xs ++ [p]) (by rw [List.append_assoc]; exact h), List.append_assoc]
    rfl
theorem raw_pairs {X : Cx} {pins : List (Addr × Obj)} {σ : L2.St} {H : Hp} {s : Shared} (I : Inv X pins σ H s) : ∀ {ts : List Addr} {ks : List (List Key × V)}, ts.length = ks.length →
    (∀ (i : Nat) (t : Addr) (q : List Key × V), ts[i]? = some t → ks[i]? = some q → ∃ b, H b = some (.tup (q.1.map kV)) ∧ H t = some (.tup [.ref b, q.2])) →
    ∃ xs : List (List Key × Addr × Value), Paired (fun (p : List Key × V) (q : List Key × Addr × Value) => p.1 = q.1 ∧ H q.2.1 = some (.tup (p.1.map kV)) ∧ RelV p.2 q.2.2) ks xs ∧ ∀ (i : Nat) (t : Addr) (q : List Key × Addr × Value), ts[i]? = some t → xs[i]? = some q → IsTup s.heap t #[.ref q.2.1, q.2.2]
  | [], [], _, _ => ⟨[], .nil, fun i t q h => by simp at h⟩
  | [], _ :: _, h, _ => by cases h
  | _ :: _, [], h, _ => by cases h
  | t :: ts, q :: ks, h, hi => by
    obtain ⟨b, hb, ht⟩ := hi 0 t q rfl rfl
    obtain ⟨xs, pr, hx⟩ := raw_pairs I (Nat.succ.inj h) fun i t q h1 h2 => hi (i + 1) t q (by simpa using h1) (by simpa using h2)
    obtain ⟨_, its, rv, htu⟩ := (show ObjOk X.prog X.w H s.heap t (.tup [.ref b, q.2]) from I.hok t _ ht)
    obtain ⟨u, y, rfl, ru, ry⟩ := vals2 rv
    obtain rfl : u = .ref b := ru
    refine ⟨(q.1, b, y) :: xs, .cons ⟨rfl, hb, ry⟩ pr, fun i t' q' h1 h2 => ?_⟩
    cases i with
    | zero =>
      simp at h1 h2
      subst h1
      subst h2
      exact htu
    | succ i => exact hx i t' q' (by simpa using h1) (by simpa using h2)
theorem call_dictT {X : Cx} (hc : X.calm = true) (hu : X.A.units + 64 < cLine) : CallR X (.type "dict") (rDictT X.K) := by
  intro pins s σ H xs us Q I r h
  obtain ⟨a, ts, ks, rfl, hq, hl, hi, hn, q⟩ := h
  obtain ⟨u, rfl, rx⟩ := L2.vals1 r
  obtain rfl : u = .ref a := rx
  obtain ⟨its, rv, ⟨o, n, ho, ho1, ho2, ho3⟩, hz⟩ := I.list hq
  obtain rfl := L2.refs_at rv
  rw [List.length_map] at hz
  obtain ⟨xs, pr, hx⟩ := raw_pairs I hl hi
  have lx : xs.length = ts.length := by rw [← Paired.length pr, hl]
  let Ts : Nat → Addr := fun j => ts.getD j 0
  let ps : List (Value × Value) := xs.map fun q => (.ref q.2.1, q.2.2)
  have hTs : ∀ {j : Nat}, j < ts.length → ts[j]? = some (Ts j) := fun {j} hj => by
    show _ = some (ts.getD j 0)
    rw [List.getD_eq_getElem?_getD, List.getElem?_eq_getElem hj]
    rfl
  have psl : ps.length = ts.length := by show (xs.map _).length = _; rw [List.length_map, lx]
  have psx : ∀ {i : Nat} {k v : Value}, ps[i]? = some (k, v) → ∃ x, xs[i]? = some x ∧ k = .ref x.2.1 ∧ v = x.2.2 := fun {i k v} h => by
    have h : (xs.map fun q : List Key × Addr × Value => ((.ref q.2.1, q.2.2) : Value × Value))[i]? = some (k, v) := h
    rw [List.getElem?_map] at h
    obtain ⟨x, h1, h2⟩ := Option.map_eq_some_iff.mp h
    cases h2
    exact ⟨x, h1, rfl, rfl⟩
  have ok : PySem.PlainSeq "list" s.heap a (ts.map Value.ref).toArray ∧ PySem.PairItems s.heap (ts.map Value.ref).toArray Ts ps := by
    refine ⟨⟨o, n, ho, ho1, ho2, ho3⟩, by simp [psl], fun j k v hj => ?_⟩
    obtain ⟨x, h1, rfl, rfl⟩ := psx hj
    have hjl : j < ts.length := by rw [← lx]; exact (List.getElem?_eq_some_iff.mp h1).1
    have h3 := hTs hjl
    refine ⟨by simp [h3], .inl ?_⟩
    obtain ⟨o, g1, g2, n, g3⟩ := hx j _ x h3 h1
    exact ⟨o, g1, g2, n, g3⟩
  have key : ∀ x ∈ xs, (tupleKind (mixKind X.prog X.w)).is s.heap x.1 x.2.1 := fun x hx => by
    obtain ⟨i, h1⟩ := List.mem_iff_getElem?.mp hx
    obtain ⟨p, h2, h3⟩ := pd_left pr i x h1
    refine key_of I.hok ?_
    rw [← h3.1]
    exact h3.2.1
  have ndx : (xs.map (·.1)).Nodup := by
    have : ks.map (·.1) = xs.map (·.1) := by
      clear hi hn hl hx lx hTs psl psx ok key q
      induction pr with
      | nil => rfl
      | cons r _ ih => rw [List.map_cons, List.map_cons, r.1, ih]
    rw [← this]
    exact hn
  refine PySem.call_dict_pairsH (knd := tupleKind (mixKind X.prog X.w)) (ps := xs) (PySem.PairArg.list a (ts.map Value.ref).toArray Ts ps) (I.ok.hd hc) (by show X.A.units + 1 + 1 < cLine; omega) ok ⟨by rw [psl, lx], fun i k v hr => ?_⟩ (fun h' hk x hx => ?_) (by rw [psl]; exact hz) fun h' tk hd' hk => ?_
  · obtain ⟨x, h1, rfl, rfl⟩ := psx (show ps[i]? = some (k, v) from hr)
    exact ⟨x.1, x.2.1, h1, rfl⟩
  · obtain ⟨o, its, n, h1, h2, h3, h4⟩ := key x hx
    exact ⟨o, its, n, hk _ _ (Nat.ne_of_lt (Heap.lt_size h1)) (by simp) h1, h2, h3, h4⟩
  · have hm : (s.heap.objs.size == sysModules) = false := beq_eq_false_iff_ne.mpr (Nat.ne_of_gt I.big)
    rw [stored_nd xs [] (by simpa using ndx), List.nil_append] at hd'
    obtain ⟨o, es, ep, g1, g2, g3, g4, g5, g6⟩ := hd'
    refine ⟨.ref s.heap.objs.size, upd H s.heap.objs.size (.dT ks), I.laid (t' := tk) (fun b u e => hk b u (by simp) e) (Nat.le_refl _) ⟨by rw [← hl]; exact hz, hm, xs, pd_imp (fun p q z => ⟨z.1, ?_, z.2.2⟩) pr, o, es, ep, g1, g2, g3, g4, g6⟩, rfl, q _ (I.hok.fresh (Nat.le_refl _))⟩
    rw [upd_ne (ne_of_none z.2.1 (I.hok.fresh (Nat.le_refl _)))]
    exact z.2.1
section
variable {X : Cx} {e : Expr} {ρ : Rho} {μ : Mu} {pos p2 : Pos}
theorem pairs_ix {K : PySem.W.Frag} {H : Hp} : ∀ {vs : List V} {kvs : List (List Key × P)}, RepL K H vs (kvs.map fun q => .tup [keyP q.1, q.2]) → ∃ (ts : List Addr) (ks : List (List Key × V)), vs = ts.map .ref ∧ ts.length = ks.length ∧ Paired (fun p q => p.1 = q.1 ∧ Rep K H p.2 q.2) ks kvs ∧
    ∀ (i : Nat) (t : Addr) (q : List Key × V), ts[i]? = some t → ks[i]? = some q → ∃ b, H b = some (.tup (q.1.map kV)) ∧ H t = some (.tup [.ref b, q.2])
  | [], [], _ => ⟨[], [], rfl, rfl, .nil, fun i t q h => by simp at h⟩
  | _ :: _, [], r => by cases r
  | [], _ :: _, r => by cases r
  | v :: vs, q :: kvs, r => by
    cases r with
    | cons r rs =>
      obtain ⟨ts, ks, rfl, hl, pr, hi⟩ := pairs_ix rs
      obtain ⟨t, ws, rfl, ht, rw⟩ := Rep.tup_inv r
      cases rw with
      | cons r1 rw =>
        cases rw with
        | cons r2 rw =>
          cases rw
          obtain ⟨b, rfl, hb⟩ := rep_keyT r1
          refine ⟨t :: ts, (q.1, _) :: ks, rfl, by simp [hl], .cons ⟨rfl, r2⟩ pr, fun i t' q' h1 h2 => ?_⟩
          cases i with
          | zero =>
            simp at h1 h2
            subst h1
            subst h2
            exact ⟨b, hb, ht⟩
          | succ i => exact hi i t' q' (by simpa using h1) (by simpa using h2)
/-- dict([(key, value), ..]), each key once -/
theorem ev_dictT {kvs : List (List Key × P)} (hu : X.A.units + 64 < cLine) (hm : X.mg "dict" = none) (h : EV X e ρ μ (.sh (.lst (kvs.map fun q => .tup [keyP q.1, q.2])))) (hn : (kvs.map (·.1)).Nodup) (hc : X.calm = true := by rfl) (hg : Gl X "dict" := by rfl) (hs : starEach [e] X.env = (false, eval e X.env) :: starEach [] X.env := by rfl) : EV X (.Call (.Name "dict" p2) [e] [] pos) ρ μ (.sh (.dT kvs)) :=
  ev_callTy (call_dictT hc hu) hg hm bo_dict (ea_cons h ea_nil hs) (fun Q q ad Hb H vs W r0 Q' g => by
    obtain ⟨v, rfl, r⟩ := vals1 r0
    obtain ⟨a, ws, rfl, hq, r⟩ := Rep.lst_inv r
    obtain ⟨ts, ks, rfl, hl, pr, hi⟩ := pairs_ix r
    refine ⟨a, ts, ks, rfl, W.sqL hq, hl, fun i t q h1 h2 => ?_, by rw [pd_fst pr]; exact hn, fun p hp => ?_⟩
    · obtain ⟨b, h3, h4⟩ := hi i t q h1 h2
      exact ⟨b, W.tup h3, W.tup h4⟩
    · obtain ⟨W2, s2⟩ := W.alloc (o := .dT ks) hp
      exact g _ (.sh (.dT kvs)) _ _ _ _ q s2 W2 (.dT upd_same (pd_fst pr) fun i v x h1 h2 => Rep.mono s2.ex (pd_get pr i v x h1 h2).2)) (by decide) (by decide) hs rfl
end
end PV

namespace PV
open PySem PySem.Spec PyProof.Rows L2
def top (i : Nat) : Stmt := PySem.Challenge.pw_anyload_k86_whole_clashes_of_own_plans.main.body.getD i (.Pass ⟨0, 0, 0, 0⟩)
abbrev s_is_list := top 4
abbrev s_is_whole := top 5
abbrev s_is_number := top 6
abbrev s_is_positive := top 7
abbrev s_multiple_of := top 8
abbrev s_lowest := top 9
abbrev s_is_below := top 10
abbrev s_are_numbers := top 17
abbrev s_is_arc := top 18
abbrev s_checked_arcs := top 19
abbrev s_longer_ways := top 20
abbrev s_rings_of := top 21
abbrev s_order_of := top 22
abbrev s_net_init := inClass (top 23) 0
abbrev s_led_to := top 25
abbrev s_sums_of := top 27
abbrev s_potentials := top 28
abbrev s_links_with := top 30
abbrev s_asked := top 31
abbrev s_lower_rings := top 33
abbrev s_way_between := top 34
abbrev s_clash_of := top 35
abbrev s_own_clash := top 36
abbrev s_own_periods := top 37
abbrev s_own_plan := top 38
abbrev s_law_start := top 40
abbrev s_law_draw := top 41
abbrev s_law_pick := top 42
abbrev s_law_mixed := top 43
abbrev s_law_loose := top 44
abbrev s_law_n_net := top 45
abbrev s_law_n_links := top 46
abbrev s_law_n_distances := top 47
abbrev s_law_n_all_links := top 48
abbrev s_law_n_sums := top 49
abbrev s_law_is_less := top 50
abbrev s_law_turned_up := top 51
abbrev s_law_n_is_ring := top 52
abbrev s_law_n_asks := top 53
abbrev s_law_clash_right := top 54
abbrev s_law_starts := top 55
abbrev s_law_far := top 56
abbrev s_law_grows := top 57
abbrev s_law_two_rings := top 58
abbrev s_law := top 59
end PV

set_option maxHeartbeats 0
namespace PV
open PySem PySem.Spec PyProof.Rows L2
section
variable {g : Bool} {Pr : Program} {w : World} {K : PySem.W.Frag} {mg : Str → Option Value} {base : Heap} {f : Addr} {fd : FuncData}
def isListP : P → Bool
  | .lst _ => true
  | .tup _ => true
  | _ => false
def isWholeP : P → Bool
  | .int _ => true
  | _ => false
theorem sc_is_list : FnScope ["thing"] ["thing"] (defScope s_is_list) := ⟨rfl, rfl, rfl, by decide +kernel, rfl, by decide +kernel, by decide +kernel⟩
def F_is_list (zs : List P) (y : P) : Prop := ∃ x T, zs = [x] ∧ tyP x = some T ∧ y = .bl (isListP x)
theorem c_is_list (F : FnP K "is_list" "is_list" s_is_list f fd) (hm : mg "is_list" = some (.ref f)) (B : Bl mg) : Ct g Pr w K mg base 1 "is_list" (SF F_is_list) := by
  refine ct_pure F hm sc_is_list (fun _ _ _ _ _ _ us hl => match us, hl with | [_], _ => rfl) (by rintro _ _ ⟨x, T, rfl, _⟩; rfl) fun cdv A outer s H E hr zs y hF => ?_
  obtain ⟨x, T, rfl, hT, rfl⟩ := hF
  have r : ∃ b, PySem.W.kitAny K (.type T) (["list", "tuple"].map Value.type) = some b ∧ b = isListP x := by
    cases x <;> cases hT <;> exact ⟨_, rfl, rfl⟩
  obtain ⟨b, hk, rfl⟩ := r
  exact tss_one (tsp_retV (ev_isiT B.isinstance (ev_name 0) (ev_tup (ys := [.ty "list", .ty "tuple"]) (eas_cons (ev_ty B.list bo_list) (eas_cons (ev_ty B.tuple bo_tuple) eas_nil))) (cs := ["list", "tuple"]) hT hk) (.sh _))

theorem sc_is_whole : FnScope ["thing"] ["thing"] (defScope s_is_whole) := ⟨rfl, rfl, rfl, by decide +kernel, rfl, by decide +kernel, by decide +kernel⟩
def F_is_whole (zs : List P) (y : P) : Prop := ∃ x T, zs = [x] ∧ tyP x = some T ∧ y = .bl (isWholeP x)
theorem c_is_whole (F : FnP K "is_whole" "is_whole" s_is_whole f fd) (hm : mg "is_whole" = some (.ref f)) (B : Bl mg) : Ct g Pr w K mg base 1 "is_whole" (SF F_is_whole) := by
  refine ct_pure F hm sc_is_whole (fun _ _ _ _ _ _ us hl => match us, hl with | [_], _ => rfl) (by rintro _ _ ⟨x, T, rfl, _⟩; rfl) fun cdv A outer s H E hr zs y hF => ?_
  obtain ⟨x, T, rfl, hT, rfl⟩ := hF
  have r : ∃ b c, PySem.W.kitOne K (.type T) (.type "int") = some b ∧ PySem.W.kitOne K (.type T) (.type "bool") = some c ∧ (b && !c) = isWholeP x := by
    cases x <;> cases hT <;> exact ⟨_, _, rfl, rfl, rfl⟩
  obtain ⟨b, c, hb, hc, e⟩ := r
  rw [← e]
  exact tss_one (tsp_retV (ev_and (ev_isi B.isinstance (ev_name 0) (ev_ty B.int bo_int) hT hb) fun _ => ev_one (ev_not (ev_isi B.isinstance (ev_name 0) (ev_ty B.bool bo_bool) hT hc))) (.sh _))
def isNumP : P → Bool
  | .int i => decide (0 ≤ i)
  | _ => false
def isPosP : P → Bool
  | .int i => decide (1 ≤ i)
  | _ => false
theorem sc_is_number : FnScope ["thing"] ["thing"] (defScope s_is_number) := ⟨rfl, rfl, rfl, by decide +kernel, rfl, by decide +kernel, by decide +kernel⟩
def F_is_number (zs : List P) (y : P) : Prop := ∃ x T, zs = [x] ∧ tyP x = some T ∧ y = .bl (isNumP x)
theorem c_is_number (F : FnP K "is_number" "is_number" s_is_number f fd) (hm : mg "is_number" = some (.ref f)) (c1 : Ct g Pr w K mg base 1 "is_whole" (SF F_is_whole)) : Ct g Pr w K mg base 2 "is_number" (SF F_is_number) := by
  refine ct_pure F hm sc_is_number (fun _ _ _ _ _ _ us hl => match us, hl with | [_], _ => rfl) (by rintro _ _ ⟨x, T, rfl, _⟩; rfl) fun cdv A outer s H E hr zs y hF => ?_
  obtain ⟨x, T, rfl, hT, rfl⟩ := hF
  have e : isNumP x = (isWholeP x && isNumP x) := by cases x <;> rfl
  rw [e]
  refine tss_one (tsp_retV (ev_and (ev_call c1 hr (eas_cons (ev_name 0) eas_nil) ⟨x, T, rfl, hT, rfl⟩) fun h => ?_) (.sh _))
  cases x with
  | int i => exact ev_one (ev_ge (ev_name 0) ev_int)
  | _ => cases h
theorem sc_is_positive : FnScope ["thing"] ["thing"] (defScope s_is_positive) := ⟨rfl, rfl, rfl, by decide +kernel, rfl, by decide +kernel, by decide +kernel⟩
def F_is_positive (zs : List P) (y : P) : Prop := ∃ x T, zs = [x] ∧ tyP x = some T ∧ y = .bl (isPosP x)
theorem c_is_positive (F : FnP K "is_positive" "is_positive" s_is_positive f fd) (hm : mg "is_positive" = some (.ref f)) (c1 : Ct g Pr w K mg base 1 "is_whole" (SF F_is_whole)) : Ct g Pr w K mg base 2 "is_positive" (SF F_is_positive) := by
  refine ct_pure F hm sc_is_positive (fun _ _ _ _ _ _ us hl => match us, hl with | [_], _ => rfl) (by rintro _ _ ⟨x, T, rfl, _⟩; rfl) fun cdv A outer s H E hr zs y hF => ?_
  obtain ⟨x, T, rfl, hT, rfl⟩ := hF
  have e : isPosP x = (isWholeP x && isPosP x) := by cases x <;> rfl
  rw [e]
  refine tss_one (tsp_retV (ev_and (ev_call c1 hr (eas_cons (ev_name 0) eas_nil) ⟨x, T, rfl, hT, rfl⟩) fun h => ?_) (.sh _))
  cases x with
  | int i => exact ev_one (ev_ge (ev_name 0) ev_int)
  | _ => cases h
def itemsP : P → List P
  | .lst xs => xs
  | .tup xs => xs
  | _ => []
theorem sc_are_numbers : FnScope ["thing", "many", "number"] ["thing", "many"] (defScope s_are_numbers) := ⟨rfl, rfl, rfl, by decide +kernel, rfl, by decide +kernel, by decide +kernel⟩
def areNums (x : P) (m : Int) : Bool := isListP x && (decide (((itemsP x).length : Int) = m) && (itemsP x).all isNumP)
def F_are_numbers (zs : List P) (y : P) : Prop := ∃ x m T, zs = [x, .int m] ∧ tyP x = some T ∧ (∀ z ∈ itemsP x, ∃ T, tyP z = some T) ∧ (itemsP x).length ≤ 100000 ∧ y = .bl (areNums x m)
theorem c_are_numbers (F : FnP K "are_numbers" "are_numbers" s_are_numbers f fd) (hm : mg "are_numbers" = some (.ref f)) (B : Bl mg) (c1 : Ct g Pr w K mg base 1 "is_list" (SF F_is_list)) (c2 : Ct g Pr w K mg base 2 "is_number" (SF F_is_number)) :
    Ct g Pr w K mg base 3 "are_numbers" (SF F_are_numbers) := by
  refine ct_pure F hm sc_are_numbers (fun _ _ _ _ _ _ us hl => match us, hl with | [_, _], _ => rfl) (by rintro _ _ ⟨x, m, T, rfl, _⟩; rfl) fun cdv A outer s H E hr zs y hF => ?_
  obtain ⟨x, m, T, rfl, hT, hz, hl, rfl⟩ := hF
  have nx : isListP x = true → Sq x (itemsP x) := fun h => by
    cases x with
    | lst xs => exact .inl rfl
    | tup xs => exact .inr rfl
    | _ => cases h
  refine tss_one (tsp_retV (ev_and (ev_call c1 (hr.mono (by decide)) (eas_cons (ev_name 0) eas_nil) ⟨x, T, rfl, hT, rfl⟩) fun h => ?_) (.sh _))
  refine ev_and (ev_eqI (ev_lenS (nx h) B.len (ev_name 0)) (ev_name 1)) fun _ => ev_one ?_
  refine (ev_all (bs := (itemsP x).map isNumP) rfl B.all ((ev_lc0 (itemsP x) (fun z => z) (fun z => [some (.sh x), some (.sh (.int m)), some (.sh z)]) (fun z => .bl (isNumP z)) [2] [("number", 2)] rfl sc_are_numbers.nd (blkOk_by (by kernel_rfl)) (ei_seq (nx h) (ev_name 0)) hl (fun a _ => tgb_name 2 sc_are_numbers.nd (by decide) rfl rfl)
    fun a ha s H C cl fp => ?_).is (by rw [List.map_map]; rfl))).is (by rw [List.all_map]; rfl)
  obtain ⟨T, hT⟩ := hz a ha
  exact ev_call c2 hr (eas_cons (ev_name 2) eas_nil) ⟨a, T, rfl, hT, rfl⟩
theorem sc_is_arc : FnScope ["thing", "many"] ["thing", "many"] (defScope s_is_arc) := ⟨rfl, rfl, rfl, by decide +kernel, rfl, by decide +kernel, by decide +kernel⟩
/-- a, b, tokens, ticks -/
abbrev Arc := Nat × Nat × Nat × Nat
def arcL (a : Arc) : List P := [.int a.1, .int a.2.1, .int a.2.2.1, .int a.2.2.2]
def arcP (a : Arc) : P := .tup (arcL a)
def F_is_arc (zs : List P) (y : P) : Prop := ∃ x a n, zs = [x, .int (n : Nat)] ∧ Sq x (arcL a) ∧ a.1 < n ∧ a.2.1 < n ∧ y = .bl true
theorem c_is_arc (F : FnP K "is_arc" "is_arc" s_is_arc f fd) (hm : mg "is_arc" = some (.ref f)) (c1 : Ct g Pr w K mg base 3 "are_numbers" (SF F_are_numbers)) : Ct g Pr w K mg base 4 "is_arc" (SF F_is_arc) := by
  refine ct_pure F hm sc_is_arc (fun _ _ _ _ _ _ us hl => match us, hl with | [_, _], _ => rfl) (by rintro _ _ ⟨x, a, n, rfl, _⟩; rfl) fun cdv A outer s H E hr zs y hF => ?_
  obtain ⟨x, a, n, rfl, hx, h1, h2, rfl⟩ := hF
  have i1 : itemsP x = arcL a := by rcases hx with rfl | rfl <;> rfl
  have i2 : isListP x = true := by rcases hx with rfl | rfl <;> rfl
  have i3 : ∃ T, tyP x = some T := by rcases hx with rfl | rfl <;> exact ⟨_, rfl⟩
  obtain ⟨T, hT⟩ := i3
  have j1 : ∀ z ∈ itemsP x, ∃ T, tyP z = some T := by
    rw [i1]
    intro z hz
    simp only [arcL, List.mem_cons, List.not_mem_nil, or_false] at hz
    rcases hz with rfl | rfl | rfl | rfl <;> exact ⟨_, rfl⟩
  have j2 : (itemsP x).length ≤ 100000 := by rw [i1]; simp [arcL]
  have j3 : areNums x 4 = true := by
    unfold areNums
    rw [i1, i2]
    simp [arcL, isNumP]
  refine tss_one (tsp_retV (EV.is (ev_and (r := true) (ev_call c1 hr (eas_cons (ev_name 0) (eas_cons ev_int eas_nil)) ⟨x, 4, T, rfl, hT, j1, j2, rfl⟩) fun _ => EV.is (ev_and (r := true) (ev_lt (ev_ixS hx (ev_name 0) ev_int rfl) (ev_name 1)) fun _ => ev_one (EV.is (ev_lt (ev_ixS hx (ev_name 0) ev_int rfl) (ev_name 1)) (by simp [h2]))) (by simp [h1])) (by rw [j3]; rfl)) (.sh _))
end
end PV

namespace PV
open PySem PySem.Spec PyProof.Rows L2
section
variable {g : Bool} {Pr : Program} {w : World} {K : PySem.W.Frag} {mg : Str → Option Value} {base : Heap} {f : Addr} {fd : FuncData}
/-- x tells the arcs as, as lists or tuples -/
def LArcs (x : P) (as : List Arc) : Prop := ∃ ps, Sq x ps ∧ Paired (fun p a => Sq p (arcL a)) ps as
def InN (n : Nat) (as : List Arc) : Prop := ∀ a ∈ as, a.1 < n ∧ a.2.1 < n
theorem larcs_tup {ps : List P} {as : List Arc} (r : Paired (fun p a => Sq p (arcL a)) ps as) : ps.map (fun p => P.tup (itemsP p)) = as.map arcP := by
  induction r with
  | nil => rfl
  | cons h _ ih =>
    rw [List.map_cons, List.map_cons, ih]
    rcases h with rfl | rfl <;> rfl
theorem sc_checked_arcs : FnScope ["many", "arcs", "index", "thing", "arc"] ["many", "arcs"] (defScope s_checked_arcs) := ⟨rfl, rfl, rfl, by decide +kernel, rfl, by decide +kernel, by decide +kernel⟩
def F_checked_arcs (zs : List P) (y : P) : Prop := ∃ x as n, zs = [.int (n : Nat), x] ∧ LArcs x as ∧ InN n as ∧ as.length ≤ 1000 ∧ y = .lst (as.map arcP)
theorem c_checked_arcs (F : FnP K "checked_arcs" "checked_arcs" s_checked_arcs f fd) (hm : mg "checked_arcs" = some (.ref f)) (B : Bl mg) (c1 : Ct g Pr w K mg base 1 "is_list" (SF F_is_list)) (c2 : Ct g Pr w K mg base 4 "is_arc" (SF F_is_arc)) :
    Ct g Pr w K mg base 5 "checked_arcs" (SF F_checked_arcs) := by
  refine ct_pure F hm sc_checked_arcs (fun _ _ _ _ _ _ us hl => match us, hl with | [_, _], _ => rfl) (by rintro _ _ ⟨x, as, n, rfl, _⟩; rfl) fun cdv A outer s H E hr zs y hF => ?_
  obtain ⟨x, as, n, rfl, ⟨ps, hx, hp⟩, hn, hl, rfl⟩ := hF
  have i3 : ∃ T, tyP x = some T ∧ isListP x = true := by rcases hx with rfl | rfl <;> exact ⟨_, rfl, rfl⟩
  obtain ⟨T, hT, i2⟩ := i3
  have nd := sc_checked_arcs.nd
  refine tss_cons (tsp_ifE (et_not (et_val (ev_call c1 (hr.mono (by decide)) (eas_cons (ev_name 1) eas_nil) ⟨x, T, rfl, hT, rfl⟩))) (fun h => absurd h (by rw [i2]; decide)) fun _ => tss_nil ?_)
  refine tss_cons (tsp_forL (List.range ps.length) (fun i => .tup [.int (i : Nat), ps.getD i .non]) [2, 3] (fun i ρ2 μ2 => μ2 = [] ∧ ∃ u v, ρ2 = [some (.sh (.int (n : Nat))), some (.sh x), u, v, none]) (ei_enumS hx B.enumerate (ev_name 1)) ⟨rfl, none, none, rfl⟩ ?_ ?_)
  · rintro i j ρ2 μ2 e ⟨rfl, u, v, rfl⟩
    obtain ⟨hj, rfl⟩ := List.getElem?_eq_some_iff.mp e
    simp only [List.length_range] at hj
    simp only [List.getElem_range]
    obtain ⟨a, ha, hpa⟩ := pd_right hp i ps[i] (List.getElem?_eq_getElem hj)
    have eg : ps.getD i .non = ps[i] := by rw [List.getD_eq_getElem?_getD, List.getElem?_eq_getElem hj]; rfl
    rw [eg]
    have hv := hn a (List.mem_of_getElem? ha)
    refine tgp_names ["index", "thing"] [2, 3] nd (.inr rfl) rfl ?_
    refine tss_one (tsp_ifE (et_not (et_val (ev_call c2 hr (eas_cons (ev_name 3) (eas_cons (ev_name 0) eas_nil)) ⟨ps[i], a, n, rfl, hpa, hv.1, hv.2, rfl⟩))) (fun h => nomatch h) fun _ => tss_nil ⟨rfl, _, _, rfl⟩)
  · rintro ρ2 μ2 ⟨rfl, u, v, rfl⟩
    rw [← larcs_tup hp]
    refine tss_one (tsp_retV (ev_lc0 ps (fun z => z) (fun z => [some (.sh (.int (n : Nat))), some (.sh x), u, v, some (.sh z)]) (fun z => .tup (itemsP z)) [4] [("arc", 4)] rfl nd (blkOk_by (by kernel_rfl)) (ei_seq hx (ev_name 1)) ?_ (fun a _ => tgb_name 4 nd (by decide) rfl rfl) fun a ha s H C cl fp => ?_) (.sh _))
    · rw [hp.length]
      exact Nat.le_trans hl (by decide)
    · obtain ⟨i, hi⟩ := List.mem_iff_getElem?.mp ha
      obtain ⟨b, _, hb⟩ := pd_right hp i a hi
      refine ev_tuple B.tuple (ev_name 4) ?_
      rcases hb with rfl | rfl
      · exact .inl rfl
      · exact .inr rfl
end
end PV

namespace PV
open PySem PySem.Spec PyProof.Rows L2
section
variable {g : Bool} {Pr : Program} {w : World} {K : PySem.W.Frag} {mg : Str → Option Value} {base : Heap} {f : Addr} {fd : FuncData}
def freeOf (links : List Arc) (left : List Nat) : List Nat := left.filter fun e => !(links.any fun a => decide (a.1 ∈ left) && decide (a.2.1 = e))
def orderGo (links : List Arc) : Nat → List Nat → List Nat → Option (List Nat)
  | 0, _, found => some found
  | k + 1, left, found => if left.length = 0 then some found else if (freeOf links left).length = 0 then none else orderGo links k (left.filter fun e => !decide (e ∈ freeOf links left)) (found ++ freeOf links left)
def zeroArcs (as : List Arc) : List Arc := as.filter fun a => decide ((a.2.2.1 : Int) = 0)
def orderOf (n : Nat) (as : List Arc) : Option (List Nat) := orderGo (zeroArcs as) n (List.range n) []
def optP : Option (List Nat) → P
  | none => .non
  | some l => .lst (natsP l)
theorem sc_order_of : FnScope ["many", "arcs", "links", "left", "found", "held", "free", "arc", "one", "other", "tokens", "ticks", "event"] ["many", "arcs"] (defScope s_order_of) := ⟨rfl, rfl, rfl, by decide +kernel, rfl, by decide +kernel, by decide +kernel⟩
def F_order_of (zs : List P) (y : P) : Prop := ∃ n as, zs = [.int (n : Nat), .lst (as.map arcP)] ∧ n ≤ 1000 ∧ as.length ≤ 1000 ∧ y = optP (orderOf n as)
theorem filter_lt {α : Type} (p : α → Bool) : ∀ (l : List α), (l.filter p).length ≤ l.length := List.length_filter_le p
theorem natsP_app (a b : List Nat) : natsP a ++ natsP b = natsP (a ++ b) := by
  unfold natsP
  rw [List.map_append]
theorem c_order_of (F : FnP K "order_of" "order_of" s_order_of f fd) (hm : mg "order_of" = some (.ref f)) (B : Bl mg) : Ct g Pr w K mg base 1 "order_of" (SF F_order_of) := by
  refine ct_pure F hm sc_order_of (fun _ _ _ _ _ _ us hl => match us, hl with | [_, _], _ => rfl) (by rintro _ _ ⟨n, as, rfl, _⟩; rfl) fun cdv A outer s H E hr zs y hF => ?_
  obtain ⟨n, as, rfl, hn, hl, rfl⟩ := hF
  have nd := sc_order_of.nd
  have hu := hr.un
  refine tss_cons (tsp_parN ["links", "left", "found"] [2, 3, 4] nd (tap_consV (ev_lc1 as arcP (fun a => [some (.sh (.int (n : Nat))), some (.sh (.lst (as.map arcP))), none, none, none, none, none, some (.sh (arcP a)), none, none, none, none, none]) (fun a => decide ((a.2.2.1 : Int) = 0)) arcP [7] [("arc", 7)] rfl nd (blkOk_by (by kernel_rfl)) (ei_list (ev_name 1)) (Nat.le_trans hl (by decide)) (fun a _ => tgb_name 7 nd (by decide) rfl rfl)
    (fun a _ s H C cl fp => et_eqI (ev_ixT (ev_name 7) ev_int rfl) ev_int) (fun a _ _ s H C cl fp => ev_name 7))
    (tap_cons (tep_listRg B.list B.range (ev_name 0) (Nat.le_trans hn (by decide)) (tap_cons (tep_lstC (tap_nil ⟨by decide, tap_nil ⟨rfl, ?_⟩⟩)))))))
  refine tss_cons (tsp_whileP (fun m ρ2 μ2 => ∃ left found u v, orderGo (zeroArcs as) m left found = orderOf n as ∧ left.length ≤ m ∧ left.length ≤ 1000 ∧ found.length + left.length ≤ 2000 ∧ μ2 = [some (.lst ((natsP found).map .sh))] ∧
    ρ2 = [some (.sh (.int (n : Nat))), some (.sh (.lst (as.map arcP))), some (.sh (.lst ((zeroArcs as).map arcP))), some (.sh (.lst (natsP left))), some (.pt 0), u, v, none, none, none, none, none, none]) n ⟨List.range n, [], none, none, rfl, by simp, by simpa using hn, by simp; omega, rfl, rfl⟩ ?_)
  rintro m ρ2 μ2 ⟨left, found, u, v, he, h1, h2, h3, rfl, rfl⟩
  have hlen : (natsP left).length = left.length := by unfold natsP; rw [List.length_map]
  have e0 : decide ((0 : Int) < ((natsP left).length : Int)) = decide (left.length ≠ 0) := by
    rw [hlen]
    by_cases c : left.length = 0 <;> simp [c]
    omega
  refine ((et_gt (ev_len B.len (ev_name 3)) ev_int).is e0) _ ?_
  by_cases c : left.length = 0
  · rw [if_neg (by simp [c])]
    have e1 : orderOf n as = some found := by
      rw [← he]
      cases m with
      | zero => rfl
      | succ m => unfold orderGo; rw [if_pos c]
    rw [e1]
    exact tss_one (tsp_retV (ev_name 4) (Frz.lstS rfl))
  rw [if_pos (by simp [c])]
  cases m with
  | zero => omega
  | succ m =>
  unfold orderGo at he
  rw [if_neg c] at he
  -- held
  refine tss_cons (tsp_setV 5 nd (ev_dcK (zeroArcs as) arcP (fun a => decide (a.1 ∈ left)) (fun a => .inl (a.2.1 : Nat)) (fun _ => .bl true) (fun a => [some (.sh (.int (n : Nat))), some (.sh (.lst (as.map arcP))), some (.sh (.lst ((zeroArcs as).map arcP))), some (.sh (.lst (natsP left))), some (.pt 0), u, v, none, some (.sh (.int (a.1 : Nat))), some (.sh (.int (a.2.1 : Nat))), some (.sh (.int (a.2.2.1 : Nat))), some (.sh (.int (a.2.2.2 : Nat))), none])
    [("one", 8), ("other", 9), ("tokens", 10), ("ticks", 11)] [8, 9, 10, 11] (Nat.lt_of_succ_lt hu) rfl nd (blkOk_by (by kernel_rfl)) (ei_list (ev_name 2)) (Nat.le_trans (filter_lt _ _) (Nat.le_trans hl (by decide))) (fun a _ => tgb_tup ["one", "other", "tokens", "ticks"] [8, 9, 10, 11] nd (.inr rfl))
    (fun a _ => ttsb1 fun s H C cl fp => et_inN (ev_name 8) (ev_name 3)) (fun a _ _ s H C cl fp => ev_name 9) (fun a _ _ s H C cl fp => ev_bl)) ?_)
  generalize hd : ((zeroArcs as).filter fun a => decide (a.1 ∈ left)).foldl (fun d a => dput d (Sum.inl (a.2.1 : Int)) (P.bl true)) ([] : List (Key × P)) = held
  have hheld : ∀ e : Nat, (dget held (.inl (e : Int))).isSome = (zeroArcs as).any fun a => decide (a.1 ∈ left) && decide (a.2.1 = e) := by
    intro e
    rw [← hd, dget_foldl_some (fun a : Arc => (Sum.inl (a.2.1 : Int) : Key)) (fun _ => P.bl true), List.any_filter]
    have : dget ([] : List (Key × P)) (Sum.inl (e : Int)) = none := rfl
    rw [this]
    simp only [Option.isSome_none, Bool.false_or]
    refine congrArg (List.any _) (funext fun a => ?_)
    rw [show decide ((Sum.inl (a.2.1 : Int) : Key) = Sum.inl (e : Int)) = decide (a.2.1 = e) from decide_eq_decide.mpr ⟨fun h => by have := Sum.inl.inj h; omega, fun h => by rw [h]⟩]
  refine tss_cons (tsp_setV 6 nd ((ev_lc1 left (fun e => .int (e : Nat)) (fun e => [some (.sh (.int (n : Nat))), some (.sh (.lst (as.map arcP))), some (.sh (.lst ((zeroArcs as).map arcP))), some (.sh (.lst (natsP left))), some (.pt 0), some (.sh (.dK held)), v, none, none, none, none, none, some (.sh (.int (e : Nat)))])
    (fun e => !((zeroArcs as).any fun a => decide (a.1 ∈ left) && decide (a.2.1 = e))) (fun e => .int (e : Nat)) [12] [("event", 12)] rfl nd (blkOk_by (by kernel_rfl)) (ei_nats (ev_name 3)) (Nat.le_trans h2 (by decide)) (fun a _ => tgb_name 12 nd (by decide) rfl rfl)
    (fun e _ s H C cl fp => (et_dnotIn hu (ev_name 12) (ev_name 5) (DG.shK (k := .inl (e : Int)))).is (by rw [Option.isSome_map, hheld])) (fun a _ _ s H C cl fp => ev_name 12)).is (x := _) (y := .sh (.lst (natsP (freeOf (zeroArcs as) left)))) rfl) ?_)
  generalize hfr : freeOf (zeroArcs as) left = free at he ⊢
  have hfl : free.length ≤ left.length := by rw [← hfr]; exact filter_lt _ _
  have hfm : ∀ e ∈ free, e ∈ left := fun e he => by rw [← hfr] at he; exact (List.mem_filter.mp he).1
  have hlen2 : (natsP free).length = free.length := by unfold natsP; rw [List.length_map]
  refine tss_cons (tsp_ifE ((et_eqI (ev_len B.len (ev_name 6)) ev_int).is (y := decide (free.length = 0)) (by rw [hlen2]; by_cases c : free.length = 0 <;> simp [c])) (fun c0 => ?_) fun c0 => tss_nil ?_)
  · have c0 : free.length = 0 := of_decide_eq_true c0
    rw [if_pos c0] at he
    rw [← he]
    exact tss_one (tsp_retV ev_non (.sh _))
  have c0 : free.length ≠ 0 := of_decide_eq_false c0
  rw [if_neg c0] at he
  have hsum : left.length = free.length + (left.filter fun e => !decide (e ∈ free)).length := by
    rw [← hfr]
    unfold freeOf
    rw [filter_split (fun e => !((zeroArcs as).any fun a => decide (a.1 ∈ left) && decide (a.2.1 = e)))]
    congr 2
    refine List.filter_congr fun e he => ?_
    simp only [List.mem_filter, he, true_and]
    cases (zeroArcs as).any fun a => decide (a.1 ∈ left) && decide (a.2.1 = e) <;> rfl
  have hll : (left.filter fun e => !decide (e ∈ free)).length < left.length := by
    omega
  refine tss_cons (tsp_expr (tep_extend (ev_name 4) (ev_name 6) rfl (by rw [List.length_map, hlen2]; unfold natsP; rw [List.length_map]; omega) ?_))
  refine tss_one (tsp_setV 3 nd ((ev_lc1 left (fun e => .int (e : Nat)) (fun e => [some (.sh (.int (n : Nat))), some (.sh (.lst (as.map arcP))), some (.sh (.lst ((zeroArcs as).map arcP))), some (.sh (.lst (natsP left))), some (.pt 0), some (.sh (.dK held)), some (.sh (.lst (natsP free))), none, none, none, none, none, some (.sh (.int (e : Nat)))])
    (fun e => !decide (e ∈ free)) (fun e => .int (e : Nat)) [12] [("event", 12)] rfl nd (blkOk_by (by kernel_rfl)) (ei_nats (ev_name 3)) (Nat.le_trans h2 (by decide)) (fun a _ => tgb_name 12 nd (by decide) rfl rfl)
    (fun e _ s H C cl fp => et_notInN (ev_name 12) (ev_name 6)) (fun a _ _ s H C cl fp => ev_name 12)).is (x := _) (y := .sh (.lst (natsP (left.filter fun e => !decide (e ∈ free))))) rfl) ?_)
  refine ⟨m, Nat.lt_succ_self _, left.filter fun e => !decide (e ∈ free), found ++ free, _, _, he, by omega, by omega, ?_, ?_, rfl⟩
  · rw [List.length_append]
    omega
  · rw [← natsP_app, List.map_append]
    rfl
end
end PV

namespace PV
open PySem PySem.Spec PyProof.Rows L2
/-- the class Net as it stands behind the top -/
structure NetC (K : PySem.W.Frag) (C : Addr) : Prop where
  cls : Cls K C
  many : NoAttr K C "many"
  own : NoAttr K C "own_arcs"
  order : NoAttr K C "order"
  links : NoAttr K C "links"
  kept : NoAttr K C "kept"
def netP (C : Addr) (n : Nat) (as : List Arc) (ord : List Nat) (ls : List Arc) : P :=
  .obj C [("many", .int n), ("own_arcs", .lst (as.map arcP)), ("order", .lst (natsP ord)), ("links", .lst (ls.map arcP)), ("kept", .dT [])]
/-- an order of the events in which links without tokens lead on -/
structure OrdOk (n : Nat) (ls : List Arc) (ord : List Nat) : Prop where
  nd : ord.Nodup
  mem : ∀ e, e ∈ ord ↔ e < n
  fw : ∀ i e a, ord[i]? = some e → a ∈ ls → a.2.1 = e → a.2.2.1 = 0 → a.1 ∈ ord.take i
def selfArcs (n : Nat) : List Arc := (List.range n).map fun e => (e, e, 1, 0)
def arcI (a : Arc) : List Int := [(a.1 : Int), (a.2.1 : Int), (a.2.2.1 : Int), (a.2.2.2 : Int)]
theorem Frz.objS {μ : Mu} {j : Nat} {C : Addr} {gs : List (Str × P)} (h : μ[j]? = some (some (.obj C (gs.map fun p => (p.1, .sh p.2))))) : Frz μ (.pt j) (.obj C gs) := .obj h (by simp) fun i z x h1 h2 => by
  rw [List.getElem?_map, h2] at h1
  cases h1
  exact .sh x.2
section
variable {g : Bool} {Pr : Program} {w : World} {K : PySem.W.Frag} {mg : Str → Option Value} {base : Heap} {f : Addr} {fd : FuncData} {C : Addr}
theorem sc_net_init : FnScope ["self", "many", "arcs", "event"] ["self", "many", "arcs"] (defScope s_net_init) := ⟨rfl, rfl, rfl, by decide +kernel, rfl, by decide +kernel, by decide +kernel⟩
/-- what is passed is a net without a ring that has no tokens -/
def PreNet (zs : List P) : Prop := ∃ (x : P) (as : List Arc) (n : Nat) (ord : List Nat), zs = [.int (n : Nat), x] ∧ LArcs x as ∧ InN n as ∧ as.length + n < 64 ∧ (∀ a ∈ as, ∀ m ∈ arcI a, m < 1000) ∧ 1 ≤ n ∧ orderOf n as = some ord
def PostNet (C : Addr) (zs : List P) (y : P) : Prop := ∃ (x : P) (as : List Arc) (n : Nat) (ord : List Nat) (ls : List Arc), zs = [.int (n : Nat), x] ∧ LArcs x as ∧ orderOf n as = some ord ∧ ls.Perm (as ++ selfArcs n) ∧ y = netP C n as ord ls
theorem arcL_inj {a b : Arc} (h : arcL a = arcL b) : a = b := by
  obtain ⟨a1, a2, a3, a4⟩ := a
  obtain ⟨b1, b2, b3, b4⟩ := b
  simp only [arcL, List.cons.injEq, P.int.injEq, and_true] at h
  simp only [Prod.mk.injEq]
  omega
theorem sq_inj {x : P} {xs ys : List P} (h1 : Sq x xs) (h2 : Sq x ys) : xs = ys := by
  rcases h1 with rfl | rfl <;> rcases h2 with h | h <;> cases h <;> rfl
theorem larcs_inj {x : P} {as bs : List Arc} (h1 : LArcs x as) (h2 : LArcs x bs) : as = bs := by
  obtain ⟨ps, hx, r1⟩ := h1
  obtain ⟨qs, hy, r2⟩ := h2
  have e := sq_inj hx hy
  subst e
  clear hx hy
  induction r1 generalizing bs with
  | nil => cases r2; rfl
  | cons h _ ih =>
    cases r2 with
    | cons h2 t2 => rw [arcL_inj (sq_inj h h2), ih t2]
theorem post_net {C : Addr} {n : Nat} {x : P} {as : List Arc} {ord : List Nat} {y : P} (h : PostNet C [.int (n : Nat), x] y) (hx : LArcs x as) (ho : orderOf n as = some ord) : ∃ ls : List Arc, ls.Perm (as ++ selfArcs n) ∧ y = netP C n as ord ls := by
  obtain ⟨x2, as2, n2, ord2, ls, e, hx2, ho2, hp, rfl⟩ := h
  simp only [List.cons.injEq, P.int.injEq, and_true] at e
  obtain ⟨e1, rfl⟩ := e
  have e1 : n = n2 := by omega
  subst e1
  have e2 := larcs_inj hx hx2
  subst e2
  rw [ho] at ho2
  cases ho2
  exact ⟨ls, hp, rfl⟩
theorem c_net (M : Mk K C f) (F : FnP K "__init__" "Net.__init__" s_net_init f fd) (hm : mg "Net" = some (.ref C)) (B : Bl mg) (NC : NetC K C) (c1 : Ct false Pr w K mg base 2 "is_positive" (SF F_is_positive)) (c2 : Ct false Pr w K mg base 5 "checked_arcs" (SF F_checked_arcs)) (c3 : Ct false Pr w K mg base 1 "order_of" (SF F_order_of))
    : Mkr Pr w K mg base 6 "Net" C PreNet (PostNet C) := by
  have nd := sc_net_init.nd
  refine mkr_of M hm F sc_net_init (fun _ _ _ _ _ _ us hl => match us, hl with | [_, _, _], _ => rfl) (by rintro _ ⟨x, as, n, ord, rfl, _⟩; rfl) fun cdv A outer s H E hr zs pre => ?_
  obtain ⟨x, as, n, ord, rfl, hx, hin, hl, hb, hn, ho⟩ := pre
  refine tss_cons (tsp_ifE (et_not (et_val (ev_call c1 (hr.mono (by decide)) (eas_cons (ev_name 1) eas_nil) ⟨_, "int", rfl, rfl, rfl⟩))) (fun h => ?_) fun _ => tss_nil ?_)
  · have : isPosP (.int (n : Nat)) = true := decide_eq_true (by omega)
    rw [this] at h
    cases h
  refine tss_cons (tsp_seta ((ev_name 1) _ ((ev_name 0) _ ⟨0, C, [], rfl, rfl, NC.cls, NC.many, by decide, ?_⟩)))
  refine tss_cons (tsp_seta ((ev_call c2 hr (eas_cons (ev_name 1) (eas_cons (ev_name 2) eas_nil)) ⟨x, as, n, rfl, hx, hin, by omega, rfl⟩) _ ((ev_name 0) _ ⟨0, C, _, rfl, rfl, NC.cls, NC.own, Nat.lt_of_lt_of_le (putA_lt (k := 1) (by decide : 0 < 1)) (by decide), ?_⟩)))
  refine tss_cons (tsp_seta ((ev_call c3 (hr.mono (by decide)) (eas_cons (ev_name 1) (eas_cons (ev_attrC (ev_name 0) rfl NC.cls NC.own rfl) eas_nil)) ⟨n, as, rfl, by omega, by omega, rfl⟩) _ ((ev_name 0) _ ⟨0, C, _, rfl, rfl, NC.cls, NC.order, Nat.lt_of_lt_of_le (putA_lt (putA_lt (k := 1) (by decide : 0 < 1))) (by decide), ?_⟩)))
  rw [ho]
  refine tss_cons (tsp_ifE (et_isN (ev_attrC (y := .sh (.lst (natsP ord))) (ev_name 0) rfl NC.cls NC.order rfl)) (fun h => nomatch h) fun _ => tss_nil ?_)
  have hal : ∀ a ∈ as ++ selfArcs n, (arcI a).length = 4 ∧ ∀ m ∈ arcI a, 0 ≤ m ∧ m < 1000 := by
    intro a ha
    refine ⟨rfl, fun m hm => ⟨?_, ?_⟩⟩
    · simp only [arcI, List.mem_cons, List.not_mem_nil, or_false] at hm
      rcases hm with rfl | rfl | rfl | rfl <;> omega
    · rcases List.mem_append.mp ha with h | h
      · exact hb a h m hm
      · obtain ⟨e, he, rfl⟩ := List.mem_map.mp h
        have he := List.mem_range.mp he
        simp only [arcI, List.mem_cons, List.not_mem_nil, or_false] at hm
        rcases hm with rfl | rfl | rfl | rfl <;> omega
  refine tss_cons (tsp_seta (tep_sortT (as ++ selfArcs n) arcI 4 1000 (by decide) B.sorted ((ev_lst (ys := as.map arcP ++ ((selfArcs n).map arcP ++ [])) (eas_star (ev_attrC (ev_name 0) rfl NC.cls NC.own rfl) (eas_star ((ev_lc0 (List.range n) (fun e => .int (e : Nat))
    (fun e => [some (.pt 0), some (.sh (.int (n : Nat))), some (.sh x), some (.sh (.int (e : Nat)))]) (fun e => arcP (e, e, 1, 0)) [3] [("event", 3)] rfl nd (blkOk_by (by kernel_rfl)) (ei_range1 B.range (ev_name 1) (by omega)) (by simp; omega) (fun a _ => tgb_name 3 nd (by decide) rfl rfl) (fun e _ s H C cl fp => ev_tup (eas_cons (ev_name 3) (eas_cons (ev_name 3) (eas_cons ev_int (eas_cons ev_int eas_nil)))) (Nat.le_of_ble_eq_true rfl)) ).is (by unfold selfArcs; rw [List.map_map]; rfl)) eas_nil)) (by simp [selfArcs]; omega)).is
    (by rw [List.append_nil, ← List.map_append]; rfl)) (by simp [selfArcs]; exact hl) hal fun ls pm => ((ev_name 0) _ ⟨0, C, _, rfl, rfl, NC.cls, NC.links, Nat.lt_of_lt_of_le (putA_lt (putA_lt (putA_lt (k := 1) (by decide : 0 < 1)))) (by decide), ?_⟩)))
  refine tss_one (tsp_seta (ev_dT0 _ ((ev_name 0) _ ⟨0, C, _, rfl, rfl, NC.cls, NC.kept, Nat.lt_of_lt_of_le (putA_lt (putA_lt (putA_lt (putA_lt (k := 1) (by decide : 0 < 1))))) (by decide), _, ⟨x, as, n, ord, ls, rfl, hx, ho, pm, rfl⟩, Frz.objS rfl⟩)))
end
end PV

namespace PV
open PySem PySem.Spec PyProof.Rows L2
/-- two cells of μ, laid anew -/
def two (μ : Mu) (i j : Nat) (a b : Cell) : Mu := (μ.set i (some a)).set j (some b)
section
variable {μ : Mu} {i j : Nat} {a a' b b' : Cell}
theorem two_len : (two μ i j a b).length = μ.length := by unfold two; rw [List.length_set, List.length_set]
theorem two_1 (h : i < μ.length) (n : i ≠ j) : (two μ i j a b)[i]? = some (some a) := by
  unfold two
  rw [List.getElem?_set_ne (Ne.symm n), List.getElem?_set_self h]
theorem two_2 (h : j < μ.length) : (two μ i j a b)[j]? = some (some b) := by
  unfold two
  rw [List.getElem?_set_self (by rw [List.length_set]; exact h)]
theorem two_else {k : Nat} (h1 : k ≠ i) (h2 : k ≠ j) : (two μ i j a b)[k]? = μ[k]? := by
  unfold two
  rw [List.getElem?_set_ne (Ne.symm h2), List.getElem?_set_ne (Ne.symm h1)]
theorem two_set1 (n : i ≠ j) : (two μ i j a b).set i (some a') = two μ i j a' b := by
  unfold two
  rw [List.set_comm _ _ (Ne.symm n), List.set_set]
theorem two_set2 : (two μ i j a b).set j (some b') = two μ i j a b' := by
  unfold two
  rw [List.set_set]
theorem two_eq (h1 : μ[i]? = some (some a)) (h2 : μ[j]? = some (some b)) : μ = two μ i j a b := by
  refine List.ext_getElem? fun k => ?_
  unfold two
  by_cases c : j = k
  · subst c
    rw [List.getElem?_set_self (by rw [List.length_set]; exact (List.getElem?_eq_some_iff.mp h2).1), h2]
  · rw [List.getElem?_set_ne c]
    by_cases c2 : i = k
    · subst c2
      rw [List.getElem?_set_self (List.getElem?_eq_some_iff.mp h1).1, h1]
    · rw [List.getElem?_set_ne c2]
end
def strA (jc : Nat) (mix cnt rest : Int) : Cell := .lst [.pt jc, .sh (.int mix), .sh (.int cnt), .sh (.int rest)]
def strB (cs : List Int) : Cell := .lst ((cs.map P.int).map .sh)
/-- a stream of draws, at most N drawn so far -/
structure StrAt (js jc N : Nat) (μ : Mu) : Prop where
  ne : js ≠ jc
  ex : ∃ (cs : List Int) (mix cnt rest : Int), μ[js]? = some (some (strA jc mix cnt rest)) ∧ μ[jc]? = some (some (strB cs)) ∧ 0 ≤ mix ∧ mix < 2147483629 ∧ 0 ≤ cnt ∧ cnt ≤ N ∧ 0 ≤ rest ∧ ∀ c ∈ cs, 0 < c
structure But2 (js jc : Nat) (μ μ' : Mu) : Prop where
  len : μ'.length = μ.length
  at_ : ∀ i, i ≠ js → i ≠ jc → μ'[i]? = μ[i]?
theorem But2.refl (js jc : Nat) (μ : Mu) : But2 js jc μ μ := ⟨rfl, fun _ _ _ => rfl⟩
theorem But2.trans {js jc : Nat} {μ μ1 μ2 : Mu} (a : But2 js jc μ μ1) (b : But2 js jc μ1 μ2) : But2 js jc μ μ2 := ⟨b.len.trans a.len, fun i h1 h2 => (b.at_ i h1 h2).trans (a.at_ i h1 h2)⟩
def S_draw : PSpec := fun xs μ Q => ∃ js jc N m : Nat, xs = [.pt js, .sh (.int (m : Nat))] ∧ StrAt js jc N μ ∧ N < 100000000 ∧ 0 < m ∧ m < 1000 ∧ ∀ (d : Nat) μ', d < m → But2 js jc μ μ' → StrAt js jc (N + 1) μ' → Q (.sh (.int (d : Nat))) μ'
section
variable {g : Bool} {Pr : Program} {w : World} {K : PySem.W.Frag} {mg : Str → Option Value} {base : Heap} {f : Addr} {fd : FuncData} {C : Addr}
theorem sc_law_draw : FnScope ["_law_stream", "_law_many", "_law_digit", "_law_mixed_here"] ["_law_stream", "_law_many"] (defScope s_law_draw) := ⟨rfl, rfl, rfl, by decide +kernel, rfl, by decide +kernel, by decide +kernel⟩
theorem c_law_draw (F : FnP K "_law_draw" "_law_draw" s_law_draw f fd) (hm : mg "_law_draw" = some (.ref f)) (B : Bl mg) : Ct g Pr w K mg base 1 "_law_draw" S_draw := by
  refine ct_of F hm sc_law_draw (fun _ _ _ _ _ _ us hl => match us, hl with | [_, _], _ => rfl) (by rintro _ _ _ ⟨js, jc, N, m, rfl, _⟩; rfl) fun cdv A outer s H E hr xs μ Q hS => ?_
  obtain ⟨js, jc, N, m, rfl, ⟨ne, cs, mix, cnt, rest, h1, h2, m0, m1, c0, c1, r0, hcs⟩, hN, hm0, hm1, q⟩ := hS
  have nd := sc_law_draw.nd
  have hu := hr.u64
  have l1 := (List.getElem?_eq_some_iff.mp h1).1
  have l2 := (List.getElem?_eq_some_iff.mp h2).1
  have e0 := two_eq h1 h2
  -- the end: the cells as they are left
  have fin : ∀ (d : Nat) (mix2 rest2 : Int) (cs2 : List Int), d < m → mix2 = mix → 0 ≤ rest2 → (∀ c ∈ cs2, 0 < c) → Q (.sh (.int (d : Nat))) (two μ js jc (strA jc mix2 (cnt + 1) rest2) (strB cs2)) := fun d mix2 rest2 cs2 hd e hr2 hc2 => by
    subst e
    exact q d _ hd ⟨two_len, fun i h3 h4 => two_else h3 h4⟩ ⟨ne, cs2, mix2, cnt + 1, rest2, two_1 l1 ne, two_2 l2, m0, m1, by omega, by omega, hr2, hc2⟩
  have f1 : ∀ (c r : Int) (cs : List Int), (two μ js jc (strA jc mix c r) (strB cs))[js]? = some (some (strA jc mix c r)) := fun _ _ _ => two_1 l1 ne
  have f2 : ∀ (c r : Int) (cs : List Int), (two μ js jc (strA jc mix c r) (strB cs))[jc]? = some (some (strB cs)) := fun _ _ _ => two_2 l2
  rw [e0]
  refine tss_cons (tsp_seti ((ev_add (ev_ixC (ev_name 0) ev_int (f1 _ _ _) (atI_of 2 rfl rfl)) ev_int) _ ((ev_name 0) _ ((ev_int) _ ⟨js, _, 2, rfl, rfl, f1 _ _ _, by simp, ?_⟩))))
  show TSs _ _ _ ((two μ js jc (strA jc mix cnt rest) (strB cs)).set js (some (strA jc mix (cnt + 1) rest))) _
  rw [two_set1 ne]
  let R : Option PV.E → Option PV.E → Rho := fun a b => [some (.pt js), some (.sh (.int (m : Nat))), a, b]
  refine tss_cons (tsp_mid (fun ρ1 μ1 => ρ1 = R none none ∧ ∃ rest2 cs2, μ1 = two μ js jc (strA jc mix (cnt + 1) rest2) (strB cs2) ∧ 0 ≤ rest2 ∧ ∀ c ∈ cs2, 0 < c) (tsp_ifE (et_w (ew_and (et_eqI (ev_ixC (ev_name 0) ev_int (f1 _ _ _) (atI_of 3 rfl rfl)) ev_int) fun _ => ew_and1 (et_neD hu (ev_ixC (ev_name 0) ev_int (f1 _ _ _) (atI_of 0 rfl rfl)) (ev_lst eas_nil) (DE.pt (n := 1) (f2 _ _ _) (pd_ints cs) (by decide)) (DE.sh (n := 1) pd_nil (by decide))))) (fun h => ?_) fun h => tss_nil ⟨rfl, rest, cs, rfl, r0, hcs⟩) ?_)
  · rw [eqv_nil] at h
    cases cs with
    | nil => simp at h
    | cons c0' cs =>
      refine tss_one (tsp_seti (tep_popAt ((ev_ixC (ev_name 0) ev_int (f1 _ _ _) (atI_of 0 rfl rfl)) _ ⟨jc, _, rfl, f2 _ _ _, (ev_int) _ ⟨_, 0, .sh (.int c0'), f2 _ _ _, rfl, rfl, by decide, ?_⟩⟩)))
      show TEP _ _ _ ((two μ js jc (strA jc mix (cnt + 1) rest) (strB (c0' :: cs))).set jc (some (strB cs))) _
      rw [two_set2]
      refine (ev_name 0) _ ((ev_int) _ ⟨js, _, 3, rfl, rfl, f1 _ _ _, by simp, ?_⟩)
      show _ ∧ _
      refine ⟨rfl, c0', cs, ?_, Int.le_of_lt (hcs c0' (List.mem_cons_self ..)), fun c hc => hcs c (List.mem_cons_of_mem _ hc)⟩
      show (two μ js jc (strA jc mix (cnt + 1) rest) (strB cs)).set js (some (strA jc mix (cnt + 1) c0')) = _
      rw [two_set1 ne]
  rintro ρ1 μ1 ⟨rfl, rest2, cs2, rfl, hr2, hc2⟩
  have dm : ∀ z : Int, ∃ d : Nat, d < m ∧ z % (m : Int) = (d : Int) := fun z => ⟨(z % (m : Int)).toNat, by have := Int.emod_nonneg z (b := (m : Int)) (by omega); have := Int.emod_lt_of_pos z (b := (m : Int)) (by omega); omega, by have := Int.emod_nonneg z (b := (m : Int)) (by omega); omega⟩
  refine tss_cons (tsp_ifE (et_gt (ev_ixC (ev_name 0) ev_int (f1 _ _ _) (atI_of 3 rfl rfl)) ev_int) (fun h => ?_) fun h => tss_nil ?_)
  · obtain ⟨d, hd, hde⟩ := dm rest2
    refine tss_cons (tsp_setV 2 nd ((ev_mod (ev_intI B.int (ev_ixC (ev_name 0) ev_int (f1 _ _ _) (atI_of 3 rfl rfl))) (ev_name 1) (by omega)).is (y := .sh (.int (d : Nat))) (by rw [hde])) ?_)
    refine tss_cons (tsp_seti ((ev_fdiv (ev_ixC (ev_name 0) ev_int (f1 _ _ _) (atI_of 3 rfl rfl)) (ev_name 1) ⟨by omega, by omega⟩) _ ((ev_name 0) _ ((ev_int) _ ⟨js, _, 3, rfl, rfl, f1 _ _ _, by simp, ?_⟩))))
    show TSs _ _ _ ((two μ js jc (strA jc mix (cnt + 1) rest2) (strB cs2)).set js (some (strA jc mix (cnt + 1) (rest2 / (m : Int))))) _
    rw [two_set1 ne]
    exact tss_one (tsp_retV (ev_name 2) (fin d mix _ cs2 hd rfl (Int.ediv_nonneg hr2 (by omega)) hc2))
  · have hb1 : (mix + 7919 * (cnt + 1) + 104729).natAbs < 2 ^ 64 := by omega
    refine tss_cons (tsp_setV 3 nd (ev_mod (ev_pow (ev_intI B.int (ev_add (ev_add (ev_ixC (ev_name 0) ev_int (f1 _ _ _) (atI_of 1 rfl rfl)) (ev_mul ev_int (ev_ixC (ev_name 0) ev_int (f1 _ _ _) (atI_of 2 rfl rfl)) (.inl (by omega)))) ev_int)) ev_int ⟨by omega, by omega, hb1⟩) ev_int (by decide)) ?_)
    generalize hz : (mix + 7919 * (cnt + 1) + 104729) ^ (5 : Int).toNat % 2147483647 = z
    have hz0 : 0 ≤ z := by rw [← hz]; exact Int.emod_nonneg _ (by decide)
    have hz1 : z < 2147483647 := by rw [← hz]; exact Int.emod_lt_of_pos _ (by decide)
    obtain ⟨d, hd, hde⟩ := dm ((z * 48271 + 30011 * (cnt + 1) + 29) ^ (3 : Int).toNat % 1000000007 / 2)
    refine tss_one (tsp_retV (x := .sh (.int (d : Nat))) ((ev_mod (ev_fdiv (ev_mod (ev_pow (ev_intI B.int (ev_add (ev_add (ev_mul (ev_name 3) ev_int (.inr (by omega))) (ev_mul ev_int (ev_ixC (ev_name 0) ev_int (f1 _ _ _) (atI_of 2 rfl rfl)) (.inl (by omega)))) ev_int)) ev_int ⟨by omega, by omega, by omega⟩) ev_int (by decide)) ev_int ⟨by decide, by decide⟩) (ev_name 1) (by omega)).is (by rw [hde])) (fin d mix rest2 cs2 hd rfl hr2 hc2))
end
end PV

namespace PV
open PySem PySem.Spec PyProof.Rows L2
/-- cells as they were, but for the stream's; more may have come -/
structure Ext2 (js jc : Nat) (μ μ' : Mu) : Prop where
  len : μ.length ≤ μ'.length
  at_ : ∀ i, i < μ.length → i ≠ js → i ≠ jc → μ'[i]? = μ[i]?
theorem Ext2.refl (js jc : Nat) (μ : Mu) : Ext2 js jc μ μ := ⟨Nat.le_refl _, fun _ _ _ _ => rfl⟩
theorem Ext2.trans {js jc : Nat} {μ μ1 μ2 : Mu} (a : Ext2 js jc μ μ1) (b : Ext2 js jc μ1 μ2) : Ext2 js jc μ μ2 := ⟨Nat.le_trans a.len b.len, fun i h h1 h2 => (b.at_ i (Nat.lt_of_lt_of_le h a.len) h1 h2).trans (a.at_ i h h1 h2)⟩
theorem But2.ext {js jc : Nat} {μ μ1 : Mu} (a : But2 js jc μ μ1) : Ext2 js jc μ μ1 := ⟨Nat.le_of_eq a.len.symm, fun i _ h1 h2 => a.at_ i h1 h2⟩
theorem Ext2.app (js jc : Nat) (μ : Mu) (l : Mu) : Ext2 js jc μ (μ ++ l) := ⟨by simp, fun i h _ _ => List.getElem?_append_left h⟩
theorem StrAt.lt {js jc N : Nat} {μ : Mu} (h : StrAt js jc N μ) : js < μ.length ∧ jc < μ.length := by
  obtain ⟨_, cs, mix, cnt, rest, h1, h2, _⟩ := h
  exact ⟨(List.getElem?_eq_some_iff.mp h1).1, (List.getElem?_eq_some_iff.mp h2).1⟩
theorem StrAt.app {js jc N : Nat} {μ : Mu} (h : StrAt js jc N μ) (l : Mu) : StrAt js jc N (μ ++ l) := by
  have hl := h.lt
  obtain ⟨ne, cs, mix, cnt, rest, h1, h2, r⟩ := h
  exact ⟨ne, cs, mix, cnt, rest, by rw [List.getElem?_append_left hl.1]; exact h1, by rw [List.getElem?_append_left hl.2]; exact h2, r⟩
theorem StrAt.set {js jc N k : Nat} {μ : Mu} (h : StrAt js jc N μ) (h1 : k ≠ js) (h2 : k ≠ jc) (c : Option Cell) : StrAt js jc N (μ.set k c) := by
  obtain ⟨ne, cs, mix, cnt, rest, e1, e2, r⟩ := h
  exact ⟨ne, cs, mix, cnt, rest, by rw [List.getElem?_set_ne h1]; exact e1, by rw [List.getElem?_set_ne h2]; exact e2, r⟩
theorem StrAt.mono {js jc N M : Nat} {μ : Mu} (h : StrAt js jc N μ) (l : N ≤ M) : StrAt js jc M μ := by
  obtain ⟨ne, cs, mix, cnt, rest, e1, e2, a, b, c, d, r⟩ := h
  exact ⟨ne, cs, mix, cnt, rest, e1, e2, a, b, c, by omega, r⟩
theorem map_erase {α β : Type} (f : α → β) : ∀ (l : List α) (d : Nat), (l.map f).eraseIdx d = (l.eraseIdx d).map f
  | [], _ => rfl
  | _ :: _, 0 => rfl
  | a :: l, d + 1 => congrArg (f a :: ·) (map_erase f l d)
theorem erase_perm {α : Type} : ∀ (l : List α) (d : Nat) (h : d < l.length), (l[d] :: l.eraseIdx d).Perm l
  | [], _, h => absurd h (by simp)
  | a :: l, 0, _ => List.Perm.refl _
  | a :: l, d + 1, h => (List.Perm.swap a (l[d]'(by simpa using h)) _).trans ((erase_perm l d (by simpa using h)).cons a)
def S_pick : PSpec := fun xs μ Q => ∃ (js jc N : Nat) (things : List P), xs = [.pt js, .sh (.lst things)] ∧ StrAt js jc N μ ∧ N < 100000000 ∧ 0 < things.length ∧ things.length < 1000 ∧ ∀ y μ', y ∈ things → But2 js jc μ μ' → StrAt js jc (N + 1) μ' → Q (.sh y) μ'
def S_mixed : PSpec := fun xs μ Q => ∃ (js jc N : Nat) (things : List P), xs = [.pt js, .sh (.lst things)] ∧ StrAt js jc N μ ∧ N < 90000000 ∧ things.length < 900 ∧ ∀ ys μ', ys.Perm things → Ext2 js jc μ μ' → StrAt js jc (N + things.length) μ' → Q (.sh (.lst ys)) μ'
section
variable {g : Bool} {Pr : Program} {w : World} {K : PySem.W.Frag} {mg : Str → Option Value} {base : Heap} {f : Addr} {fd : FuncData} {C : Addr}
/-- _law_draw(stream, e) -/
theorem tep_draw {X : Cx} {e1 e2 : Expr} {ρ : Rho} {μ : Mu} {Q : E → Mu → Prop} {pos p2 : Pos} {k js jc N m : Nat} (c : Ct g X.prog X.w X.K X.mg X.base k "_law_draw" S_draw) (hr : RoomG g k X.A) (h1 : EV X e1 ρ μ (.pt js)) (h2 : EV X e2 ρ μ (.sh (.int (m : Nat)))) (hS : StrAt js jc N μ) (hN : N < 100000000) (hm : 0 < m) (hm2 : m < 1000)
    (q : ∀ (d : Nat) μ', d < m → But2 js jc μ μ' → StrAt js jc (N + 1) μ' → Q (.sh (.int (d : Nat))) μ') (hg : Gl X "_law_draw" := by rfl) (hs1 : starEach [e1, e2] X.env = (false, eval e1 X.env) :: starEach [e2] X.env := by rfl) (hs2 : starEach [e2] X.env = (false, eval e2 X.env) :: starEach [] X.env := by rfl) : TEP X (.Call (.Name "_law_draw" p2) [e1, e2] [] pos) ρ μ Q :=
  tep_call c hr (tap_consV h1 (tap_consV h2 (tap_nil ⟨js, jc, N, m, rfl, hS, hN, hm, hm2, q⟩) hs2) hs1) hg (by decide) hs1 (by rw [hs2]; rfl)
theorem sc_law_pick : FnScope ["_law_stream", "_law_things"] ["_law_stream", "_law_things"] (defScope s_law_pick) := ⟨rfl, rfl, rfl, by decide +kernel, rfl, by decide +kernel, by decide +kernel⟩
theorem c_law_pick (F : FnP K "_law_pick" "_law_pick" s_law_pick f fd) (hm : mg "_law_pick" = some (.ref f)) (B : Bl mg) (c1 : Ct g Pr w K mg base 1 "_law_draw" S_draw) : Ct g Pr w K mg base 2 "_law_pick" S_pick := by
  refine ct_of F hm sc_law_pick (fun _ _ _ _ _ _ us hl => match us, hl with | [_, _], _ => rfl) (by rintro _ _ _ ⟨js, jc, N, m, rfl, _⟩; rfl) fun cdv A outer s H E hr xs μ Q hS => ?_
  obtain ⟨js, jc, N, things, rfl, hA, hN, h0, h1, q⟩ := hS
  refine tss_one (tsp_ret (tep_ix ix_list (by intro _ _; rfl) ((ev_name 1) _ (tep_draw c1 hr (m := things.length) (ev_name 0) (ev_len B.len (ev_name 1)) hA hN h0 h1 fun d μ' hd b s' => ?_))))
  exact v2_ixL (atI_of d rfl (List.getElem?_eq_getElem hd)) (q _ _ (List.getElem_mem hd) b s')
theorem sc_law_mixed : FnScope ["_law_stream", "_law_things", "_law_left", "_law_found", "_law_k"] ["_law_stream", "_law_things"] (defScope s_law_mixed) := ⟨rfl, rfl, rfl, by decide +kernel, rfl, by decide +kernel, by decide +kernel⟩
theorem c_law_mixed (F : FnP K "_law_mixed" "_law_mixed" s_law_mixed f fd) (hm : mg "_law_mixed" = some (.ref f)) (B : Bl mg) (c1 : Ct g Pr w K mg base 1 "_law_draw" S_draw) : Ct g Pr w K mg base 2 "_law_mixed" S_mixed := by
  refine ct_of F hm sc_law_mixed (fun _ _ _ _ _ _ us hl => match us, hl with | [_, _], _ => rfl) (by rintro _ _ _ ⟨js, jc, N, m, rfl, _⟩; rfl) fun cdv A outer s H E hr xs μ Q hS => ?_
  obtain ⟨js, jc, N, things, rfl, hA, hN, h0, q⟩ := hS
  have nd := sc_law_mixed.nd
  have hl := hA.lt
  refine tss_cons (tsp_par2A 2 3 nd (tap_cons (tep_listC B.list ((ev_name 1) _ ⟨things, .inl rfl, tap_cons (tep_lstC (tap_nil ⟨by decide, tap_nil ⟨_, _, rfl, ?_⟩⟩))⟩))))
  let R : Option PV.E → Rho := fun a => [some (.pt js), some (.sh (.lst things)), some (.pt μ.length), some (.pt (μ.length + 1)), a]
  have e0 : (μ ++ [some (Cell.lst (things.map .sh))]).length = μ.length + 1 := by simp
  rw [e0]
  refine tss_cons (tsp_forL (List.range things.length) (fun k => .int (k : Nat)) [4] (fun i ρ2 μ2 => (∃ a, ρ2 = R a) ∧ ∃ lf fo : List P, μ2.length = μ.length + 2 ∧ μ2[μ.length]? = some (some (.lst (lf.map .sh))) ∧ μ2[μ.length + 1]? = some (some (.lst (fo.map .sh))) ∧ lf.length + i = things.length ∧ fo.length = i ∧ (fo ++ lf).Perm things ∧ StrAt js jc (N + i) μ2 ∧ ∀ i, i < μ.length → i ≠ js → i ≠ jc → μ2[i]? = μ[i]?)
    (ei_range1 B.range (ev_lenC B.len (ev_name 2) (by rw [List.getElem?_append_left (by simp), List.getElem?_append_right (Nat.le_refl _), Nat.sub_self]; rfl)) (by simp; omega)) ⟨⟨none, rfl⟩, things, [], by simp, ?_, ?_, by simp, rfl, by simp, ?_, ?_⟩ ?_ ?_)
  · rw [List.getElem?_append_left (by simp), List.getElem?_append_right (Nat.le_refl _), Nat.sub_self]
    rfl
  · rw [List.getElem?_append_right (by simp)]
    simp
  · exact (hA.app _).app _
  · intro i hi _ _
    rw [List.append_assoc, List.getElem?_append_left hi]
  · rintro i k ρ2 μ2 hk ⟨⟨a, rfl⟩, lf, fo, hlen, hL, hF, hlf, hfo, pm, hS2, hold⟩
    obtain ⟨hi, rfl⟩ := List.getElem?_eq_some_iff.mp hk
    simp only [List.length_range] at hi
    refine tgp_name 4 ?_ (by decide) nd rfl (.inl rfl) (.inl rfl)
    refine tss_one (tsp_expr (tep_append ((ev_name 3) _ ⟨μ.length + 1, _, rfl, hF, tep_popAt ((ev_name 2) _ ⟨μ.length, _, rfl, hL, tep_draw c1 hr (m := lf.length) (ev_name 0) ((ev_lenC B.len (ev_name 2) hL).is (by simp)) hS2 (by omega) (by omega) (by omega) fun d μ' hd b s' => ?_⟩)⟩)))
    have hL' : μ'[μ.length]? = some (some (.lst (lf.map .sh))) := (b.at_ _ (by omega) (by omega)).trans hL
    have hF' : μ'[μ.length + 1]? = some (some (.lst (fo.map .sh))) := (b.at_ _ (by omega) (by omega)).trans hF
    refine ⟨lf.map .sh, d, .sh lf[d], hL', rfl, by rw [List.getElem?_map, List.getElem?_eq_getElem hd]; rfl, by omega, ?_⟩
    have hl' : μ'.length = μ.length + 2 := b.len.trans hlen
    refine ⟨fo.map .sh, ?_, by rw [List.length_map]; omega, ?_⟩
    · rw [List.getElem?_set_ne (by omega)]
      exact hF'
    · have hd2 : lf[d]? = some lf[d] := List.getElem?_eq_getElem hd
      refine ⟨⟨_, rfl⟩, lf.eraseIdx d, fo ++ [lf[d]], by simp [hl'], ?_, ?_, ?_, by simp [hfo], ?_, ?_, fun i2 h1 h2 h3 => ?_⟩
      · rw [List.getElem?_set_ne (by omega), List.getElem?_set_self (by omega), map_erase]
      · rw [List.getElem?_set_self (by rw [List.length_set]; omega), List.map_append]
        rfl
      · rw [List.length_eraseIdx_of_lt hd]
        omega
      · refine List.Perm.trans ?_ pm
        rw [List.append_assoc]
        exact List.Perm.append_left fo (erase_perm lf d hd)
      · rw [← Nat.add_assoc]
        exact (s'.set (by omega) (by omega) _).set (by omega) (by omega) _
      · rw [List.getElem?_set_ne (by omega), List.getElem?_set_ne (by omega), b.at_ _ h2 h3]
        exact hold i2 h1 h2 h3
  · rintro ρ2 μ2 ⟨⟨a, rfl⟩, lf, fo, hlen, hL, hF, hlf, hfo, pm, hS2, hold⟩
    rw [List.length_range] at hlf hfo hS2
    have hnil : lf = [] := List.length_eq_zero_iff.mp (by omega)
    subst hnil
    rw [List.append_nil] at pm
    refine tss_share (μ.length + 1) (zs := fo) (R := [some (.pt js), some (.sh (.lst things)), some (.pt μ.length), some (.sh (.lst fo)), a]) hF rfl ?_ ?_
    · intro i2 x2 hx2
      match i2, hx2 with
      | 0, h => exact .inl h
      | 1, h => exact .inl h
      | 2, h => exact .inl h
      | 3, h => cases h; exact .inr ⟨rfl, rfl⟩
      | i2 + 4, h => exact .inl h
    · refine tss_one (tsp_retV (ev_name 3) (q fo _ pm ⟨by rw [List.length_set]; omega, fun i2 h1 h2 h3 => ?_⟩ (hS2.set (by omega) (by omega) _)))
      rw [List.getElem?_set_ne (by omega)]
      exact hold i2 h1 h2 h3
end
end PV

namespace PV
open PySem PySem.Spec PyProof.Rows L2
section
variable {X : Cx} {tg iter elt : Expr} {ρ : Rho} {μ : Mu} {pos : Pos} {scope : Scope} {items : List E}
/-- [elt for x in .. if c], to be changed -/
theorem tep_lc1C {α : Type} (l : List α) (f : α → P) (r : α → Rho) (p : α → Bool) (g : α → P) (js : List Nat) (own : List (Str × Nat)) {c : Expr} {Q : E → Mu → Prop} (nd : X.N.Nodup) (ok : BlkOk X.N X.env.scope scope own) (hi : EI X tg iter ρ μ items) (hl : l.length ≤ 100000)
    (ht : ∀ a ∈ l, TgB X scope tg js (.sh (f a)) (wipeR ρ (own.map (·.2))) (r a) μ) (hp : ∀ a ∈ l, ETB X scope c (r a) μ (p a)) (he : ∀ a ∈ l, p a = true → EVB X scope elt (r a) μ (.sh (g a))) (q : Q (.pt μ.length) (μ ++ [some (.lst (((l.filter p).map g).map .sh))]))
    (hz : items = l.map (fun a => .sh (f a)) := by first | rfl | (rw [List.map_map]; rfl) | simp) (hjs : ∀ j ∈ js, j ∈ own.map (·.2) := by decide) (hc : X.calm = true := by rfl) (hs : ∀ x, foldedSetIterable iter X.env x = pure x := by intro _; rfl) : TEP X (.ListComp elt [⟨tg, iter, [c], 0⟩] scope pos) ρ μ Q :=
  tep_lcC own js hc nd ok hjs (lc_inv (p := p) (g := g) (Fin := fun acc μ2 => Q (.pt μ2.length) (μ2 ++ [some (.lst acc)])) (hi.is hz) hl ht (fun a ha => ttsb1 (hp a ha)) (fun a ha h Q q s H C cl fp => he a ha h s H C cl fp Q q) q) hs
end
def S_start : PSpec := fun xs μ Q => ∃ ns : List Int, xs = [.sh (.scr (ns.map .int))] ∧ ns.length ≤ 1000 ∧ ∀ μ', StrAt (μ.length + 1) μ.length 0 μ' → μ'.length = μ.length + 2 → (∀ i, i < μ.length → μ'[i]? = μ[i]?) → Q (.pt (μ.length + 1)) μ'
section
variable {g : Bool} {Pr : Program} {w : World} {K : PySem.W.Frag} {mg : Str → Option Value} {base : Heap} {f : Addr} {fd : FuncData} {C : Addr}
theorem sc_law_start : FnScope ["_law_script", "_law_mix", "_law_cell"] ["_law_script"] (defScope s_law_start) := ⟨rfl, rfl, rfl, by decide +kernel, rfl, by decide +kernel, by decide +kernel⟩
theorem c_law_start (F : FnP K "_law_start" "_law_start" s_law_start f fd) (hm : mg "_law_start" = some (.ref f)) (B : Bl mg) : Ct g Pr w K mg base 1 "_law_start" S_start := by
  refine ct_of F hm sc_law_start (fun _ _ _ _ _ _ us hl => match us, hl with | [_], _ => rfl) (by rintro _ _ _ ⟨ns, rfl, _⟩; rfl) fun cdv A outer s H E hr xs μ Q hS => ?_
  obtain ⟨ns, rfl, hns, q⟩ := hS
  have nd := sc_law_start.nd
  refine tss_cons (tsp_setV 1 nd ev_int ?_)
  refine tss_cons (tsp_forL ns (fun i => .int i) [2] (fun i ρ2 μ2 => μ2 = μ ∧ ∃ (mix : Int) (a : Option PV.E), 0 ≤ mix ∧ mix < 2147483629 ∧ ρ2 = [some (.sh (.scr (ns.map .int))), some (.sh (.int mix)), a]) (ei_scr (ev_name 0)) ⟨rfl, 17, none, by decide, by decide, rfl⟩ ?_ ?_)
  · rintro i z ρ2 μ2 hz ⟨rfl, mix, a, m0, m1, rfl⟩
    refine tgp_name 2 ?_ (by decide) nd rfl (.inl rfl) (.inl rfl)
    refine tss_one (tsp_setV 1 nd (ev_mod (ev_intI B.int (ev_add (ev_add (ev_mul (ev_name 1) ev_int (.inr (by omega))) (ev_name 2)) ev_int)) ev_int (by decide)) ⟨rfl, _, _, Int.emod_nonneg _ (by decide), Int.emod_lt_of_pos _ (by decide), rfl⟩)
  · rintro ρ2 μ2 ⟨rfl, mix, a, m0, m1, rfl⟩
    refine tss_one (tsp_ret (tep_lstC (tap_cons (tep_lc1C ns (fun i => .int i) (fun i => [some (.sh (.scr (ns.map .int))), some (.sh (.int mix)), some (.sh (.int i))]) (fun i => decide ((10 : Int) ^ (18 : Int).toNat ≤ i)) (fun i => .int i) [2] [("_law_cell", 2)] nd (blkOk_by (by kernel_rfl)) (ei_scr (ev_name 0)) (Nat.le_trans hns (by decide)) (fun a _ => tgb_name 2 nd (by decide) rfl rfl)
      (fun i _ s H C cl fp => et_ge (ev_name 2) (ev_pow ev_int ev_int ⟨by decide, by decide, by decide⟩)) (fun i _ _ s H C cl fp => ev_name 2) (tap_consV (ev_name 1) (tap_consV ev_int (tap_consV ev_int (tap_nil ⟨Nat.le_of_ble_eq_true rfl, ?_⟩))))))))
    have e1 : (μ2 ++ [some (Cell.lst (((ns.filter fun i => decide ((10 : Int) ^ (18 : Int).toNat ≤ i)).map fun i => P.int i).map .sh))]).length = μ2.length + 1 := by simp
    rw [e1]
    refine q _ ⟨by omega, ns.filter fun i => decide ((10 : Int) ^ (18 : Int).toNat ≤ i), mix, 0, 0, ?_, ?_, m0, m1, by decide, by decide, by decide, fun c hc => ?_⟩ (by simp) (fun i hi => ?_)
    · rw [List.getElem?_append_right (by simp)]
      simp
      rfl
    · rw [List.getElem?_append_left (by simp), List.getElem?_append_right (Nat.le_refl _), Nat.sub_self]
      rfl
    · have h1 := of_decide_eq_true (List.mem_filter.mp hc).2
      have h2 : (0 : Int) < (10 : Int) ^ (18 : Int).toNat := by decide
      omega
    · rw [List.append_assoc, List.getElem?_append_left hi]
end
end PV

namespace PV
open PySem PySem.Spec PyProof.Rows L2
theorem perm_map {α β : Type} (f : α → β) {xs ys : List β} (h : xs.Perm ys) : ∀ {l : List α}, xs = l.map f → ∃ l2 : List α, l2.Perm l ∧ ys = l2.map f := by
  induction h with
  | nil =>
    intro l e
    cases l with
    | nil => exact ⟨[], .nil, rfl⟩
    | cons _ _ => cases e
  | cons x _ ih =>
    intro l e
    cases l with
    | nil => cases e
    | cons a l =>
      obtain ⟨l2, h1, h2⟩ := ih (List.cons.inj e).2
      exact ⟨a :: l2, h1.cons a, by rw [h2, List.map_cons, (List.cons.inj e).1]⟩
  | swap x y l0 =>
    intro l e
    cases l with
    | nil => cases e
    | cons a l =>
      cases l with
      | nil => cases (List.cons.inj e).2
      | cons b l =>
        have e1 := List.cons.inj e
        have e2 := List.cons.inj e1.2
        exact ⟨b :: a :: l, .swap a b l, by rw [List.map_cons, List.map_cons, e1.1, e2.1, e2.2]⟩
  | trans _ _ ih1 ih2 =>
    intro l e
    obtain ⟨l2, h1, h2⟩ := ih1 e
    obtain ⟨l3, h3, h4⟩ := ih2 h2
    exact ⟨l3, h3.trans h1, h4⟩
/-- a net as the law draws it -/
structure Drawn (most n : Nat) (as : List Arc) (or : List Nat) : Prop where
  n1 : 1 ≤ n
  n5 : n ≤ 5
  perm : or.Perm (List.range n)
  len : as.length ≤ most
  inn : InN n as
  small : ∀ a ∈ as, a.2.2.1 ≤ 2 ∧ a.2.2.2 ≤ 9
  fw : ∀ a ∈ as, a.2.2.1 = 0 → or.idxOf a.1 < or.idxOf a.2.1
def S_net : PSpec := fun xs μ Q => ∃ js jc N most : Nat, xs = [.pt js, .sh (.int (most : Nat))] ∧ StrAt js jc N μ ∧ N < 80000000 ∧ most ≤ 20 ∧ ∀ n as or μ', Drawn most n as or → Ext2 js jc μ μ' → StrAt js jc (N + 400) μ' → Q (.sh (.tup [.int (n : Nat), .lst (as.map arcP)])) μ'
section
variable {g : Bool} {Pr : Program} {w : World} {K : PySem.W.Frag} {mg : Str → Option Value} {base : Heap} {f : Addr} {fd : FuncData} {C : Addr}
theorem tep_pick {X : Cx} {e1 e2 : Expr} {ρ : Rho} {μ : Mu} {Q : E → Mu → Prop} {pos p2 : Pos} {k js jc N : Nat} {ys : List P} (c : Ct g X.prog X.w X.K X.mg X.base k "_law_pick" S_pick) (hr : RoomG g k X.A) (h1 : EV X e1 ρ μ (.pt js)) (h2 : EV X e2 ρ μ (.sh (.lst ys))) (hS : StrAt js jc N μ) (hN : N < 100000000) (hm : 0 < ys.length) (hm2 : ys.length < 1000)
    (q : ∀ y μ', y ∈ ys → But2 js jc μ μ' → StrAt js jc (N + 1) μ' → Q (.sh y) μ') (hg : Gl X "_law_pick" := by rfl) (hs1 : starEach [e1, e2] X.env = (false, eval e1 X.env) :: starEach [e2] X.env := by rfl) (hs2 : starEach [e2] X.env = (false, eval e2 X.env) :: starEach [] X.env := by rfl) : TEP X (.Call (.Name "_law_pick" p2) [e1, e2] [] pos) ρ μ Q :=
  tep_call c hr (tap_consV h1 (tap_consV h2 (tap_nil ⟨js, jc, N, ys, rfl, hS, hN, hm, hm2, q⟩) hs2) hs1) hg (by decide) hs1 (by rw [hs2]; rfl)
theorem sc_law_n_net : FnScope ["_law_stream", "_law_most", "_law_many", "_law_arcs", "_law_order", "_law_k", "_law_one", "_law_other", "_law_tokens"] ["_law_stream", "_law_most"] (defScope s_law_n_net) := ⟨rfl, rfl, rfl, by decide +kernel, rfl, by decide +kernel, by decide +kernel⟩
theorem c_law_n_net (F : FnP K "_law_n_net" "_law_n_net" s_law_n_net f fd) (hm : mg "_law_n_net" = some (.ref f)) (B : Bl mg) (c1 : Ct g Pr w K mg base 1 "_law_draw" S_draw) (c2 : Ct g Pr w K mg base 2 "_law_pick" S_pick) (c3 : Ct g Pr w K mg base 2 "_law_mixed" S_mixed) :
    Ct g Pr w K mg base 3 "_law_n_net" S_net := by
  refine ct_of F hm sc_law_n_net (fun _ _ _ _ _ _ us hl => match us, hl with | [_, _], _ => rfl) (by rintro _ _ _ ⟨js, jc, N, m, rfl, _⟩; rfl) fun cdv A outer s H E hr xs μ Q hS => ?_
  obtain ⟨js, jc, N, most, rfl, hA, hN, hmo, q⟩ := hS
  have nd := sc_law_n_net.nd
  have hl := hA.lt
  have hr1 := hr.mono (j := 1) (by decide)
  refine tss_cons (tsp_par2A 2 3 nd (tap_cons (tep_add ((ev_int) _ (tep_draw c1 hr1 (m := 5) (ev_name 0) ev_int hA (by omega) (by decide) (by decide) fun d μ1 hd b1 s1 => ⟨1, (d : Int), rfl, rfl, ?_⟩)))))
  rw [show (1 : Int) + (d : Nat) = ((d + 1 : Nat) : Int) by omega]
  generalize hn : d + 1 = n
  have hn1 : 1 ≤ n := by omega
  have hn5 : n ≤ 5 := by omega
  refine tap_cons (tep_lstC (tap_nil ⟨by decide, tap_nil ⟨_, _, rfl, ?_⟩⟩))
  rw [b1.len]
  refine tss_cons (tsp_setP 4 nd (tep_call c3 hr (tap_consV (ev_name 0) (tap_cons (tep_listRg B.list B.range (ev_name 2) (by omega) (tap_nil ⟨js, jc, N + 1, natsP (List.range n), rfl, s1.app _, by omega, by rw [natsP_len, List.length_range]; omega, fun ys μ2 pm x2 s2 => ?_⟩)))))) 
  obtain ⟨or, po, rfl⟩ := perm_map (fun e : Nat => P.int (e : Nat)) pm.symm (l := List.range n) rfl
  rw [natsP_len, List.length_range] at s2
  have hl2 : μ2.length ≥ μ.length + 1 := by have := x2.len; rw [List.length_append, b1.len] at this; simpa using this
  have hA2 : μ2[μ.length]? = some (some (.lst ((([] : List Arc).map arcP).map .sh))) := by
    rw [x2.at_ μ.length (by rw [List.length_append, b1.len]; simp) (by omega) (by omega), List.getElem?_append_right (by rw [b1.len]; exact Nat.le_refl _), b1.len, Nat.sub_self]
    rfl
  have hX2 : Ext2 js jc μ μ2 := b1.ext.trans ((Ext2.app js jc μ1 _).trans x2)
  have inOr : ∀ e, e < n → e ∈ or := fun e he => po.mem_iff.mpr (List.mem_range.mpr he)
  let R : Option PV.E → Option PV.E → Option PV.E → Option PV.E → Rho := fun a b c d => [some (.pt js), some (.sh (.int (most : Nat))), some (.sh (.int (n : Nat))), some (.pt μ.length), some (.sh (.lst (natsP or))), a, b, c, d]
  refine tss_cons (tsp_for [5] (tip_range1 B.range (tep_draw c1 hr1 (m := most + 1) (ev_name 0) (ev_addN (j := 1) (ev_name 1) ev_int) s2 (by omega) (by omega) (by omega) fun cnt μ3 hcnt b3 s3 => ⟨cnt, rfl, by omega,
    fun i ρ4 μ4 => (∃ a b c d, ρ4 = R a b c d) ∧ ∃ as : List Arc, μ4[μ.length]? = some (some (.lst ((as.map arcP).map .sh))) ∧ StrAt js jc (N + 20 + 10 * i) μ4 ∧ Ext2 js jc μ μ4 ∧ μ4.length ≥ μ.length + 1 ∧ as.length = i ∧ InN n as ∧ (∀ a ∈ as, a.2.2.1 ≤ 2 ∧ a.2.2.2 ≤ 9) ∧ (∀ a ∈ as, a.2.2.1 = 0 → or.idxOf a.1 < or.idxOf a.2.1), ?_, fun _ _ _ _ _ => trivial, ?_, ?_⟩)) (fun _ _ h => h.elim) rfl (by intro _; rfl))
  · exact ⟨⟨_, _, _, _, rfl⟩, [], by rw [b3.at_ μ.length (by omega) (by omega)]; exact hA2, s3.mono (by omega), hX2.trans b3.ext, by rw [b3.len]; exact hl2, rfl, fun a h => absurd h (by simp), fun a h => absurd h (by simp), fun a h => absurd h (by simp)⟩
  · rintro i x ρ4 μ4 hx ⟨⟨a, b, c, d, rfl⟩, as, hC, hS4, hX4, hlen4, hasl, hin, hsm, hfw⟩
    have hi : i < cnt := by
      have := (List.getElem?_eq_some_iff.mp hx).1
      simpa using this
    refine tgp_name 5 ?_ (by decide) nd rfl (.inl rfl) (.inl rfl)
    refine tss_cons (tsp_par2A 6 7 nd (tap_cons (tep_draw c1 hr1 (m := n) (ev_name 0) (ev_name 2) hS4 (by omega) (by omega) (by omega) fun one μ5 h5 b5 s5 => tap_cons (tep_draw c1 hr1 (m := n) (ev_name 0) (ev_name 2) s5 (by omega) (by omega) (by omega) fun other μ6 h6 b6 s6 => tap_nil ⟨_, _, rfl, ?_⟩))))
    refine tss_cons (tsp_setP 8 nd (tep_pick c2 hr (ev_name 0) (ev_lst (eas_cons ev_int (eas_cons ev_int (eas_cons ev_int (eas_cons ev_int (eas_cons ev_int eas_nil)))))) s6 (by omega) (by decide) (by decide) fun y μ7 hy b7 s7 => ?_))
    obtain ⟨t, ht, rfl⟩ : ∃ t : Nat, t ≤ 2 ∧ y = .int (t : Nat) := by
      simp only [List.mem_cons, List.not_mem_nil, or_false] at hy
      rcases hy with rfl | rfl | rfl | rfl | rfl
      · exact ⟨0, by decide, rfl⟩
      · exact ⟨0, by decide, rfl⟩
      · exact ⟨1, by decide, rfl⟩
      · exact ⟨1, by decide, rfl⟩
      · exact ⟨2, by decide, rfl⟩
    have b47 : But2 js jc μ4 μ7 := (b5.trans b6).trans b7
    refine tss_cons (tsp_mid (fun ρ8 μ8 => ∃ t2 : Nat, t2 ≤ 2 ∧ (t2 = 0 → or.idxOf one < or.idxOf other) ∧ But2 js jc μ4 μ8 ∧ StrAt js jc (N + 20 + 10 * i + 4) μ8 ∧ ρ8 = R (some x) (some (.sh (.int (one : Nat)))) (some (.sh (.int (other : Nat)))) (some (.sh (.int (t2 : Nat)))))
      (tsp_ifE (et_w (ew_and (et_eqI (ev_name 8) ev_int) fun _ => ew_and1 (et_ge (ev_indexN (ev_name 4) (ev_name 6) (inOr one h5)) (ev_indexN (ev_name 4) (ev_name 7) (inOr other h6))))) (fun h => tss_one (tsp_setP 8 nd (tep_add ((ev_int) _ (tep_draw c1 hr1 (m := 2) (ev_name 0) ev_int s7 (by omega) (by decide) (by decide) fun d8 μ8 h8 b8 s8 => ⟨1, (d8 : Int), rfl, rfl, d8 + 1, by omega, by omega, b47.trans b8, s8.mono (by omega), ?_⟩))))) fun h => tss_nil ⟨t, ht, fun h0 => ?_, b47, s7.mono (by omega), rfl⟩) ?_)
    · rw [show (1 : Int) + (d8 : Nat) = ((d8 + 1 : Nat) : Int) by omega]
      rfl
    · subst h0
      simp at h
      omega
    rintro ρ8 μ8 ⟨t2, ht2, hfw2, b8, s8, rfl⟩
    have hC8 : μ8[μ.length]? = some (some (.lst ((as.map arcP).map .sh))) := (b8.at_ _ (by omega) (by omega)).trans hC
    refine tss_one (tsp_expr (tep_append ((ev_name 3) _ ⟨μ.length, _, rfl, hC8, tep_tup (tap_consV (ev_name 6) (tap_consV (ev_name 7) (tap_consV (ev_name 8) (tap_cons (tep_pick c2 hr (ev_name 0) (ev_lst (eas_cons ev_int (eas_cons ev_int (eas_cons ev_int (eas_cons ev_int (eas_cons ev_int (eas_cons ev_int eas_nil))))))) s8 (by omega) (by decide) (by decide) fun y μ9 hy b9 s9 => tap_nil ?_)))))⟩)))
    obtain ⟨d9, hd9, rfl⟩ : ∃ t : Nat, t ≤ 9 ∧ y = .int (t : Nat) := by
      simp only [List.mem_cons, List.not_mem_nil, or_false] at hy
      rcases hy with rfl | rfl | rfl | rfl | rfl | rfl
      · exact ⟨0, by decide, rfl⟩
      · exact ⟨1, by decide, rfl⟩
      · exact ⟨2, by decide, rfl⟩
      · exact ⟨3, by decide, rfl⟩
      · exact ⟨5, by decide, rfl⟩
      · exact ⟨9, by decide, rfl⟩
    have b49 : But2 js jc μ4 μ9 := b8.trans b9
    have hC9 : μ9[μ.length]? = some (some (.lst ((as.map arcP).map .sh))) := (b9.at_ _ (by omega) (by omega)).trans hC8
    have hl9 := b49.len
    refine ⟨arcL (one, other, t2, d9), rfl, by simp [arcL], _, hC9, by rw [List.length_map, List.length_map]; omega, ⟨_, _, _, _, rfl⟩, as ++ [(one, other, t2, d9)], ?_, (s9.mono (by omega)).set (by omega) (by omega) _, ⟨by rw [List.length_set]; have := hX4.len; omega, fun i2 h1 h2 h3 => ?_⟩, by rw [List.length_set]; omega, by simp [hasl], fun a ha => ?_, fun a ha => ?_, fun a ha => ?_⟩
    · rw [List.getElem?_set_self (by omega), List.map_append, List.map_append]
      rfl
    · rw [List.getElem?_set_ne (by omega), b49.at_ _ h2 h3]
      exact hX4.at_ i2 h1 h2 h3
    · rcases List.mem_append.mp ha with z | z
      · exact hin a z
      · rw [List.mem_singleton.mp z]; exact ⟨h5, h6⟩
    · rcases List.mem_append.mp ha with z | z
      · exact hsm a z
      · rw [List.mem_singleton.mp z]; exact ⟨ht2, hd9⟩
    · rcases List.mem_append.mp ha with z | z
      · exact hfw a z
      · rw [List.mem_singleton.mp z]; exact hfw2
  · rintro ρ4 μ4 ⟨⟨a, b, c, d, rfl⟩, as, hC, hS4, hX4, hlen4, hasl, hin, hsm, hfw⟩
    simp only [List.length_map, List.length_range] at hasl hS4
    refine tss_share μ.length (zs := as.map arcP) (R := [some (.pt js), some (.sh (.int (most : Nat))), some (.sh (.int (n : Nat))), some (.sh (.lst (as.map arcP))), some (.sh (.lst (natsP or))), a, b, c, d]) hC rfl ?_ ?_
    · intro i2 x2' hx2
      match i2, hx2 with
      | 0, h => exact .inl h
      | 1, h => exact .inl h
      | 2, h => exact .inl h
      | 3, h => cases h; exact .inr ⟨rfl, rfl⟩
      | i2 + 4, h => exact .inl h
    · refine tss_one (tsp_retV (ev_tup (ys := [.int (n : Nat), .lst (as.map arcP)]) (eas_cons (ev_name 2) (eas_cons (ev_name 3) eas_nil))) (q n as or _ ⟨hn1, hn5, po, by omega, hin, hsm, hfw⟩ ⟨by rw [List.length_set]; exact hX4.len, fun i2 h1 h2 h3 => ?_⟩ ((hS4.mono (by omega)).set (by omega) (by omega) _)))
      rw [List.getElem?_set_ne (by omega)]
      exact hX4.at_ i2 h1 h2 h3
end
end PV

namespace PV
open PySem PySem.Spec PyProof.Rows L2
def lnetP (n : Nat) (as : List Arc) : P := .tup [.int (n : Nat), .lst (as.map arcP)]
section
variable {g : Bool} {Pr : Program} {w : World} {K : PySem.W.Frag} {mg : Str → Option Value} {base : Heap} {f : Addr} {fd : FuncData} {C : Addr}
theorem sc_law_n_links : FnScope ["_law_net", "_law_event"] ["_law_net"] (defScope s_law_n_links) := ⟨rfl, rfl, rfl, by decide +kernel, rfl, by decide +kernel, by decide +kernel⟩
def F_law_n_links (zs : List P) (y : P) : Prop := ∃ n as, zs = [lnetP n as] ∧ n ≤ 20 ∧ as.length ≤ 1000 ∧ y = .lst ((as ++ selfArcs n).map arcP)
theorem c_law_n_links (F : FnP K "_law_n_links" "_law_n_links" s_law_n_links f fd) (hm : mg "_law_n_links" = some (.ref f)) (B : Bl mg) : Ct g Pr w K mg base 1 "_law_n_links" (SF F_law_n_links) := by
  refine ct_pure F hm sc_law_n_links (fun _ _ _ _ _ _ us hl => match us, hl with | [_], _ => rfl) (by rintro _ _ ⟨n, as, rfl, _⟩; rfl) fun cdv A outer s H E hr zs y hF => ?_
  obtain ⟨n, as, rfl, hn, hl, rfl⟩ := hF
  have nd := sc_law_n_links.nd
  refine tss_one (tsp_retV ((ev_cat (ev_ixT (xs := [.int (n : Nat), .lst (as.map arcP)]) (ev_name 0) ev_int rfl) (ev_lc0 (List.range n) (fun e => .int (e : Nat)) (fun e => [some (.sh (lnetP n as)), some (.sh (.int (e : Nat)))]) (fun e => arcP (e, e, 1, 0)) [1] [("_law_event", 1)] rfl nd (blkOk_by (by kernel_rfl)) (ei_range1 B.range (ev_ixT (xs := [.int (n : Nat), .lst (as.map arcP)]) (ev_name 0) ev_int rfl) (by omega)) (by simp; omega) (fun a _ => tgb_name 1 nd (by decide) rfl rfl)
    (fun e _ s H C cl fp => ev_tup (eas_cons (ev_name 1) (eas_cons (ev_name 1) (eas_cons ev_int (eas_cons ev_int eas_nil)))) (Nat.le_of_ble_eq_true rfl))) (by simp; omega)).is (y := .sh (.lst ((as ++ selfArcs n).map arcP))) (by unfold selfArcs; rw [List.map_append, List.map_map]; rfl)) (.sh _))
end
end PV

namespace PV
open PySem PySem.Spec PyProof.Rows L2
/-- the same but for lists in the place of tuples, tuples in the place of lists -/
inductive Loose : P → P → Prop
  | int (i : Int) : Loose (.int i) (.int i)
  | sq {x y : P} {xs ys : List P} (hx : Sq x xs) (hy : Sq y ys) (l : xs.length = ys.length) (e : ∀ (i : Nat) a b, xs[i]? = some a → ys[i]? = some b → Loose a b) : Loose x y
inductive Deep : Nat → P → Prop
  | int (n : Nat) (i : Int) : Deep n (.int i)
  | sq {n : Nat} {x : P} {xs : List P} (hx : Sq x xs) (l : xs.length ≤ 200) (e : ∀ a ∈ xs, Deep n a) : Deep (n + 1) x
def lcost : Nat → Nat
  | 0 => 0
  | n + 1 => 1 + 200 * lcost n
def S_loose (d : Nat) : PSpec := fun xs μ Q => ∃ js jc N x, xs = [.pt js, .sh x] ∧ Deep d x ∧ StrAt js jc N μ ∧ N + lcost d < 90000000 ∧ ∀ y μ', Loose x y → But2 js jc μ μ' → StrAt js jc (N + lcost d) μ' → Q (.sh y) μ'
section
variable {g : Bool} {Pr : Program} {w : World} {K : PySem.W.Frag} {mg : Str → Option Value} {base : Heap} {f : Addr} {fd : FuncData} {C : Addr}
theorem sc_law_loose : FnScope ["_law_stream", "_law_thing", "_law_some", "_law_one"] ["_law_stream", "_law_thing"] (defScope s_law_loose) := ⟨rfl, rfl, rfl, by decide +kernel, rfl, by decide +kernel, by decide +kernel⟩
theorem loose_main (F : FnP K "_law_loose" "_law_loose" s_law_loose f fd) (hm : mg "_law_loose" = some (.ref f)) (B : Bl mg) (c1 : Ct g Pr w K mg base 1 "_law_draw" S_draw) (d : Nat) (ih : ∀ n, d = n + 1 → Ct g Pr w K mg base (n + 2) "_law_loose" (S_loose n)) : Ct g Pr w K mg base (d + 2) "_law_loose" (S_loose d) := by
  refine ct_of F hm sc_law_loose (fun _ _ _ _ _ _ us hl => match us, hl with | [_, _], _ => rfl) (by rintro _ _ _ ⟨js, jc, N, x, rfl, _⟩; rfl) fun cdv A outer s H E hr xs μ Q hS => ?_
  obtain ⟨js, jc, N, x, rfl, hD, hA, hN, q⟩ := hS
  have nd := sc_law_loose.nd
  cases hD with
  | int n i =>
    refine tss_cons (tsp_ifE (d := false) (et_val (ev_isiT (T := "int") (cs := ["list", "tuple"]) (r := false) B.isinstance (ev_name 1) (ev_tup (ys := [.ty "list", .ty "tuple"]) (eas_cons (ev_ty B.list bo_list) (eas_cons (ev_ty B.tuple bo_tuple) eas_nil))) rfl rfl)) (fun h => nomatch h) fun _ => tss_nil ?_)
    exact tss_one (tsp_ret ((ev_name 1) _ (q _ μ (.int i) (But2.refl _ _ _) (hA.mono (Nat.le_add_right _ _)))))
  | @sq n _ xs hx l e =>
    have hcl : lcost (n + 1) = 1 + 200 * lcost n := rfl
    obtain ⟨T, hT, hk⟩ : ∃ T, tyP x = some T ∧ PySem.W.kitAny K (.type T) [.type "list", .type "tuple"] = some true := by
      rcases hx with rfl | rfl
      · exact ⟨"list", rfl, rfl⟩
      · exact ⟨"tuple", rfl, rfl⟩
    have hrec := ih n rfl

    refine tss_cons (tsp_ifE (d := true) (et_val (ev_isiT (T := T) (cs := ["list", "tuple"]) (r := true) B.isinstance (ev_name 1) (ev_tup (ys := [.ty "list", .ty "tuple"]) (eas_cons (ev_ty B.list bo_list) (eas_cons (ev_ty B.tuple bo_tuple) eas_nil))) hT hk)) (fun _ => ?_) fun h => nomatch h)
    refine tss_cons (tsp_setLc 2 [("_law_one", 3)] [3] rfl nd rfl rfl (blkOk_by (by kernel_rfl)) (by decide) ((ei_seq hx (ev_name 1)) _ ⟨fun i acc μ2 => (∃ ys : List P, acc = ys.map .sh ∧ ys.length = i ∧ ∀ (j : Nat) a b, xs[j]? = some a → ys[j]? = some b → Loose a b) ∧ But2 js jc μ μ2 ∧ StrAt js jc (N + i * lcost n) μ2, ⟨⟨[], rfl, rfl, fun j a b _ h => by simp at h⟩, But2.refl _ _ _, by simpa using hA⟩, fun _ _ _ _ _ => trivial, ?_, ?_⟩) rfl)
    · rintro i z acc μ2 hz ⟨⟨ys, rfl, hl, hY⟩, b2, s2⟩
      rw [List.getElem?_map] at hz
      obtain ⟨a, ha, rfl⟩ := Option.map_eq_some_iff.mp hz
      have hi := (List.getElem?_eq_some_iff.mp ha).1
      have hc2 : (i + 1) * lcost n ≤ 200 * lcost n := Nat.mul_le_mul_right _ (by omega)
      have hc3 : (i + 1) * lcost n = i * lcost n + lcost n := Nat.succ_mul ..
      refine tgb_name 3 nd (by decide) rfl rfl _ (ttsb0 _ ?_)
      rw [if_pos rfl]
      intro s H C cl fp
      refine tep_call hrec hr (tap_consV (ev_name 0) (tap_consV (ev_name 3) (tap_nil ⟨js, jc, _, a, rfl, e a (List.mem_of_getElem? ha), s2, by omega, fun y μ' hy b' s' => ?_⟩)))
      refine ⟨by simp; omega, ⟨ys ++ [y], by rw [List.map_append]; rfl, by simp [hl], fun j a' b h1 h2 => ?_⟩, b2.trans b', by rw [hc3, ← Nat.add_assoc]; exact s'⟩
      by_cases hj : j < ys.length
      · rw [List.getElem?_append_left hj] at h2
        exact hY j a' b h1 h2
      · have hj2 := (List.getElem?_eq_some_iff.mp h2).1
        rw [List.length_append, List.length_singleton] at hj2
        have hj3 : j = ys.length := by omega
        subst hj3
        rw [List.getElem?_append_right (Nat.le_refl _), Nat.sub_self] at h2
        cases h2
        rw [hl, ha] at h1
        cases h1
        exact hy
    · rintro acc μ2 ⟨⟨ys, rfl, hl, hY⟩, b2, s2⟩
      rw [List.length_map] at hl s2
      have hc2 : xs.length * lcost n ≤ 200 * lcost n := Nat.mul_le_mul_right _ l
      refine .inl ⟨ys, rfl, tss_one (tsp_ret (tep_if (ttp_cmp op_eq (nomark _) (tep_draw c1 (hr.mono (by omega)) (m := 2) (ev_name 0) ev_int s2 (by omega) (by decide) (by decide) fun d μ' hd b' s' => (ev_int) _ (v2_eqI ⟨_, rfl, ?_⟩)))))⟩
      have s3 : StrAt js jc (N + lcost (n + 1)) μ' := s'.mono (by omega)
      by_cases h0 : decide ((d : Int) = 0) = true
      · rw [if_pos h0]
        exact (ev_name 2) _ (q _ _ (.sq hx (.inl rfl) hl.symm hY) (b2.trans b') s3)
      · rw [if_neg h0]
        exact (ev_tuple (xs := ys) B.tuple (ev_name 2) (.inl rfl)) _ (q _ _ (.sq hx (.inr rfl) hl.symm hY) (b2.trans b') s3)
theorem c_law_loose (F : FnP K "_law_loose" "_law_loose" s_law_loose f fd) (hm : mg "_law_loose" = some (.ref f)) (B : Bl mg) (c1 : Ct g Pr w K mg base 1 "_law_draw" S_draw) : ∀ d, Ct g Pr w K mg base (d + 2) "_law_loose" (S_loose d)
  | 0 => loose_main F hm B c1 0 fun n h => nomatch h
  | d + 1 => loose_main F hm B c1 (d + 1) fun n h => by cases h; exact c_law_loose F hm B c1 d
end
theorem loose_ints {ns : List Int} {x y : P} (hx : Sq x (ns.map .int)) (h : Loose x y) : Sq y (ns.map .int) := by
  cases h with
  | int i => rcases hx with h | h <;> cases h
  | @sq _ _ xs ys hx2 hy l e =>
    have e0 : xs = ns.map .int := by
      rcases hx with rfl | rfl <;> rcases hx2 with h | h <;> cases h <;> rfl
    subst e0
    have e1 : ys = ns.map .int := by
      refine List.ext_getElem? fun i => ?_
      cases h1 : (ns.map P.int)[i]? with
      | none => exact List.getElem?_eq_none (by rw [← l]; exact List.getElem?_eq_none_iff.mp h1)
      | some a =>
        have hi : i < ys.length := by rw [← l]; exact (List.getElem?_eq_some_iff.mp h1).1
        rw [List.getElem?_eq_getElem hi]
        have h2 := e i a _ h1 (List.getElem?_eq_getElem hi)
        rw [List.getElem?_map] at h1
        obtain ⟨z, _, rfl⟩ := Option.map_eq_some_iff.mp h1
        generalize ys[i] = b at h2 ⊢
        cases h2 with
        | int => rfl
        | sq hx => rcases hx with h | h <;> cases h
    rw [← e1]
    exact hy
theorem loose_rows {α : Type} {l : List α} {f : α → List Int} {y : P} (h : Loose (.lst (l.map fun a => .tup ((f a).map .int))) y) : ∃ ps, Sq y ps ∧ Paired (fun p a => Sq p ((f a).map .int)) ps l := by
  cases h with
  | @sq _ _ xs ys hx2 hy hl e =>
    have e0 : xs = l.map fun a => .tup ((f a).map .int) := by
      rcases hx2 with h | h <;> cases h
      rfl
    subst e0
    rw [List.length_map] at hl
    refine ⟨ys, hy, pd_of hl.symm fun i p a h1 h2 => ?_⟩
    exact loose_ints (.inr rfl) (e i _ p (by rw [List.getElem?_map, h2]; rfl) h1)
theorem deep_rows {α : Type} {l : List α} {f : α → List Int} (hl : l.length ≤ 200) (hf : ∀ a ∈ l, (f a).length ≤ 200) : Deep 2 (.lst (l.map fun a => .tup ((f a).map .int))) := by
  refine .sq (.inl rfl) (by rw [List.length_map]; exact hl) fun p hp => ?_
  obtain ⟨a, ha, rfl⟩ := List.mem_map.mp hp
  refine .sq (.inr rfl) (by rw [List.length_map]; exact hf a ha) fun q hq => ?_
  obtain ⟨i, _, rfl⟩ := List.mem_map.mp hq
  exact .int _ _
end PV

set_option maxHeartbeats 4000000
/-! sorted of tuples of ints, in the order of tuples. -/
namespace PV
open PySem PySem.Spec PyProof.Rows L2
/-- before, as tuples are -/
def lexL : List Int → List Int → Bool
  | [], [] => false
  | [], _ :: _ => true
  | _ :: _, [] => false
  | a :: as, b :: bs => if a = b then lexL as bs else decide (a < b)
theorem lexL_refl : ∀ a : List Int, lexL a a = false
  | [] => rfl
  | a :: as => by unfold lexL; rw [if_pos rfl]; exact lexL_refl as
theorem lexL_asym : ∀ a b : List Int, lexL a b = true → lexL b a = false
  | [], [], h => by cases h
  | [], _ :: _, _ => rfl
  | _ :: _, [], h => by cases h
  | a :: as, b :: bs, h => by
    unfold lexL at h ⊢
    by_cases e : a = b
    · rw [if_pos e] at h
      rw [if_pos e.symm]
      exact lexL_asym as bs h
    · rw [if_neg e] at h
      rw [if_neg fun z => e z.symm]
      have := of_decide_eq_true h
      exact decide_eq_false (by omega)
theorem lexL_tr : ∀ x y z : List Int, lexL y x = false → lexL z y = false → lexL z x = false
  | [], [], _, _, h => h
  | [], _ :: _, [], _, h => by cases h
  | [], _ :: _, _ :: _, _, _ => rfl
  | x :: xs, [], _, h, _ => by cases h
  | x :: xs, y :: ys, [], _, h => by cases h
  | x :: xs, y :: ys, z :: zs, h1, h2 => by
    unfold lexL at h1 h2 ⊢
    by_cases e1 : y = x
    · rw [if_pos e1] at h1
      subst e1
      by_cases e2 : z = y
      · rw [if_pos e2] at h2 ⊢
        exact lexL_tr _ _ _ h1 h2
      · rw [if_neg e2] at h2 ⊢
        exact h2
    · rw [if_neg e1] at h1
      have h1 := of_decide_eq_false h1
      by_cases e2 : z = y
      · subst e2
        rw [if_neg e1]
        exact decide_eq_false h1
      · rw [if_neg e2] at h2
        have h2 := of_decide_eq_false h2
        rw [if_neg (by omega)]
        exact decide_eq_false (by omega)
theorem lexL_eq : ∀ a b : List Int, lexL a b = false → lexL b a = false → a = b
  | [], [], _, _ => rfl
  | [], _ :: _, h, _ => by cases h
  | _ :: _, [], _, h => by cases h
  | a :: as, b :: bs, h1, h2 => by
    unfold lexL at h1 h2
    by_cases e : a = b
    · rw [if_pos e] at h1
      rw [if_pos e.symm] at h2
      rw [e, lexL_eq as bs h1 h2]
    · rw [if_neg e] at h1
      rw [if_neg fun z => e z.symm] at h2
      have := of_decide_eq_false h1
      have := of_decide_eq_false h2
      omega
theorem swo_lexL (k : Value → List Int) : SrtO.Swo fun v u => lexL (k v) (k u) := ⟨fun x y h => lexL_asym _ _ h, fun x y z h1 h2 => lexL_tr _ _ _ h1 h2⟩
section
variable {prog : Program} {w : World} {A : Around} {E : Value → Shared → Prop} {s : Shared}
theorem lex_gen {b : Bool} {Q : Bool → Shared → Prop} {xs ys : List Value} {ns ms : List Int} (i : Nat) (hx : IntsAre xs ns) (hy : IntsAre ys ms) (hl : ns.length = ms.length) (h : Q (lexL ns ms) s) : PySem.W.KatLex prog w A b false Q (xs.zip ys) i s := by
  induction hx generalizing ys ms i with
  | nil =>
    cases hy with
    | nil => exact PySem.W.kat_nil h
    | cons q u hy => simp at hl
  | @cons p t xs ns hx ih =>
    cases hy with
    | nil => simp at hl
    | @cons q u ys ms hy =>
      have hl' : ns.length = ms.length := by simpa using hl
      show PySem.W.KatLex prog w A b false Q ((Value.int p t, Value.int q u) :: xs.zip ys) i s
      refine PySem.W.kat_cons (wpAny_eqBool_int ?_)
      unfold lexL at h
      by_cases e : p = q
      · subst e
        rw [beq_self_eq_true]
        rw [if_pos rfl] at h
        exact PySem.W.kat_yes (ih (i + 1) hy hl' h)
      · rw [show (p == q) = false from beq_eq_false_iff_ne.mpr e]
        rw [if_neg e] at h
        exact PySem.W.kat_no (TS.oneLt_ints _ h)
theorem lex_cmp {d : Nat} {vs : List Value} {k : Value → List Int} (hp : ∀ v ∈ vs, TS.TupInts s.heap v (k v) ∧ (k v).length = d) : SrtO.Cmp prog w A s (tuples' true) (fun p => p.1 ∈ vs) (SrtO.lt2 fun v u => lexL (k v) (k u)) := by
  intro p q hm hm'
  obtain ⟨⟨a, xs, e1, ⟨o, ho, hc, n, hdt⟩, i⟩, l1⟩ := hp _ hm
  obtain ⟨⟨a', ys, e2, ⟨o', ho', hc', n', hdt'⟩, i'⟩, l2⟩ := hp _ hm'
  show wpAny (model prog w) A (keyLt' (tuples' true) p.1 q.1) (fun r s' => s' = s ∧ r = lexL (k p.1) (k q.1)) (fun _ _ => False) s
  generalize k p.1 = ns at *
  generalize k q.1 = ms at *
  rw [e1, e2]
  refine PySem.W.kat_lt ho hdt ho' hdt' ?_
  have sz : decide (xs.size < ys.size) = false := by
    have l1 := i.length
    have l2 := i'.length
    rw [Array.length_toList] at l1 l2
    exact decide_eq_false (by omega)
  rw [sz]
  exact lex_gen 0 i i' (by omega) ⟨rfl, rfl⟩
theorem lex_firsts {h : Heap} {d : Nat} (hd : 1 ≤ d) : ∀ {vs : List Value}, (∀ v ∈ vs, ∃ ns, TS.TupInts h v ns ∧ ns.length = d) → ∃ fs : List Value, PySem.W.KatTups h vs fs ∧ fs.length = vs.length ∧ ∀ f ∈ fs, ∃ x t, f = Value.int x t
  | [], _ => ⟨[], PySem.W.KatTups.nil, rfl, fun f hf => by simp at hf⟩
  | v :: vs, x => by
    obtain ⟨fs, k, hl, hi⟩ := lex_firsts hd (vs := vs) fun u hu => x u (List.mem_cons_of_mem _ hu)
    obtain ⟨ns, ⟨a, xs, rfl, ⟨o, ho, hc, n, hdt⟩, i⟩, hn⟩ := x v (List.mem_cons_self ..)
    obtain ⟨y, ys, e⟩ : ∃ y ys, xs.toList = y :: ys := by
      cases q : xs.toList with
      | nil =>
        rw [q] at i
        have l := i.length
        rw [List.length_nil, hn] at l
        omega
      | cons y ys => exact ⟨y, ys, rfl⟩
    obtain ⟨m, t, hy⟩ := i.all y (by rw [e]; exact List.mem_cons_self ..)
    refine ⟨y :: fs, PySem.W.KatTups.cons ho hc hdt ?_ k, by simp [hl], ?_⟩
    · have z := congrArg (fun l : List Value => l[0]?) e
      simpa using z
    · intro f hf
      rcases List.mem_cons.mp hf with rfl | hf
      · exact ⟨m, t, hy⟩
      · exact hi f hf
theorem lex_sortable {d : Nat} (hd : 1 ≤ d) {a : Addr} {vs : List Value} {k : Value → List Int} (h0 : 0 < vs.length) (hp : ∀ v ∈ vs, TS.TupInts s.heap v (k v) ∧ (k v).length = d) (ha : ∀ o, s.heap.get? a = some o → o.cls ≠ .type "tuple") : SrtO.SortableO prog w A s a vs fun v u => lexL (k v) (k u) := by
  intro h' keep
  have hp' : ∀ v ∈ vs, TS.TupInts h' v (k v) ∧ (k v).length = d := fun v hm => ⟨(hp v hm).1.keeps fun b o e c => keep b o (fun z => by subst z; exact ha o e c) e, (hp v hm).2⟩
  obtain ⟨fs, h1, h2, h3⟩ := lex_firsts hd fun v hm => ⟨_, hp' v hm⟩
  refine ⟨tuples' true, fun Q E hq => ?_, lex_cmp (s := { s with heap := h' }) hp'⟩
  refine PySem.W.kat_kind (T := .type "int") h1 (by omega) (fun f hm => ?_) (by rfl) ?_
  · obtain ⟨x, t, rfl⟩ := h3 f hm
    exact PySem.W.Looks.now
  · have e : (Value.type "int" != Value.type "tuple") = true := by first | decide +kernel | rfl | decide
    rw [e]
    exact hq
end
/-- sorted(xs), xs a list of tuples of d ints: a new list of the same, in the order of tuples -/
def rSortR (K : PySem.W.Frag) (d : Nat) : List V → Hp → VK → Prop := fun vs H Q => ∃ (a : Addr) (xs : List V), vs = [V.ref a] ∧ SqL K H a xs ∧ (∀ x ∈ xs, ∃ ns, TupI K H x ns ∧ ns.length = d) ∧
  ∀ (ys : List V) (p : Addr), ys.Perm xs → ys.Pairwise (fun x y => ∀ n m, TupI K H x n → TupI K H y m → lexL m n = false) → H p = none → Q (.ref p) (upd H p (.lst ys))
theorem cr_sortR {X : Cx} {d : Nat} (hd : 1 ≤ d) : CallR X (.builtin "sorted") (rSortR X.K d) := by
  intro pins s σ H vs us Q I r h
  obtain ⟨a, xs, rfl, hs, hx, q⟩ := h
  obtain ⟨its, rv, hl, hz⟩ := I.list hs
  rw [Vals.ref1 r]
  obtain ⟨e1, e2⟩ := bkV_refs rv fun x m => by
    obtain ⟨ns, ⟨t, e, _⟩, _⟩ := hx x m
    exact ⟨t, e⟩
  have hv : ∀ v ∈ its, TS.TupInts s.heap v (TS.intsOf s.heap v) ∧ (TS.intsOf s.heap v).length = d := fun v hv => by
    obtain ⟨t, rfl⟩ := e2 v hv
    have hm : V.ref t ∈ xs := by
      rw [e1]
      exact List.mem_map.mpr ⟨_, hv, rfl⟩
    obtain ⟨ns, ⟨t', e, ht⟩, hn⟩ := hx _ hm
    cases e
    have h1 := tupI_raw I ht
    rw [h1.ints]
    exact ⟨h1, hn⟩
  refine SrtO.sorted_ord (swo_lexL (TS.intsOf s.heap)) hl.isList (by rw [← rv.length]; exact hz) (fun h2 h₁ a ha kk => ?_) fun out hs hb => ?_
  · refine lex_sortable (s := { s with heap := h₁ }) hd (by omega) (fun v hm => ⟨(hv v hm).1.keeps fun b o e _ => (kk b o e).2, (hv v hm).2⟩) fun o e => ?_
    have e' : some o = some (seqObj "list" its.toArray 0) := e.symm.trans ha
    cases e'
    intro c
    exact absurd (Value.type.inj c) (by decide)
  · obtain ⟨ep, he'⟩ := PyProof.Rows.sortedAll_at s.heap its out.toArray
    have h3 : ∀ u ∈ out, ∃ a, u = Value.ref a := fun u hu => e2 u (hb.perm.mem_iff.mp hu)
    have hp : (out.map bkV).Perm xs := by
      rw [e1]
      exact hb.perm.map bkV
    have hlen : (out.map bkV).length ≤ sizeLine := by
      rw [hp.length_eq]
      exact hz
    refine ⟨.ref _, upd H (s.heap.objs.size + 1) (.lst (out.map bkV)), I.laid (t' := s.toks) (fun _ _ => PyProof.Rows.sortedAll_old) (Nat.le_succ _) ⟨hlen, out, ep, bkV_vals h3, he'⟩, rfl, q _ _ hp ?_ (I.hok.fresh (Nat.le_succ _))⟩
    rw [List.pairwise_map]
    refine List.Pairwise.imp (fun {u v} huv n m hn hm => ?_) hs
    obtain ⟨t, et, ht⟩ := hn
    obtain ⟨t', et', ht'⟩ := hm
    have eu := bkV_ref et
    have ev := bkV_ref et'
    have i1 : TS.intsOf s.heap u = n := by
      rw [eu]
      exact (tupI_raw I ht).ints
    have i2 : TS.intsOf s.heap v = m := by
      rw [ev]
      exact (tupI_raw I ht').ints
    rw [← i1, ← i2]
    exact huv
section
variable {X : Cx} {e : Expr} {ρ : Rho} {μ : Mu} {Q : E → Mu → Prop} {pos p2 : Pos}
/-- sorted(e), e a list of tuples of d ints -/
theorem tep_sortR {α : Type} (l : List α) (f : α → List Int) (d : Nat) (hd : 1 ≤ d) (hm : X.mg "sorted" = none) (h : EV X e ρ μ (.sh (.lst (l.map fun a => .tup ((f a).map .int))))) (hf : ∀ a ∈ l, (f a).length = d)
    (q : ∀ l2 : List α, l2.Perm l → (l2.map f).Pairwise (fun x y => lexL y x = false) → Q (.sh (.lst (l2.map fun a => .tup ((f a).map .int)))) μ) (hg : Gl X "sorted" := by rfl) (hs : starEach [e] X.env = (false, eval e X.env) :: starEach [] X.env := by rfl) : TEP X (.Call (.Name "sorted" p2) [e] [] pos) ρ μ Q :=
  tep_callB (cr_sortR hd) hg hm bo_sorted (tap_consV h (tap_nil fun ad Hb H vs W r0 Q' g => by
    obtain ⟨v, rfl, r1⟩ := vals1 r0
    obtain ⟨a, ws, rfl, ha, r⟩ := Rep.lst_at r1
    have tupAt : ∀ v ∈ ws, ∃ x ∈ l, Rep X.K Hb v (.tup ((f x).map .int)) := fun v hv => by
      obtain ⟨i, hi⟩ := List.mem_iff_getElem?.mp hv
      obtain ⟨z, h1, h2⟩ := pd_right r i v hi
      rw [List.getElem?_map] at h1
      cases e : l[i]? with
      | none => rw [e] at h1; cases h1
      | some x =>
        rw [e] at h1
        cases h1
        exact ⟨x, List.mem_of_getElem? e, h2⟩
    have tupI : ∀ {v : V} {ns : List Int}, Rep X.K Hb v (.tup (ns.map .int)) → TupI X.K H v ns := fun {v ns} rv => by
      obtain ⟨t, us, rfl, ht, ru⟩ := Rep.tup_inv rv
      obtain rfl := rep_ints ru
      exact ⟨t, rfl, .inl (.inl (W.tup ht))⟩
    have key : ∀ (ys : List V) (l3 : List α), ys.Pairwise (fun x y => ∀ n m, TupI X.K H x n → TupI X.K H y m → lexL m n = false) → RepL X.K Hb ys (l3.map fun a => P.tup ((f a).map .int)) → (l3.map f).Pairwise (fun x y => lexL y x = false) := by
      intro ys l3 hpw h2
      induction hpw generalizing l3 with
      | nil =>
        cases l3 with
        | nil => exact .nil
        | cons _ _ => cases h2
      | @cons x xs hx _ ih =>
        cases l3 with
        | nil => cases h2
        | cons b l3 =>
          cases h2 with
          | cons r1 r2 =>
            refine List.Pairwise.cons (fun m hm => ?_) (ih l3 r2)
            obtain ⟨c, hc, rfl⟩ := List.mem_map.mp hm
            obtain ⟨i, hi⟩ := List.mem_iff_getElem?.mp hc
            obtain ⟨v, h3, h4⟩ := pd_left r2 i (.tup ((f c).map .int)) (by rw [List.getElem?_map, hi]; rfl)
            exact hx v (List.mem_of_getElem? h3) _ _ (tupI r1) (tupI h4)
    refine ⟨a, ws, rfl, W.sqL (.inl (.inl ha)), fun v hv => ?_, fun ys p pm hpw hp => ?_⟩
    · obtain ⟨x, hx, rv⟩ := tupAt v hv
      exact ⟨f x, tupI rv, hf x hx⟩
    · obtain ⟨l2, h1, h2⟩ := perm_rep (fun a => P.tup ((f a).map .int)) pm.symm r
      obtain ⟨W2, s2⟩ := W.alloc (o := .lst ys) hp
      exact g _ (.sh (.lst _)) _ _ _ _ (q l2 h1 (key ys l2 hpw h2)) s2 W2 (Rep.lstL upd_same (RepL.mono s2.ex h2))) hs) (by decide) (by decide) hs rfl
end
end PV

/-! Set comprehensions of ints: sorted({..}), len({..}); the rule of the kit for truth values turned to ints. -/
namespace PV
open PySem PySem.Spec PyProof.Rows L2 PpSet
section
variable {X : Cx}
theorem addI_ok {pins : List (Addr × Obj)} {σ : L2.St} {H : Hp} {s : Shared} {E : Value → Shared → Prop} {D : Addr} {S : Int → Bool} {n : Nat} {y : Int} {tk : Tok} {Q : Value → Shared → Prop} (I : Inv X pins σ H s) (hD : H D = some (SetO X.w D S n)) (room : n + 1 < scanBound)
    (h : ∀ s', Inv X pins σ (upd H D (SetO X.w D (fun j => S j || decide (j = y)) (if S y = true then n else n + 1))) s' → Q .none s') : wpAny (model X.prog X.w) X.A (call (.builtin "set.add") [.ref D, .int y tk]) Q E s := by
  have R := setO_get I hD
  refine setR_add R room fun h' sb new => ?_
  have he : ∃ u, h'.get? D = some u := by
    have ⟨o, _, _, _, ho, _⟩ := new
    exact ⟨o, ho⟩
  exact h _ (I.write (e := D) (t' := s.toks + 1) (by rw [hD]; trivial) (.inl rfl) (fun b u hb hu => (sb.2 b hb).trans hu) he (setO_new new))
/-- {elt for target in iter if ..}, elt an int: D the new set -/
def tSi (w : World) (wi : TI) (g : TG) (tt : TT) (te : TE) (vs : List Nat) : TE := fun σ H Q => wi σ H fun J H1 => ∀ D, H1 D = none → ∃ W : Nat → Nat → Hp → Prop, (∃ m, W 0 m (upd H1 D (SetO w D (fun _ => false) 0))) ∧ ∀ i m H, W i m H →
  (J.stop i H ∧ Q (.ref D) H) ∨ (J.go i H ∧ ∃ Nx : Hp → Prop, (∀ H', Nx H' → ∃ m', m' < m ∧ W (i + 1) m' H') ∧ ∀ x H', J.yld i H x H' → g x (wipe σ vs) H' fun σ2 H2 => wipe σ2 vs = wipe σ vs ∧ tt σ2 H2 fun b H3 =>
    if b = true then te σ2 H3 fun y H4 => ∃ (c : Int) (S : Int → Bool) (n : Nat), y = .int c ∧ H4 D = some (SetO w D S n) ∧ n + 1 < scanBound ∧ Nx (upd H4 D (SetO w D (fun j => S j || decide (j = c)) (if S c = true then n else n + 1))) else Nx H3)
theorem si_core {pins : List (Addr × Obj)} {s : Shared} {σ : L2.St} {H : Hp} {Q : VK} {elt tg iter : Expr} {ifs : List Expr} {scope : Scope} {own : List (PySem.Str × Nat)} {pos pos' : Pos} {wi : TI} {g : TG} {tt : TT} {te : TE} {use : Option (Value → Sem Unit)} {Qf : Value → Shared → Prop}
    (hc : X.calm = true) (hN : X.N.Nodup) (I : Inv X pins σ H s) (hi : PI X tg iter wi) (ok : BlkOk X.N X.env.scope scope own)
    (hg : ∀ (s : Shared) (H : Hp) (C : Addr) (cl : List (PySem.Str × Addr)) (fp : List Addr), PG (X.blk s H scope (compEnvC scope cl C X.env) fp) tg g) (ht : ∀ (s : Shared) (H : Hp) (C : Addr) (cl : List (PySem.Str × Addr)) (fp : List Addr), PTs (X.blk s H scope (compEnvC scope cl C X.env) fp) ifs tt)
    (he : ∀ (s : Shared) (H : Hp) (C : Addr) (cl : List (PySem.Str × Addr)) (fp : List Addr), PE (X.blk s H scope (compEnvC scope cl C X.env) fp) elt te) (hs : ∀ x, foldedSetIterable iter X.env x = pure x)
    (h : tSi X.w wi g tt te (own.map (·.2)) σ H Q)
    (hRR : ∀ D C s' m H', Inv X pins σ H' s' → Q (.ref D) H' → s'.heap.Ns C m → FpOk X pins H' C → compPost (model X.prog X.w) X.A X.xe use Qf (.ref D) C (.ok .next) s') :
    wpAny (model X.prog X.w) X.A (comprehension (.SetComp elt [⟨tg, iter, ifs, 0⟩] scope pos) scope X.env pos' (newSet (.type "set")) false (eval iter X.env) use) Qf X.xe s := by
  have hfree : ∀ y ∈ scope.names, y.2 = .free → ∃ c, X.env.cells.lookup y.1 = some c := fun y hy e => by
    rcases ok.free y hy e with k | k
    · exact I.ok.has _ (.inl k)
    · exact I.ok.has _ (.inr k)
  refine wpAny_comprehension_free (use := use) rfl hs (closure_ok hfree) ok.kind (fun y hy e => by rw [ok.uniq y hy, e])
    (thn (hi.run pins s σ H _ I h) fun xv s1 hx => thn hx fun itv s2 h2 => ?_)
  obtain ⟨it, fp, tn, J, H2, e, I2, T, st2, f2, q⟩ := h2
  subst e
  refine newSet_ok (newEnv_comp ?_)
  generalize hD : s2.heap.objs.size = D
  have hDn : H2 D = none := I2.hok.fresh (Nat.le_of_eq hD)
  obtain ⟨W, ⟨m0, w0⟩, turn⟩ := q D hDn
  -- the new list
  generalize hs3 : ({ s2 with heap := s2.heap.push { cls := .type "set", dict := none, data := .set #[] 0 (.fresh 0 0 (!X.w.params.followText "set-order")) } } : Shared) = s3
  have I3 : Inv X pins σ (upd H2 D (SetO X.w D (fun _ => false) 0)) s3 := by
    rw [← hs3]
    refine I2.laid (t' := s2.toks) (fun b o e => Heap.get?_push_of_some _ e) (Nat.le_of_eq hD) ?_
    rw [← hD]
    exact setO_new (setR_fresh X.w)
  have h3 : s3.heap = s2.heap.push { cls := .type "set", dict := none, data := .set #[] 0 (.fresh 0 0 (!X.w.params.followText "set-order")) } := by rw [← hs3]
  have sz : ∀ b ∈ fp, b < s2.heap.objs.size := fun b hb => by
    obtain ⟨o, e, _⟩ := T.obj _ _ st2 b hb
    exact Heap.lt_size e
  have f3 : ∀ b ∈ fp, FpOk X pins (upd H2 D (SetO X.w D (fun _ => false) 0)) b ∧ b < s3.heap.objs.size := fun b hb => by
    have hlt := sz b hb
    refine ⟨⟨?_, (f2 b hb).2⟩, by rw [h3, Heap.size_push]; exact Nat.lt_succ_of_lt hlt⟩
    rw [upd_ne (by rw [← hD]; exact Nat.ne_of_lt hlt)]
    exact (f2 b hb).1
  have st3 : tn 0 s3.heap := T.keep _ _ _ st2 fun b _ o e => by rw [h3]; exact Heap.get?_push_of_some _ e
  have I4 := block_start I3 ok hN f3
  have pg := hg s3 (upd H2 D (SetO X.w D (fun _ => false) 0)) s3.heap.objs.size (cellsFrom (s3.heap.objs.size + 1) scope.names (cloFrom X.env.cells scope.names [])) fp
  have pt := ht s3 (upd H2 D (SetO X.w D (fun _ => false) 0)) s3.heap.objs.size (cellsFrom (s3.heap.objs.size + 1) scope.names (cloFrom X.env.cells scope.names [])) fp
  have pe := he s3 (upd H2 D (SetO X.w D (fun _ => false) 0)) s3.heap.objs.size (cellsFrom (s3.heap.objs.size + 1) scope.names (cloFrom X.env.cells scope.names [])) fp
  show codeAny _ _ (.compStart (.SetComp elt [⟨tg, iter, ifs, 0⟩] scope pos) 0 (.ref it) (.ref D) (compEnvC scope (cellsFrom (s3.heap.objs.size + 1) scope.names (cloFrom X.env.cells scope.names [])) s3.heap.objs.size X.env)) (compPost (model X.prog X.w) X.A X.xe use Qf (.ref D) s3.heap.objs.size) { s3 with heap := pushCells (s3.heap.push { cls := .type "dict", data := .dict #[] }) scope.names }
  have nfp : ∀ b ∈ fp, (upd H2 D (SetO X.w D (fun _ => false) 0)) b = none := fun b hb => (f3 b hb).1.1
  generalize hce : compEnvC scope (cellsFrom (s3.heap.objs.size + 1) scope.names (cloFrom X.env.cells scope.names [])) s3.heap.objs.size X.env = ce at I4 pg pt pe ⊢
  have cL : ce.locals = s3.heap.objs.size := by subst hce; rfl
  generalize hH3 : upd H2 D (SetO X.w D (fun _ => false) 0) = H3 at I3 I4 pg pt pe w0 nfp f3
  generalize hs4 : ({ s3 with heap := pushCells (s3.heap.push { cls := .type "dict", data := .dict #[] }) scope.names } : Shared) = s4 at I4 ⊢
  have st4 : tn 0 s4.heap := T.keep _ _ _ st3 fun b _ o e => by rw [← hs4]; exact pushCells_keeps _ _ _ _ (Heap.get?_push_of_some _ e)
  have stat : ∀ {σ' : L2.St} {H' : Hp} {s' : Shared}, Inv (X.blk s3 H3 scope ce fp) [] σ' H' s' → (∀ b ∈ fp, H' b = none) → ∀ b ∈ fp, FpOk (X.blk s3 H3 scope ce fp) [] H' b := fun {σ' H' s'} I' hn b hb =>
    ⟨hn b hb, (I'.ok.exf b hb).1, I'.ok.exfs b hb, .inl hb, fun x c e => (I'.ok.exf b hb).2 x c e, fun p hp => absurd (show p ∈ ([] : List (Addr × Obj)) ++ [] from hp) (by simp)⟩
  have loop : codeAny (model X.prog X.w) X.A (.compLoop (.SetComp elt [⟨tg, iter, ifs, 0⟩] scope pos) 0 (.ref it) (.ref D) ce) (compPost (model X.prog X.w) X.A X.xe use Qf (.ref D) s3.heap.objs.size) s4 := by
    refine compLoopS_any (fun n s' => ∃ i H', Inv (X.blk s3 H3 scope ce fp) [] (wipe σ (own.map (·.2))) H' s' ∧ tn i s'.heap ∧ (∀ b ∈ fp, H' b = none) ∧ W i n H') ?_ m0 ⟨0, H3, I4, st4, nfp, w0⟩
    rintro n s5 ⟨i, H5, I5, st5, n5, w5⟩
    rcases turn i n H5 w5 with ⟨stop, qq⟩ | ⟨go, Nx, hNx, step⟩
    · have td := T.done (X.blk s3 H3 scope ce fp) rfl rfl rfl hc i [] s5 _ H5 (fun _ _ => False) I5 (stat I5 n5) st5 stop
      refine thnF td fun r s6 ⟨hr, I6⟩ => ?_
      subst hr
      -- back in the def's context
      have I7 : Inv X pins σ H5 s6 := I3.call' (ch := fp) I6.os I6.base I6.hok I6.bare fun b hb => ⟨(f3 b hb).1.2.2.2.1, (f3 b hb).1.2.1, (f3 b hb).1.2.2.2.2.1, (f3 b hb).1.2.2.2.2.2⟩
      have nC : H5 s3.heap.objs.size = none := by
        have z : H5 ce.locals = none := I6.free
        rw [cL] at z
        exact z
      obtain ⟨m, hn, _⟩ := I6.loc
      have hn : s6.heap.Ns ce.locals m := hn
      rw [cL] at hn
      exact hRR D s3.heap.objs.size s6 m H5 I7 qq hn (I3.fpOk (Nat.le_refl _) nC)
    · have ti := T.item (X.blk s3 H3 scope ce fp) rfl rfl rfl hc i [] s5 _ H5 (fun _ _ => False) I5 (stat I5 n5) st5 go
      refine thnF ti fun r s6 ⟨u, hr, h6⟩ => ?_
      subst hr
      refine thnF h6 fun _ s7 ⟨x, H7, I7, r7, y7, st7, n7⟩ => ?_
      have I7' := I7.pinned (stat I7 n7) (T.obj _ _ st7)
      refine thnF (pg.run _ s7 _ H7 x u _ I7' r7 (step x H7 y7)) fun _ s8 ⟨σ8, H8, I8, hw8, q8⟩ => ?_
      refine thnF (pt.run _ s8 σ8 H8 _ I8 q8) fun b s9 ⟨H9, I9, q9⟩ => ?_
      -- the turn's end
      have fin : ∀ {s' : Shared} {H' : Hp}, Inv (X.blk s3 H3 scope ce fp) ([] ++ pinsAt fp s7.heap) σ8 H' s' → Nx H' → ∃ m, m < n ∧ ∃ i H', Inv (X.blk s3 H3 scope ce fp) [] (wipe σ (own.map (·.2))) H' s' ∧ tn i s'.heap ∧ (∀ b ∈ fp, H' b = none) ∧ W i m H' := fun {s' H'} I' nx => by
        obtain ⟨m', hm, w'⟩ := hNx H' nx
        have pin' : ∀ b ∈ fp, ∀ o, s7.heap.get? b = some o → s'.heap.get? b = some o ∧ H' b = none := fun b hb o e =>
          let z := I'.pin (b, o) (List.mem_append_right _ (List.mem_append_right _ (mem_pinsAt hb e)))
          ⟨z.1, z.2.1⟩
        have hl : (wipe σ (own.map (·.2))).length = σ8.length := by rw [← hw8, wipe_length]
        refine ⟨m', hm, i + 1, H', (I'.unpinned (pins := [])).weak hl (fun j v e => ?_), T.keep _ _ _ st7 fun b hb o e => (pin' b hb o e).1, fun b hb => ?_, w'⟩
        · rw [← hw8] at e
          exact (wipe_some e).1
        · obtain ⟨o, e, _⟩ := T.obj _ _ st7 b hb
          exact (pin' b hb o e).2
      cases b with
      | false =>
        simp only [Bool.false_eq_true, if_false] at q9 ⊢
        exact fin I9 q9
      | true =>
        simp only [if_true] at q9 ⊢
        refine thnF (pe.run _ s9 σ8 H9 _ I9 q9) fun z s10 ⟨yv, H10, I10, r10, cb, S0, n0, ey, hD10, hz10, nx⟩ => ?_
        subst ey
        obtain ⟨tk, rfl⟩ := (show ∃ tk, z = Value.int cb tk from r10)
        exact addI_ok (X := X.blk s3 H3 scope ce fp) I10 hD10 hz10 fun s11 I11 => fin I11 nx
  exact codeAny_compStart_set loop (T.self X.A 0 _ _ _ st4 loop)
/-- as a value -/
theorem pe_si {elt tg iter : Expr} {ifs : List Expr} {scope : Scope} {own : List (PySem.Str × Nat)} {pos : Pos} {wi : TI} {g : TG} {tt : TT} {te : TE} (hc : X.calm = true) (hN : X.N.Nodup) (hi : PI X tg iter wi) (ok : BlkOk X.N X.env.scope scope own)
    (hg : ∀ (s : Shared) (H : Hp) (C : Addr) (cl : List (PySem.Str × Addr)) (fp : List Addr), PG (X.blk s H scope (compEnvC scope cl C X.env) fp) tg g) (ht : ∀ (s : Shared) (H : Hp) (C : Addr) (cl : List (PySem.Str × Addr)) (fp : List Addr), PTs (X.blk s H scope (compEnvC scope cl C X.env) fp) ifs tt)
    (he : ∀ (s : Shared) (H : Hp) (C : Addr) (cl : List (PySem.Str × Addr)) (fp : List Addr), PE (X.blk s H scope (compEnvC scope cl C X.env) fp) elt te) (hs : ∀ x, foldedSetIterable iter X.env x = pure x := by intro _; rfl) :
    PE X (.SetComp elt [⟨tg, iter, ifs, 0⟩] scope pos) (tSi X.w wi g tt te (own.map (·.2))) := by
  refine ⟨fun pins s σ H Q I h => ?_⟩
  rw [eval_SetComp]
  refine si_core hc hN I hi ok hg ht he hs h fun D C s' m H' I' q hn f => ⟨m, hn, fun h'' sb => ?_⟩
  obtain ⟨f0, f1, f2, f3, f4, f5⟩ := f
  exact ⟨.ref D, H', I'.turned (t' := s'.toks) (fun b o hb e => (sb.2 b hb).trans e) f0 f1 f3 f4 f5, rfl, q⟩
end
/-- each once, in the order in which they come -/
def distS (acc : List Int) (x : Int) : List Int := if x ∈ acc then acc else acc ++ [x]
def distL (l : List Int) : List Int := l.foldl distS []
theorem dist_step (l : List Int) (x : Int) : distL (l ++ [x]) = distS (distL l) x := by unfold distL; rw [List.foldl_append]; rfl
theorem distS_mem (acc : List Int) (x k : Int) : k ∈ distS acc x ↔ k ∈ acc ∨ k = x := by
  unfold distS
  by_cases h : x ∈ acc
  · rw [if_pos h]
    constructor
    · exact .inl
    · rintro (z | rfl)
      · exact z
      · exact h
  · rw [if_neg h]
    simp
theorem dist_fold (l acc : List Int) (k : Int) : k ∈ l.foldl distS acc ↔ k ∈ acc ∨ k ∈ l := by
  induction l generalizing acc with
  | nil => simp
  | cons x l ih =>
    rw [List.foldl_cons, ih, distS_mem, List.mem_cons, or_assoc]
theorem dist_mem (l : List Int) (k : Int) : k ∈ distL l ↔ k ∈ l := by
  unfold distL
  rw [dist_fold]
  simp
theorem distS_len (acc : List Int) (x : Int) : (distS acc x).length = if x ∈ acc then acc.length else acc.length + 1 := by
  unfold distS
  by_cases h : x ∈ acc
  · rw [if_pos h, if_pos h]
  · rw [if_neg h, if_neg h]
    simp
theorem dist_nd (l acc : List Int) (h : acc.Nodup) : (l.foldl distS acc).Nodup := by
  induction l generalizing acc with
  | nil => exact h
  | cons x l ih =>
    refine ih _ ?_
    unfold distS
    by_cases c : x ∈ acc
    · rw [if_pos c]; exact h
    · rw [if_neg c, List.nodup_append]
      exact ⟨h, by simp, fun a ha b hb => by rw [List.mem_singleton.mp hb]; exact fun z => c (z ▸ ha)⟩
theorem distL_nd (l : List Int) : (distL l).Nodup := dist_nd l [] .nil
theorem dist_len : ∀ (l acc : List Int), (l.foldl distS acc).length ≤ acc.length + l.length
  | [], acc => by simp
  | x :: l, acc => by
    have h := dist_len l (distS acc x)
    rw [distS_len] at h
    rw [List.foldl_cons, List.length_cons]
    split at h <;> omega
theorem distL_len (l : List Int) : (distL l).length ≤ l.length := by
  have h := dist_len l []
  rw [List.length_nil, Nat.zero_add] at h
  exact h
theorem dist_id : ∀ (l acc : List Int), (acc ++ l).Nodup → l.foldl distS acc = acc ++ l
  | [], acc, _ => by simp
  | x :: l, acc, h => by
    have hx : x ∉ acc := fun z => (List.nodup_append.mp h).2.2 x z x List.mem_cons_self rfl
    have e : distS acc x = acc ++ [x] := by unfold distS; rw [if_neg hx]
    rw [List.foldl_cons, e, dist_id l (acc ++ [x]) (by rw [List.append_assoc]; exact h), List.append_assoc]
    rfl
theorem distL_id {l : List Int} (h : l.Nodup) : distL l = l := dist_id l [] h
def sortI (l : List Int) : List Int := (distL l).mergeSort fun a b => decide (a ≤ b)
theorem sortI_mem (l : List Int) (k : Int) : k ∈ sortI l ↔ k ∈ l := by unfold sortI; rw [(List.mergeSort_perm _ _).mem_iff, dist_mem]
theorem sortI_lt (l : List Int) : (sortI l).Pairwise (· < ·) := by
  have h : (sortI l).Pairwise (fun a b => decide (a ≤ b) = true) := List.pairwise_mergeSort (fun a b c h1 h2 => by
    have := of_decide_eq_true h1
    have := of_decide_eq_true h2
    exact decide_eq_true (by omega)) (fun a b => by
    rcases Int.le_total a b with z | z
    · simp [z]
    · simp [z]) _
  have nd : (sortI l).Nodup := (List.mergeSort_perm _ _).nodup_iff.mpr (distL_nd l)
  exact (h.and nd).imp fun {a b} z => by
    have := of_decide_eq_true z.1
    have := z.2
    omega
theorem int_uniq : ∀ {l m : List Int}, l.Pairwise (· < ·) → m.Pairwise (· < ·) → (∀ p, p ∈ l ↔ p ∈ m) → l = m
  | [], [], _, _, _ => rfl
  | [], b :: m, _, _, h => absurd ((h b).mpr List.mem_cons_self) (by simp)
  | a :: l, [], _, _, h => absurd ((h a).mp List.mem_cons_self) (by simp)
  | a :: l, b :: m, h1, h2, h => by
    have h1' := List.pairwise_cons.mp h1
    have h2' := List.pairwise_cons.mp h2
    have e : a = b := by
      rcases List.mem_cons.mp ((h a).mp List.mem_cons_self) with z | z
      · exact z
      · rcases List.mem_cons.mp ((h b).mpr List.mem_cons_self) with y | y
        · exact y.symm
        · have := h2'.1 a z
          have := h1'.1 b y
          omega
    subst e
    rw [int_uniq h1'.2 h2'.2 fun p => ?_]
    constructor
    · intro z
      rcases List.mem_cons.mp ((h p).mp (List.mem_cons_of_mem _ z)) with y | y
      · have := h1'.1 p z
        omega
      · exact y
    · intro z
      rcases List.mem_cons.mp ((h p).mpr (List.mem_cons_of_mem _ z)) with y | y
      · have := h2'.1 p z
        omega
      · exact y
theorem rep_numsI {K : PySem.W.Frag} {H : Hp} : ∀ ns : List Int, RepL K H (ns.map V.int) (ns.map P.int)
  | [] => .nil
  | n :: ns => .cons (.int n) (rep_numsI ns)
section
variable {X : Cx} {tg iter elt e : Expr} {ρ : Rho} {μ : Mu} {pos p2 spos : Pos} {Q : E → Mu → Prop} {scope : Scope} {zs : List E}
/-- the set of a comprehension over plain items -/
theorem si_main {α : Type} (l : List α) (f : α → P) (r : α → Rho) (g : α → Int) (js : List Nat) (own : List (Str × Nat)) {Q' : VK} {ad : List Addr} {Hb H : Hp} {σ : L2.St} (hi : EI X tg iter ρ μ (l.map fun a => .sh (f a))) (hl : l.length ≤ 1000)
    (ht : ∀ a ∈ l, TgB X scope tg js (.sh (f a)) (wipeR ρ (own.map (·.2))) (r a) μ) (he : ∀ a ∈ l, EVB X scope elt (r a) μ (.sh (.int (g a)))) (hjs : ∀ j ∈ js, j ∈ own.map (·.2))
    (W : Wd X.K ad Hb H μ) (N : Env X.K ad Hb σ ρ)
    (fin : ∀ (D : Addr) (ad2 : List Addr) (Hb2 H2 : Hp), Step ad Hb H ad2 Hb2 H2 → Wd X.K ad2 Hb2 H2 μ → H2 D = some (SetO X.w D (fun k => decide (k ∈ distL (l.map g))) (distL (l.map g)).length) → Q' (.ref D) H2) :
    tSi X.w (TIV X tg iter) (gB X scope tg) (tB X scope []) (eB X scope elt) (own.map (·.2)) σ H Q' := by
  refine hi (fun items G μ1 => items = (l.map fun a => .sh (f a)) ∧ μ1 = μ ∧ G = fun _ => True) ⟨rfl, rfl, rfl⟩ ad Hb H σ W N _ fun J items G μ1 ad1 Hb1 H1 ⟨ei, em, eG⟩ s1 W1 w D hD => ?_
  subst ei em eG
  have nD : D ∉ ad1 := fun z => W1.trk D z hD
  have bD : Hb1 D = none := W1.base_none hD
  let ST : Nat → HO := fun i => SetO X.w D (fun k => decide (k ∈ distL ((l.take i).map g))) (distL ((l.take i).map g)).length
  let Pv : Nat → Hp → Prop := fun i H' => ∃ ad2 Hb2, Step ad1 Hb1 H1 ad2 Hb2 H' ∧ Wd X.K ad2 Hb2 H' μ1 ∧ D ∉ ad2 ∧ Hb2 D = none ∧ H' D = some (ST i)
  have hlen : (l.map fun a => PV.E.sh (f a)).length = l.length := List.length_map _
  refine ⟨fun i m H' => m = l.length - i ∧ i ≤ l.length ∧ Pv i H', ⟨l.length, rfl, Nat.zero_le _, ad1, Hb1, (Step.refl _ _ _).apart hD, W1.apart nD bD, nD, bD, ?_⟩, ?_⟩
  · rw [upd_same]
    show some (SetO X.w D (fun _ => false) 0) = some (SetO X.w D (fun k => decide (k ∈ distL ((l.take 0).map g))) (distL ((l.take 0).map g)).length)
    congr 2
  rintro i m H' ⟨rfl, hi2, ad2, Hb2, s2, W2, n2, b2, d2⟩
  by_cases hlt : i < l.length
  · refine .inr ⟨w.goes i ad2 Hb2 H' μ1 (by rw [hlen]; exact hlt) s2 W2 trivial, Pv (i + 1), fun H'' p => ⟨l.length - (i + 1), by omega, rfl, hlt, p⟩, fun x H3 y => ?_⟩
    obtain ⟨Hb3, e, s3, W3, he3, re⟩ := w.yields i ad2 Hb2 H' μ1 x H3 (by rw [hlen]; exact hlt) s2 W2 trivial y
    have t3 := s2.trans s3
    rw [List.getElem?_map, List.getElem?_eq_getElem hlt] at he3
    cases he3
    have hm : l[i] ∈ l := List.getElem_mem hlt
    intro s H0 C cl fp
    refine ht l[i] hm (fun ρ3 μ3 => ρ3 = r l[i] ∧ μ3 = μ1) ⟨rfl, rfl⟩ s H0 C cl fp ad2 Hb3 H3 _ x W3 ((Env.step (s1.trans t3) N).wipe _) re _ fun ρ4 μ4 ad4 Hb4 H4 σ4 ⟨q4, q5⟩ s4 W4 N4 b4 => ?_
    subst q4 q5
    refine ⟨?_, ?_⟩
    · have e1 := wipe_get (σ := wipe σ (own.map (·.2))) (σ' := σ4) (own.map (·.2)) b4.1 fun k hk => b4.2 k fun z => hk (hjs k z)
      rw [e1]
      exact wipe_get _ (wipe_length _ _) fun k hk => wipe_out hk
    intro s H0 C cl fp
    refine tts_nil (X := X.blk s H0 scope (compEnvC scope cl C X.env) fp) (ρ := r l[i]) (μ := μ4) (Q := fun b μ5 => b = true ∧ μ5 = μ4) ⟨rfl, rfl⟩ ad4 Hb4 H4 σ4 W4 N4 _ fun b μ5 ad5 Hb5 H5 ⟨q5, q6⟩ s5 W5 => ?_
    subst q5 q6
    have k1 : D ∉ ad5 ∧ Hb5 D = none ∧ H5 D = some (ST i) := by
      have d3 := s3.fr0 n2 b2 d2
      have b3 := s3.fgn D _ n2 d2 rfl b2
      have d4 := s4.fr0 n2 b3 d3
      have b4' := s4.fgn D _ n2 d3 rfl b3
      have n4 : D ∉ ad4 := fun z => by
        rcases s4.new D z with z | z
        · exact n2 z
        · rw [d3] at z; cases z
      have n5 : D ∉ ad5 := fun z => by
        rcases s5.new D z with z | z
        · exact n4 z
        · rw [d4] at z; cases z
      exact ⟨n5, s5.fgn D _ n4 d4 rfl b4', s5.fr0 n4 b4' d4⟩
    have t5 := t3.trans (s4.trans s5)
    intro s H0 C cl fp
    refine he l[i] hm s H0 C cl fp (fun y μ6 => y = .sh (.int (g l[i])) ∧ μ6 = μ5) ⟨rfl, rfl⟩ ad5 Hb5 H5 σ4 W5 (Env.step s5 N4) _ fun z y μ6 ad6 Hb6 H6 ⟨q6, q7⟩ s6 W6 r6 => ?_
    subst q6 q7
    have d6 := s6.fr0 k1.1 k1.2.1 k1.2.2
    have b6 := s6.fgn D _ k1.1 k1.2.2 rfl k1.2.1
    have n6 : D ∉ ad6 := fun z => by
      rcases s6.new D z with z | z
      · exact k1.1 z
      · rw [k1.2.2] at z; cases z
    obtain rfl := Rep.int_inv r6
    have tk : (l.take (i + 1)).map g = (l.take i).map g ++ [g l[i]] := by
      rw [List.take_add_one, List.getElem?_eq_getElem hlt, List.map_append]
      rfl
    refine ⟨g l[i], _, _, rfl, d6, ?_, ad6, Hb6, (t5.trans s6).apart hD, W6.apart n6 b6, n6, b6, ?_⟩
    · have h1 := distL_len ((l.take i).map g)
      rw [List.length_map, List.length_take] at h1
      exact Nat.lt_of_le_of_lt (show _ ≤ 1001 by omega) (by decide)
    · rw [upd_same]
      show _ = some (SetO X.w D (fun k => decide (k ∈ distL ((l.take (i + 1)).map g))) (distL ((l.take (i + 1)).map g)).length)
      rw [tk, dist_step, distS_len]
      congr 2
      · funext j
        rw [show decide (j ∈ distS (distL ((l.take i).map g)) (g l[i])) = (decide (j ∈ distL ((l.take i).map g)) || decide (j = g l[i])) by
          rw [← Bool.decide_or]
          exact decide_eq_decide.mpr (distS_mem _ _ _)]
      · by_cases c : g l[i] ∈ distL ((l.take i).map g)
        · rw [if_pos c, if_pos (decide_eq_true c)]
        · rw [if_neg c, if_neg (by simpa using c)]
  · have e : i = l.length := by omega
    subst e
    refine .inl ⟨hlen ▸ w.stops ad2 Hb2 H' μ1 s2 W2 trivial, fin D ad2 Hb2 H' (s1.trans s2) W2 ?_⟩
    rw [d2]
    show some (SetO X.w D (fun k => decide (k ∈ distL ((l.take l.length).map g))) (distL ((l.take l.length).map g)).length) = _
    rw [List.take_length]
/-- sorted({elt for tg in iter}) -/
theorem tep_sortSC {α : Type} (l : List α) (f : α → P) (r : α → Rho) (g : α → Int) (js : List Nat) (own : List (Str × Nat)) (nd : X.N.Nodup) (ok : BlkOk X.N X.env.scope scope own) (hm : X.mg "sorted" = none) (hi : EI X tg iter ρ μ zs) (hl : l.length < 64)
    (ht : ∀ a ∈ l, TgB X scope tg js (.sh (f a)) (wipeR ρ (own.map (·.2))) (r a) μ) (he : ∀ a ∈ l, EVB X scope elt (r a) μ (.sh (.int (g a)))) (q : Q (.sh (.lst ((sortI (l.map g)).map .int))) μ)
    (hz : zs = l.map (fun a => .sh (f a)) := by first | rfl | (rw [List.map_map]; rfl) | simp) (hjs : ∀ j ∈ js, j ∈ own.map (·.2) := by decide) (hc : X.calm = true := by rfl) (hg : Gl X "sorted" := by rfl)
    (hs : ∀ x, foldedSetIterable iter X.env x = pure x := by intro _; rfl) (hs2 : starEach [.SetComp elt [⟨tg, iter, [], 0⟩] scope spos] X.env = (false, eval (.SetComp elt [⟨tg, iter, [], 0⟩] scope spos) X.env) :: starEach [] X.env := by rfl) :
    TEP X (.Call (.Name "sorted" p2) [.SetComp elt [⟨tg, iter, [], 0⟩] scope spos] [] pos) ρ μ Q := fun ad Hb H σ W N Q' gg => by
  refine pe_go (pe_callB (cr_sortedSet hc) hg hm bo_sorted (pa_cons (pe_si hc nd pi_self ok pgB ptB peB hs) pa_nil hs2) (by decide) (by decide) hs2 rfl) ?_
  show tSi X.w (TIV X tg iter) (gB X scope tg) (tB X scope []) (eB X scope elt) (own.map (·.2)) σ H (fun x H1 => rSortedSet X.w [x] H1 Q')
  refine si_main l f r g js own (hi.is hz) (Nat.le_trans (Nat.le_of_lt hl) (by decide)) ht he hjs W N fun D ad2 Hb2 H2 s2 W2 hD => ?_
  refine ⟨D, _, _, rfl, hD, Nat.lt_of_le_of_lt (distL_len _) (by rw [List.length_map]; exact hl), fun ns p h1 h2 h3 hp => ?_⟩
  have e : ns = sortI (l.map g) := int_uniq h1 (sortI_lt _) fun k => by rw [h2, decide_eq_true_eq, sortI_mem, dist_mem]
  subst e
  obtain ⟨W3, s3⟩ := W2.alloc (o := .lst ((sortI (l.map g)).map V.int)) hp
  exact gg _ (.sh (.lst ((sortI (l.map g)).map .int))) _ _ _ _ q (s2.trans s3) W3 (Rep.lstL upd_same (rep_numsI _))
/-- len(found), a set of ints -/
def rLenSet (w : World) : List V → Hp → VK → Prop := fun vs H Q => ∃ (a : Addr) (S : Int → Bool) (n : Nat), vs = [V.ref a] ∧ H a = some (SetO w a S n) ∧ Q (.int (n : Nat)) H
theorem cr_lenSet {X : Cx} : CallR X (.builtin "len") (rLenSet X.w) := by
  intro pins s σ H vs us Q I r h
  obtain ⟨a, S, n, rfl, ha, q⟩ := h
  obtain ⟨o, es, ep, t, ho, hex, hd, _, _, _, hb, hf, hn, _⟩ := setO_get I ha
  rw [Vals.ref1 r]
  refine call_len_set ho hex hd hf (by unfold scanBound at hb; omega) ⟨.int (n : Nat), H, I.tok _, ⟨_, by rw [hn]⟩, q⟩
/-- len({elt for tg in iter}) -/
theorem ev_lenSC {α : Type} (l : List α) (f : α → P) (r : α → Rho) (g : α → Int) (js : List Nat) (own : List (Str × Nat)) (nd : X.N.Nodup) (ok : BlkOk X.N X.env.scope scope own) (hm : X.mg "len" = none) (hi : EI X tg iter ρ μ zs) (hl : l.length ≤ 1000)
    (ht : ∀ a ∈ l, TgB X scope tg js (.sh (f a)) (wipeR ρ (own.map (·.2))) (r a) μ) (he : ∀ a ∈ l, EVB X scope elt (r a) μ (.sh (.int (g a))))
    (hz : zs = l.map (fun a => .sh (f a)) := by first | rfl | (rw [List.map_map]; rfl) | simp) (hjs : ∀ j ∈ js, j ∈ own.map (·.2) := by decide) (hc : X.calm = true := by rfl) (hg : Gl X "len" := by rfl)
    (hs : ∀ x, foldedSetIterable iter X.env x = pure x := by intro _; rfl) (hs2 : starEach [.SetComp elt [⟨tg, iter, [], 0⟩] scope spos] X.env = (false, eval (.SetComp elt [⟨tg, iter, [], 0⟩] scope spos) X.env) :: starEach [] X.env := by rfl) :
    EV X (.Call (.Name "len" p2) [.SetComp elt [⟨tg, iter, [], 0⟩] scope spos] [] pos) ρ μ (.sh (.int ((distL (l.map g)).length : Nat))) := fun Q q ad Hb H σ W N Q' gg => by
  refine pe_go (pe_callB cr_lenSet hg hm bo_len (pa_cons (pe_si hc nd pi_self ok pgB ptB peB hs) pa_nil hs2) (by decide) (by decide) hs2 rfl) ?_
  show tSi X.w (TIV X tg iter) (gB X scope tg) (tB X scope []) (eB X scope elt) (own.map (·.2)) σ H (fun x H1 => rLenSet X.w [x] H1 Q')
  refine si_main l f r g js own (hi.is hz) hl ht he hjs W N fun D ad2 Hb2 H2 s2 W2 hD => ?_
  exact ⟨D, _, _, rfl, hD, gg _ (.sh (.int ((distL (l.map g)).length : Nat))) _ _ _ _ q s2 W2 (.int _)⟩
/-- len(set(e)), e a list of ints, each once -/
theorem ev_lenSet {ns : List Int} {q3 : Pos} (hm : X.mg "len" = none) (hm2 : X.mg "set" = none) (h : EV X e ρ μ (.sh (.lst (ns.map .int)))) (hl : ns.length < 64) (hn : ns.Nodup) (hc : X.calm = true := by rfl) (hg : Gl X "len" := by rfl) (hg2 : Gl X "set" := by rfl)
    (na : starEach [e] X.env = (false, eval e X.env) :: starEach [] X.env := by rfl) : EV X (.Call (.Name "len" p2) [.Call (.Name "set" spos) [e] [] q3] [] pos) ρ μ (.sh (.int (ns.length : Nat))) := fun Q q ad Hb H σ W N Q' gg => by
  refine pe_go (pe_lenSetI hc hg hm hg2 hm2 pe_self na) (h (fun y μ1 => y = .sh (.lst (ns.map .int)) ∧ μ1 = μ) ⟨rfl, rfl⟩ ad Hb H σ W N _ ?_)
  rintro v y μ1 ad1 Hb1 H1 ⟨rfl, rfl⟩ s1 W1 r1
  obtain ⟨a, vs, rfl, hq, r⟩ := Rep.lst_inv r1
  obtain rfl := rep_ints r
  exact ⟨a, ns, rfl, W1.sqL hq, hl, hn, gg _ (.sh (.int (ns.length : Nat))) _ _ _ _ q s1 W1 (.int _)⟩
end
end PV

/-! gcd, abs, is of truth values, rows of ints in lists of them, longer lists, repr of lists in cells. -/
namespace PV
open PySem PySem.Spec PyProof.Rows L2
section
variable {X : Cx} {a b e o : Expr} {es : List Expr} {ρ : Rho} {μ : Mu} {Q : E → Mu → Prop} {pos p2 apos cpos : Pos} {i j : Int} {x : Str}
/-- gcd(a, b), gcd the module's -/
theorem ev_gcd (hm : X.mg x = some (.builtin "math.gcd")) (h1 : EV X a ρ μ (.sh (.int i))) (h2 : EV X b ρ μ (.sh (.int j))) (hg : Gl X x := by rfl) (hdb : (x == ("__debug__" : Str)) = false := by decide) (hs1 : starEach [a, b] X.env = (false, eval a X.env) :: starEach [b] X.env := by rfl) (hs2 : starEach [b] X.env = (false, eval b X.env) :: starEach [] X.env := by rfl) :
    EV X (.Call (.Name x p2) [a, b] [] pos) ρ μ (.sh (.int ((Nat.gcd i.natAbs j.natAbs : Nat) : Int))) := fun Q q ad Hb H σ W N Q' g => by
  refine pe_go (pe_callBfun cr_gcd hg hm pa_self hdb hs1 (by rw [hs2]; rfl)) ((ea_cons h1 (ea_cons h2 ea_nil hs2) hs1) (fun zs μ1 => zs = [.sh (.int i), .sh (.int j)] ∧ μ1 = μ) ⟨rfl, rfl⟩ ad Hb H σ W N _ ?_)
  rintro vs zs μ1 ad1 Hb1 H1 ⟨rfl, rfl⟩ s1 W1 r0
  obtain ⟨v, w, rfl, r1, r2⟩ := vals2E r0
  obtain rfl := Rep.int_inv r1
  obtain rfl := Rep.int_inv r2
  exact ⟨i, j, rfl, g _ (.sh (.int ((Nat.gcd i.natAbs j.natAbs : Nat) : Int))) _ _ _ _ q s1 W1 (.int _)⟩
theorem bo_abs : bootBuiltins "abs" = some (.builtin "abs") := by rfl
theorem ev_abs (hm : X.mg "abs" = none) (h : EV X a ρ μ (.sh (.int i))) (hg : Gl X "abs" := by rfl) (hs : starEach [a] X.env = (false, eval a X.env) :: starEach [] X.env := by rfl) : EV X (.Call (.Name "abs" p2) [a] [] pos) ρ μ (.sh (.int (if i < 0 then -i else i))) := fun Q q =>
  tep_callB call_abs hg hm bo_abs (tap_consV h (tap_nil fun ad Hb H vs W r0 Q' g => by
    obtain ⟨v, rfl, r1⟩ := vals1 r0
    obtain rfl := Rep.int_inv r1
    exact ⟨i, rfl, g.now W (x := .sh (.int (if i < 0 then -i else i))) (.int _) q⟩) hs) (by decide) (by decide) hs rfl
/-- is, is not, of truth values -/
theorem op_isBl : OpR X (compareOp .Is) (fun x y H Q => ∃ b c, x = .bl b ∧ y = .bl c ∧ Q (.bl (b == c)) H) := by
  intro pins s σ H x y v u Q I rx ry h
  obtain ⟨b, c, rfl, rfl, q⟩ := h
  cases rx
  cases ry
  show wpAny _ _ ((isSame (Value.bool b) (Value.bool c)) >>= fun z => pure (Value.bool z)) _ _ s
  refine wpAny_bind (wpAny_isSame_plain rfl (wpAny_pure (fin_bl I q ?_)))
  cases b <;> cases c <;> rfl
theorem op_isnotBl : OpR X (compareOp .IsNot) (fun x y H Q => ∃ b c, x = .bl b ∧ y = .bl c ∧ Q (.bl (!(b == c))) H) := by
  intro pins s σ H x y v u Q I rx ry h
  obtain ⟨b, c, rfl, rfl, q⟩ := h
  cases rx
  cases ry
  show wpAny _ _ ((isSame (Value.bool b) (Value.bool c)) >>= fun z => pure (Value.bool (!z))) _ _ s
  refine wpAny_bind (wpAny_isSame_plain rfl (wpAny_pure (fin_bl I q ?_)))
  cases b <;> cases c <;> rfl
theorem ev_isnotB {p q : Bool} (ha : EV X a ρ μ (.sh (.bl p))) (hb : EV X b ρ μ (.sh (.bl q))) (hmk : behindInMarks .IsNot b = false := by with_unfolding_all rfl) : EV X (.Compare a [.IsNot] [b] pos) ρ μ (.sh (.bl (!(p == q)))) := ev_cmp op_isnotBl hmk ha hb fun Q qq ad Hb H v w W r1 r2 Q' k => by
  obtain rfl := Rep.bl_inv r1
  obtain rfl := Rep.bl_inv r2
  exact ⟨p, q, rfl, rfl, k.now W (x := .sh (.bl (!(p == q)))) (.bl _) qq⟩
theorem et_isnotB {p q : Bool} (ha : EV X a ρ μ (.sh (.bl p))) (hb : EV X b ρ μ (.sh (.bl q))) (hmk : behindInMarks .IsNot b = false := by with_unfolding_all rfl) : ET X (.Compare a [.IsNot] [b] pos) ρ μ (!(p == q)) := et_cmp op_isnotBl hmk ha hb fun Q qq ad Hb H v w W r1 r2 Q' k => by
  obtain rfl := Rep.bl_inv r1
  obtain rfl := Rep.bl_inv r2
  exact ⟨p, q, rfl, rfl, k.now W (x := .sh (.bl (!(p == q)))) (.bl _) qq⟩
/-! ### rows of ints -/
theorem eqvAll_ints : ∀ ns ms : List Int, PyData.eqvAll (ns.map .int) (ms.map .int) = decide (ns = ms)
  | [], [] => by simp [PyData.eqvAll]
  | [], _ :: _ => by simp [PyData.eqvAll]
  | _ :: _, [] => by simp [PyData.eqvAll]
  | n :: ns, m :: ms => by
    simp only [List.map_cons, PyData.eqvAll, PyData.eqv, eqvAll_ints ns ms, List.cons.injEq, Bool.decide_and]
    rfl
theorem eqv_ints (ns ms : List Int) : PyData.eqv (.tuple (ns.map .int)) (.tuple (ms.map .int)) = decide (ns = ms) := by simp only [PyData.eqv]; exact eqvAll_ints ns ms
theorem pd_row {n : Nat} (ns : List Int) : PD (n + 1) (.tup (ns.map .int)) (.tuple (ns.map .int)) := .tup (by simp) fun i x d h1 h2 => by
  rw [List.getElem?_map] at h1 h2
  cases e : ns[i]? with
  | none => rw [e] at h1; cases h1
  | some z => rw [e] at h1 h2; cases h1; cases h2; exact .int _ _
theorem pd_rows {α : Type} {n : Nat} (l : List α) (f : α → List Int) : PD (n + 2) (.lst (l.map fun a => .tup ((f a).map .int))) (.list (l.map fun a => .tuple ((f a).map .int))) := .lst (by simp) fun i x d h1 h2 => by
  rw [List.getElem?_map] at h1 h2
  cases e : l[i]? with
  | none => rw [e] at h1; cases h1
  | some z => rw [e] at h1 h2; cases h1; cases h2; exact pd_row _
/-- (..) in a list of rows of ints -/
theorem ev_inR {α : Type} (l : List α) (f : α → List Int) {ns : List Int} (hu : X.A.units + 65 < cLine) (ha : EV X a ρ μ (.sh (.tup (ns.map .int)))) (hb : EV X b ρ μ (.sh (.lst (l.map fun a => .tup ((f a).map .int))))) (hmk : behindInMarks .In b = false := by with_unfolding_all rfl) :
    EV X (.Compare a [.In] [b] pos) ρ μ (.sh (.bl (decide (ns ∈ l.map f)))) := ev_cmp (op_inD hu) hmk ha hb fun Q qq ad Hb H v w W r1 r2 Q' k => by
  refine ⟨_, _, (pd_row (n := 0) ns).dp W r1, (pd_rows (n := 0) l f).dp W r2, (pd_row (n := 0) ns).shaped (by decide), (pd_rows (n := 0) l f).shaped (by decide), ?_⟩
  have e : (l.map fun a => PyData.tuple ((f a).map .int)).any (fun z => PyData.eqv z (.tuple (ns.map .int))) = decide (ns ∈ l.map f) := by
    rw [List.any_map]
    apply Bool.eq_iff_iff.mpr
    simp only [List.any_eq_true, Function.comp, eqv_ints, decide_eq_true_eq, List.mem_map]
  rw [e]
  exact k.now W (x := .sh (.bl (decide (ns ∈ l.map f)))) (.bl _) qq
theorem RoomG.u65 {g : Bool} {k : Nat} {A : Around} (r : RoomG g k A) : A.units + 65 < cLine := by
  have := r.room.un
  omega
/-! ### longer lists -/
theorem vm_appendX {K : PySem.W.Frag} {j : Nat} {zs : List E} {y : E} (hj : μ[j]? = some (some (.lst zs))) (hl : zs.length < 16000000) (q : Q (.sh .non) (μ.set j (some (.lst (zs ++ [y]))))) : VM K rAppend (.pt j) [y] μ Q := fun ad Hb H v vs W r0 rs Q' g => by
  obtain ⟨w, rfl, rw_⟩ := vals1 rs
  obtain ⟨a, ha, rfl⟩ := r0
  obtain ⟨_, us, hv, r⟩ := W.off j a _ ha hj
  refine ⟨a, us, w, rfl, rfl, hv, Nat.lt_of_lt_of_le (by rw [r.length]; exact hl) (by decide), ?_⟩
  obtain ⟨W2, s2⟩ := W.put (d := .lst (zs ++ [y])) (o := .lst (us ++ [w])) ha hj ⟨_, upd_same, pd_app r (.cons rw_ .nil)⟩
  exact g _ (.sh .non) _ _ _ _ q s2 W2 .non
theorem tep_appendX {j : Nat} {zs : List E} {y : E} (ho : EV X o ρ μ (.pt j)) (h : EV X e ρ μ y) (hj : μ[j]? = some (some (.lst zs))) (hl : zs.length < 16000000) (q : Q (.sh .non) (μ.set j (some (.lst (zs ++ [y])))))
    (hbase : attributeBase o "append" X.env (eval o X.env) = eval o X.env := by rfl)
    (hfew : ((backTo cpos (starEach [e] X.env)).all (fun x => !x.1) && (backToKw cpos (keywordEach [] X.env)).all (fun x => x.1.isSome) && decide ([e].length + ([] : List Keyword).length + (if ([] : List Keyword).isEmpty then 0 else 1) < 30)) = true := by rfl)
    (hline : (apos.endLine == cpos.line) = true := by rfl) (hs : starEach [e] X.env = (false, eval e X.env) :: starEach [] X.env := by rfl) : TEP X (.Call (.Attribute o "append" apos) [e] [] cpos) ρ μ Q :=
  tep_bm PySem.F.plainAttrs_list PySem.F.slot_list_append PySem.F.type_list_append mt_append (ho _ ⟨.inl ⟨rfl, zs, hj⟩, tap_cons (h _ (tap_nil (vm_appendX hj hl q))) hs⟩) hbase hfew hline hs rfl
theorem vm_extendX {K : PySem.W.Frag} {j : Nat} {zs : List E} {xs : List P} (hj : μ[j]? = some (some (.lst zs))) (hl : zs.length + xs.length ≤ 16000000) (q : Q (.sh .non) (μ.set j (some (.lst (zs ++ xs.map .sh))))) : VM K rExtend (.pt j) [.sh (.lst xs)] μ Q := fun ad Hb H v vs W r0 rs Q' g => by
  obtain ⟨w, rfl, rw_⟩ := vals1 rs
  obtain ⟨a, ha, rfl⟩ := r0
  obtain ⟨_, us, hv, r⟩ := W.off j a _ ha hj
  obtain ⟨b, ws, rfl, hb, rb⟩ := Rep.lst_at rw_
  refine ⟨a, b, us, ws, rfl, rfl, hv, W.inc _ _ hb, Nat.le_trans (by rw [r.length, rb.length]; exact hl) (by decide), ?_⟩
  obtain ⟨W2, s2⟩ := W.put (d := .lst (zs ++ xs.map .sh)) (o := .lst (us ++ ws)) ha hj ⟨_, upd_same, pd_app r (repEs_of rb)⟩
  exact g _ (.sh .non) _ _ _ _ q s2 W2 .non
theorem tep_extendX {j : Nat} {zs : List E} {xs : List P} (ho : EV X o ρ μ (.pt j)) (h : EV X e ρ μ (.sh (.lst xs))) (hj : μ[j]? = some (some (.lst zs))) (hl : zs.length + xs.length ≤ 16000000) (q : Q (.sh .non) (μ.set j (some (.lst (zs ++ xs.map .sh)))))
    (hbase : attributeBase o "extend" X.env (eval o X.env) = eval o X.env := by rfl)
    (hfew : ((backTo cpos (starEach [e] X.env)).all (fun x => !x.1) && (backToKw cpos (keywordEach [] X.env)).all (fun x => x.1.isSome) && decide ([e].length + ([] : List Keyword).length + (if ([] : List Keyword).isEmpty then 0 else 1) < 30)) = true := by rfl)
    (hline : (apos.endLine == cpos.line) = true := by rfl) (hs : starEach [e] X.env = (false, eval e X.env) :: starEach [] X.env := by rfl) : TEP X (.Call (.Attribute o "extend" apos) [e] [] cpos) ρ μ Q :=
  tep_bm PySem.F.plainAttrs_list PySem.F.slot_list_extend PySem.F.type_list_extend mt_extend (ho _ ⟨.inl ⟨rfl, zs, hj⟩, tap_cons (h _ (tap_nil (vm_extendX hj hl q))) hs⟩) hbase hfew hline hs rfl
/-! ### repr of cells -/
theorem lend_dp {K : PySem.W.Frag} {ad : List Addr} {Hb H : Hp} {μ : Mu} (W : Wd K ad Hb H μ) {z : E} {p : P} (h : Lend μ z p) : ∀ {n : Nat} {d : PyData} {v : V}, PD n p d → RepE K ad Hb v z → Dp K H v d := by
  induction h with
  | sh x => intro n d v h r; exact h.dp W r
  | @lst j zs xs hj l e ih =>
    intro n d v h r
    obtain ⟨a, ha, rfl⟩ := r
    obtain ⟨_, vs, hv, r⟩ := W.off _ a _ ha hj
    cases h with
    | lst l2 e2 =>
      refine .lst (.inl (.inl hv)) (dpAll_of (r.length.trans (l.trans l2)) fun i v d h1 h2 => ?_)
      obtain ⟨z, h3, h4⟩ := pd_right r i v h1
      have hx : i < xs.length := by rw [← l]; exact (List.getElem?_eq_some_iff.mp h3).1
      exact ih i z _ h3 (List.getElem?_eq_getElem hx) (e2 i _ d (List.getElem?_eq_getElem hx) h2) h4
  | lk hj l e ih => intro n d v h r; cases h
  | @tp xs ps l e ih =>
    intro n d v h r
    obtain ⟨a, vs, rfl, hv, r⟩ := r
    cases h with
    | tup l2 e2 =>
      refine .tup (.inl (.inl (W.tup hv))) (dpAll_of (r.length.trans (l.trans l2)) fun i v d h1 h2 => ?_)
      obtain ⟨z, h3, h4⟩ := pd_right r i v h1
      have hx : i < ps.length := by rw [← l]; exact (List.getElem?_eq_some_iff.mp h3).1
      exact ih i z _ h3 (List.getElem?_eq_getElem hx) (e2 i _ d (List.getElem?_eq_getElem hx) h2) (repI_E.mp h4)
theorem tep_reprL {k : Nat} (hr : RoomG true k X.A) (hm : X.mg "repr" = none) (h : TEP X e ρ μ fun x μ1 => ∃ p n d, Lend μ1 x p ∧ PD n p d ∧ d.showable = true ∧ d.hasDict = false ∧ d.depth ≤ 60 ∧ d.shown.length ≤ sizeLine ∧ Q (.sh (.str d.shown)) μ1) (hg : Gl X "repr" := by rfl) (hst : starEach [e] X.env = (false, eval e X.env) :: starEach [] X.env := by rfl) :
    TEP X (.Call (.Name "repr" p2) [e] [] pos) ρ μ Q :=
  tep_callB (call_reprD (hr.gd rfl) hr.u64) hg hm bo_repr (tap_cons (fun ad Hb H σ W N Q' g => h ad Hb H σ W N Q' fun v x μ1 ad1 Hb1 H1 ⟨p, n, d, hl, hd, hs, hn, hdp, hz, q⟩ s1 W1 r1 => g v x μ1 ad1 Hb1 H1 (tap_nil fun ad Hb H vs W r0 Q' g => by
    obtain ⟨v, rfl, r⟩ := vals1 r0
    exact ⟨v, d, rfl, lend_dp W hl hd r, hs, hn, hdp, hz, g.now W (x := .sh (.str _)) (.str _) q⟩) s1 W1 r1) hst) (by decide) (by decide) hst rfl
end
end PV

/-! Plain: links, paths, rings; the search through all rings. -/
namespace PV
open PySem PySem.Spec PyProof.Rows L2
/-- from, to, tokens, ticks -/
abbrev Lk := Nat × Nat × Int × Int
def lkI (l : Lk) : List Int := [(l.1 : Int), (l.2.1 : Int), l.2.2.1, l.2.2.2]
def lkP (l : Lk) : P := .tup ((lkI l).map .int)
theorem lkI_inj {a b : Lk} (h : lkI a = lkI b) : a = b := by
  obtain ⟨a1, a2, a3, a4⟩ := a
  obtain ⟨b1, b2, b3, b4⟩ := b
  simp only [lkI, List.cons.injEq, and_true] at h
  simp only [Prod.mk.injEq]
  omega
/-- a path along links, from a to b -/
def Path (ls : List Lk) : Nat → List Lk → Nat → Prop
  | a, [], b => a = b
  | a, l :: r, b => l ∈ ls ∧ l.1 = a ∧ Path ls l.2.1 r b
def outs (r : List Lk) : List Nat := r.map (·.1)
structure Ring (ls : List Lk) (a : Nat) (r : List Lk) : Prop where
  ne : r ≠ []
  path : Path ls a r a
  nd : (outs r).Nodup
def wt (w : Lk → Int) (r : List Lk) : Int := (r.map w).sum
section
variable {ls : List Lk} {w : Lk → Int}
theorem wt_app (r s : List Lk) : wt w (r ++ s) = wt w r + wt w s := by unfold wt; rw [List.map_append, List.sum_append]
theorem wt_cons (l : Lk) (s : List Lk) : wt w (l :: s) = w l + wt w s := by unfold wt; rw [List.map_cons, List.sum_cons]
theorem path_app : ∀ {a b : Nat} {r s : List Lk}, Path ls a (r ++ s) b ↔ ∃ c, Path ls a r c ∧ Path ls c s b
  | a, b, [], s => ⟨fun h => ⟨a, rfl, h⟩, fun ⟨c, h1, h2⟩ => by cases h1; exact h2⟩
  | a, b, l :: r, s => by
    show (l ∈ ls ∧ l.1 = a ∧ Path ls l.2.1 (r ++ s) b) ↔ ∃ c, (l ∈ ls ∧ l.1 = a ∧ Path ls l.2.1 r c) ∧ Path ls c s b
    rw [path_app]
    constructor
    · rintro ⟨h1, h2, c, h3, h4⟩; exact ⟨c, ⟨h1, h2, h3⟩, h4⟩
    · rintro ⟨c, ⟨h1, h2, h3⟩, h4⟩; exact ⟨h1, h2, c, h3, h4⟩
theorem path_mem : ∀ {a b : Nat} {r : List Lk}, Path ls a r b → ∀ l ∈ r, l ∈ ls
  | a, b, [], _, l, h => by simp at h
  | a, b, k :: r, ⟨h1, _, h3⟩, l, h => by
    rcases List.mem_cons.mp h with rfl | h
    · exact h1
    · exact path_mem h3 l h
theorem path_mono {ls' : List Lk} (h : ∀ l ∈ ls, l ∈ ls') : ∀ {a b : Nat} {r : List Lk}, Path ls a r b → Path ls' a r b
  | a, b, [], p => p
  | a, b, k :: r, ⟨h1, h2, h3⟩ => ⟨h k h1, h2, path_mono h h3⟩
/-- all ends below n -/
def InK (n : Nat) (ls : List Lk) : Prop := ∀ l ∈ ls, l.1 < n ∧ l.2.1 < n
theorem path_lt {n : Nat} (hin : InK n ls) : ∀ {a b : Nat} {r : List Lk}, Path ls a r b → r ≠ [] → a < n ∧ b < n
  | a, b, [], _, h => absurd rfl h
  | a, b, [k], ⟨h1, h2, h3⟩, _ => by cases h3; exact ⟨h2 ▸ (hin k h1).1, (hin k h1).2⟩
  | a, b, k :: l :: r, ⟨h1, h2, h3⟩, _ => ⟨h2 ▸ (hin k h1).1, (path_lt hin h3 (by simp)).2⟩
theorem nd_le {α : Type} [DecidableEq α] : ∀ (l m : List α), l.Nodup → (∀ x ∈ l, x ∈ m) → l.length ≤ m.length
  | [], m, _, _ => Nat.zero_le _
  | x :: l, m, h, k => by
    have hx := k x List.mem_cons_self
    have h1 := List.nodup_cons.mp h
    have h2 := nd_le l (m.erase x) h1.2 fun y hy => (List.mem_erase_of_ne (fun e : y = x => h1.1 (by rw [← e]; exact hy))).mpr (k y (List.mem_cons_of_mem _ hy))
    have h3 := List.length_erase_of_mem hx
    have h4 := List.length_pos_of_mem hx
    rw [List.length_cons]
    omega
theorem nat_nd_len {n : Nat} {l : List Nat} (h : l.Nodup) (k : ∀ x ∈ l, x < n) : l.length ≤ n := by
  have := nd_le l (List.range n) h fun x hx => List.mem_range.mpr (k x hx)
  simpa using this
theorem outs_lt {n : Nat} (hin : InK n ls) {a b : Nat} {r : List Lk} (p : Path ls a r b) : ∀ x ∈ outs r, x < n := fun x hx => by
  obtain ⟨l, hl, rfl⟩ := List.mem_map.mp hx
  exact (hin l (path_mem p l hl)).1
theorem outs_app (r s : List Lk) : outs (r ++ s) = outs r ++ outs s := List.map_append
/-- a path meets each event once, or holds a ring -/
theorem path_ring : ∀ {a b : Nat} {r : List Lk}, Path ls a r b → (outs r ++ [b]).Nodup ∨ ∃ x c y z, r = x ++ y ++ z ∧ Path ls a x c ∧ Ring ls c y ∧ Path ls c z b
  | a, b, [], _ => .inl (by simp [outs])
  | a, b, l :: r, ⟨h1, h2, h3⟩ => by
    rcases path_ring h3 with nd | ⟨x, c, y, z, e, p1, R, p2⟩
    · by_cases hm : l.1 ∈ outs r ++ [b]
      · refine .inr ?_
        -- back where it began
        obtain ⟨y, z, e, py, pz, ny⟩ : ∃ y z, r = y ++ z ∧ Path ls l.2.1 y l.1 ∧ Path ls l.1 z b ∧ l.1 ∉ outs y ∧ (outs y).Nodup := by
          rcases List.mem_append.mp hm with hm1 | hm1
          · obtain ⟨k, hk, ek⟩ := List.mem_map.mp hm1
            obtain ⟨y, z, e⟩ := List.append_of_mem hk
            rw [e] at h3
            obtain ⟨c, p1, p2⟩ := path_app.mp h3
            have ec : c = l.1 := p2.2.1.symm.trans ek
            subst ec
            have n2 := (List.nodup_append.mp nd).1
            rw [e, outs_app] at n2
            have n3 := List.nodup_append.mp n2
            refine ⟨y, k :: z, e, p1, p2, fun hy => n3.2.2 _ hy _ ?_ rfl, n3.1⟩
            show l.1 ∈ k.1 :: outs z
            rw [ek]
            exact List.mem_cons_self
          · have eb := List.mem_singleton.mp hm1
            have n2 := List.nodup_append.mp nd
            refine ⟨r, [], by simp, by rw [eb]; exact h3, eb, fun hy => n2.2.2 _ hy _ (List.mem_singleton.mpr rfl) eb, n2.1⟩
        refine ⟨[], a, l :: y, z, by rw [e]; rfl, rfl, ⟨by simp, ⟨h1, h2, by rw [← h2]; exact py⟩, ?_⟩, by rw [← h2]; exact pz⟩
        show (l.1 :: outs y).Nodup
        exact List.nodup_cons.mpr ny
      · refine .inl ?_
        show (l.1 :: (outs r ++ [b])).Nodup
        exact List.nodup_cons.mpr ⟨hm, nd⟩
    · exact .inr ⟨l :: x, c, y, z, by rw [e]; rfl, ⟨h1, h2, p1⟩, R, p2⟩
/-- where no ring is above 0, short paths do -/
theorem path_short {n : Nat} (hin : InK n ls) (hno : ∀ a r, Ring ls a r → wt w r ≤ 0) : ∀ (m : Nat) {a b : Nat} {r : List Lk}, r.length ≤ m → b < n → Path ls a r b → ∃ r', Path ls a r' b ∧ wt w r ≤ wt w r' ∧ r'.length + 1 ≤ n
  | m, a, b, r, hm, hb, p => by
    rcases path_ring p with nd | ⟨x, c, y, z, e, p1, R, p2⟩
    · refine ⟨r, p, Int.le_refl _, ?_⟩
      have h := nat_nd_len nd (n := n) fun x hx => by
        rcases List.mem_append.mp hx with h | h
        · exact outs_lt hin p x h
        · rw [List.mem_singleton.mp h]; exact hb
      simpa [outs] using h
    · have hy : 0 < y.length := List.length_pos_iff.mpr R.ne
      have hl : r.length = x.length + y.length + z.length := by rw [e]; simp; omega
      cases m with
      | zero => omega
      | succ m =>
        obtain ⟨r', q1, q2, q3⟩ := path_short hin hno m (a := a) (b := b) (r := x ++ z) (by rw [List.length_append]; omega) hb (path_app.mpr ⟨c, p1, p2⟩)
        refine ⟨r', q1, ?_, q3⟩
        have := hno c y R
        rw [e, wt_app, wt_app]
        rw [wt_app] at q2
        omega
theorem wt_perm {r s : List Lk} (h : r.Perm s) : wt w r = wt w s := by
  induction h with
  | nil => rfl
  | cons x _ ih => rw [wt_cons, wt_cons, ih]
  | swap x y l => rw [wt_cons, wt_cons, wt_cons, wt_cons]; omega
  | trans _ _ h1 h2 => exact h1.trans h2
theorem min_ex : ∀ {l : List Lk}, l ≠ [] → ∃ k ∈ l, ∀ m ∈ l, k.1 ≤ m.1
  | [], h => absurd rfl h
  | [a], _ => ⟨a, by simp, by simp⟩
  | a :: b :: l, _ => by
    obtain ⟨k, h1, h2⟩ := min_ex (l := b :: l) (by simp)
    by_cases h : a.1 ≤ k.1
    · refine ⟨a, by simp, fun m hm => ?_⟩
      rcases List.mem_cons.mp hm with rfl | hm
      · exact Nat.le_refl _
      · exact Nat.le_trans h (h2 m hm)
    · refine ⟨k, List.mem_cons_of_mem _ h1, fun m hm => ?_⟩
      rcases List.mem_cons.mp hm with rfl | hm
      · omega
      · exact h2 m hm
/-- a ring turned so that it begins at a least event -/
theorem ring_rot {a : Nat} {r : List Lk} (R : Ring ls a r) : ∃ f r', Ring ls f r' ∧ (∀ l ∈ r', f ≤ l.1) ∧ r'.Perm r := by
  obtain ⟨k, hk, hmin⟩ := min_ex R.ne
  obtain ⟨x, y, e⟩ := List.append_of_mem hk
  have p := R.path
  rw [e] at p
  obtain ⟨c, p1, p2⟩ := path_app.mp p
  have ec : c = k.1 := p2.2.1.symm
  have pm : ((k :: y) ++ x).Perm r := by rw [e]; exact List.perm_append_comm
  refine ⟨k.1, (k :: y) ++ x, ⟨by simp, ?_, ((pm.map (fun l : Lk => l.1)).nodup_iff).mpr R.nd⟩, fun l hl => hmin l (pm.mem_iff.mp hl), pm⟩
  subst ec
  exact path_app.mpr ⟨a, p2, p1⟩
theorem ring_turn {a : Nat} {l : Lk} {r : List Lk} (R : Ring ls a (l :: r)) : Ring ls l.2.1 (r ++ [l]) := by
  obtain ⟨h1, h2, h3⟩ := R.path
  have pm : (r ++ [l]).Perm (l :: r) := List.perm_append_comm
  exact ⟨by simp, path_app.mpr ⟨a, h3, h1, h2, rfl⟩, ((pm.map (fun l : Lk => l.1)).nodup_iff).mpr R.nd⟩
end
/-! ### the search -/
def lastTo (way : List Lk) : Nat := match way.getLast? with
  | some l => l.2.1
  | none => 0
theorem lastTo_app (x : List Lk) (l : Lk) : lastTo (x ++ [l]) = l.2.1 := by unfold lastTo; rw [List.getLast?_append]; rfl
theorem lastTo_path {ls : List Lk} : ∀ {a b : Nat} {r : List Lk}, Path ls a r b → r ≠ [] → lastTo r = b
  | a, b, [], _, h => absurd rfl h
  | a, b, [l], ⟨_, _, h3⟩, _ => h3
  | a, b, l :: k :: r, ⟨_, _, h3⟩, _ => by
    have := lastTo_path h3 (by simp)
    unfold lastTo at this ⊢
    rw [List.getLast?_cons_cons]
    exact this
def goesOn (way : List Lk) (f : Nat) (l : Lk) : Bool := decide (l.2.1 = f) || (decide (f < l.2.1) && !decide (l.2.1 ∈ outs way ++ [lastTo way]))
def longerL (ls : List Lk) (way : List Lk) (f : Nat) : List (List Lk) := ((ls.filter fun l => decide (l.1 = lastTo way)).filter (goesOn way f)).map fun l => way ++ [l]
def desc (ls : List Lk) (f : Nat) : Nat → List Lk → List (List Lk)
  | 0, way => if lastTo way = f then [way] else []
  | k + 1, way => if lastTo way = f then [way] else (longerL ls way f).reverse.flatMap (desc ls f k)
def cost (ls : List Lk) (f : Nat) : Nat → List Lk → Nat
  | 0, _ => 1
  | k + 1, way => if lastTo way = f then 1 else 1 + ((longerL ls way f).map (cost ls f k)).sum
def init (ls : List Lk) (f : Nat) : List (List Lk) := (ls.filter fun l => decide (l.1 = f) && decide (f ≤ l.2.1)).map fun l => [l]
def ringsFrom (n : Nat) (ls : List Lk) (f : Nat) : List (List Lk) := (init ls f).reverse.flatMap fun w => desc ls f (n - w.length) w
def firsts (ls : List Lk) : List Nat := (sortI (ls.map fun l => (l.1 : Int))).map Int.toNat
def ringsOf (n : Nat) (ls : List Lk) : List (List Lk) := (firsts ls).flatMap (ringsFrom n ls)
structure WayOk (ls : List Lk) (f : Nat) (way : List Lk) : Prop where
  ne : way ≠ []
  path : Path ls f way (lastTo way)
  nd : (outs way).Nodup
  ge : ∀ x ∈ outs way, f ≤ x
  off : lastTo way = f ∨ (f < lastTo way ∧ lastTo way ∉ outs way)
section
variable {ls : List Lk} {n f : Nat}
theorem WayOk.child {way : List Lk} (W : WayOk ls f way) (h : lastTo way ≠ f) {v : List Lk} (hv : v ∈ longerL ls way f) : WayOk ls f v ∧ v.length = way.length + 1 := by
  obtain ⟨l, hl, rfl⟩ := List.mem_map.mp hv
  obtain ⟨hl1, hl2⟩ := List.mem_filter.mp hl
  obtain ⟨hl3, hl4⟩ := List.mem_filter.mp hl1
  have hl4 := of_decide_eq_true hl4
  have ho : f < lastTo way ∧ lastTo way ∉ outs way := W.off.resolve_left h
  have hnd : (outs (way ++ [l])).Nodup := by
    rw [outs_app, List.nodup_append]
    refine ⟨W.nd, by simp [outs], fun a ha b hb => ?_⟩
    have : b = l.1 := by simpa [outs] using hb
    rw [this, hl4]
    exact fun z => ho.2 (z ▸ ha)
  refine ⟨⟨by simp, ?_, hnd, fun x hx => ?_, ?_⟩, by simp⟩
  · rw [lastTo_app]
    exact path_app.mpr ⟨_, W.path, hl3, hl4, rfl⟩
  · rw [outs_app] at hx
    rcases List.mem_append.mp hx with z | z
    · exact W.ge x z
    · have : x = l.1 := by simpa [outs] using z
      omega
  · rw [lastTo_app]
    unfold goesOn at hl2
    simp only [Bool.or_eq_true, Bool.and_eq_true, decide_eq_true_eq, Bool.not_eq_true', decide_eq_false_iff_not] at hl2
    rcases hl2 with z | ⟨z1, z2⟩
    · exact .inl z
    · refine .inr ⟨z1, fun z => z2 ?_⟩
      rw [outs_app] at z
      rcases List.mem_append.mp z with y | y
      · exact List.mem_append_left _ y
      · have : l.2.1 = l.1 := by simpa [outs] using y
        rw [this, hl4]
        exact List.mem_append_right _ (by simp)
theorem WayOk.short {way : List Lk} (W : WayOk ls f way) (h : lastTo way ≠ f) (hin : InK n ls) : way.length + 1 ≤ n := by
  have ho : f < lastTo way ∧ lastTo way ∉ outs way := W.off.resolve_left h
  have nd : (outs way ++ [lastTo way]).Nodup := by
    rw [List.nodup_append]
    exact ⟨W.nd, by simp, fun a ha b hb => by rw [List.mem_singleton.mp hb]; exact fun z => ho.2 (z ▸ ha)⟩
  have := nat_nd_len nd (n := n) fun x hx => by
    rcases List.mem_append.mp hx with z | z
    · exact outs_lt hin W.path x z
    · rw [List.mem_singleton.mp z]; exact (path_lt hin W.path W.ne).2
  simpa [outs] using this
theorem init_ok {v : List Lk} (hv : v ∈ init ls f) : WayOk ls f v ∧ v.length = 1 := by
  obtain ⟨l, hl, rfl⟩ := List.mem_map.mp hv
  obtain ⟨h1, h2⟩ := List.mem_filter.mp hl
  simp only [Bool.and_eq_true, decide_eq_true_eq] at h2
  refine ⟨⟨by simp, ⟨h1, h2.1, rfl⟩, by simp [outs], fun x hx => ?_, ?_⟩, rfl⟩
  · have : x = l.1 := by simpa [outs] using hx
    omega
  · have e : lastTo [l] = l.2.1 := rfl
    rw [e]
    by_cases c : l.2.1 = f
    · exact .inl c
    · refine .inr ⟨by omega, fun z => ?_⟩
      have : l.2.1 = l.1 := by simpa [outs] using z
      omega
theorem desc_closed {k : Nat} {way : List Lk} (h : lastTo way = f) : desc ls f k way = [way] := by
  cases k <;> simp [desc, h]
theorem cost_closed {k : Nat} {way : List Lk} (h : lastTo way = f) : cost ls f k way = 1 := by
  cases k <;> simp [cost, h]
theorem desc_open {k : Nat} {way : List Lk} (h : lastTo way ≠ f) : desc ls f (k + 1) way = (longerL ls way f).reverse.flatMap (desc ls f k) := by simp [desc, h]
theorem cost_open {k : Nat} {way : List Lk} (h : lastTo way ≠ f) : cost ls f (k + 1) way = 1 + ((longerL ls way f).map (cost ls f k)).sum := by simp [cost, h]
theorem desc_ring : ∀ {k : Nat} {way : List Lk}, WayOk ls f way → ∀ r ∈ desc ls f k way, Ring ls f r
  | 0, way, W, r, hr => by
    by_cases c : lastTo way = f
    · rw [desc_closed c] at hr
      rw [List.mem_singleton.mp hr]
      exact ⟨W.ne, by have := W.path; rwa [c] at this, W.nd⟩
    · simp [desc, c] at hr
  | k + 1, way, W, r, hr => by
    by_cases c : lastTo way = f
    · rw [desc_closed c] at hr
      rw [List.mem_singleton.mp hr]
      exact ⟨W.ne, by have := W.path; rwa [c] at this, W.nd⟩
    · rw [desc_open c] at hr
      obtain ⟨v, hv, hr⟩ := List.mem_flatMap.mp hr
      exact desc_ring (W.child c (List.mem_reverse.mp hv)).1 r hr
theorem desc_all (hin : InK n ls) : ∀ (rest way : List Lk), WayOk ls f way → Ring ls f (way ++ rest) → (∀ x ∈ outs (way ++ rest), f ≤ x) → way ++ rest ∈ desc ls f (n - way.length) way
  | [], way, W, R, _ => by
    rw [List.append_nil] at R ⊢
    rw [desc_closed (lastTo_path R.path W.ne)]
    simp
  | l :: rest, way, W, R, hge => by
    obtain ⟨c, p1, p2⟩ := path_app.mp R.path
    have ec := lastTo_path p1 W.ne
    have el : l.1 = lastTo way := p2.2.1.trans ec.symm
    have hnd := R.nd
    rw [outs_app] at hnd
    have hd := List.nodup_append.mp hnd
    have hf : f ∈ outs way := by
      cases way with
      | nil => exact absurd rfl W.ne
      | cons k r =>
        have := p1.2.1
        show f ∈ k.1 :: outs r
        rw [this]
        exact List.mem_cons_self
    have ho : lastTo way ≠ f := fun z => hd.2.2 f hf l.1 List.mem_cons_self (by rw [el, z])
    have hs := W.short ho hin
    obtain ⟨k, hk⟩ : ∃ k, n - way.length = k + 1 := ⟨n - way.length - 1, by omega⟩
    have e : way ++ l :: rest = (way ++ [l]) ++ rest := by simp
    have hv : way ++ [l] ∈ longerL ls way f := by
      refine List.mem_map.mpr ⟨l, List.mem_filter.mpr ⟨List.mem_filter.mpr ⟨p2.1, decide_eq_true el⟩, ?_⟩, rfl⟩
      unfold goesOn
      simp only [Bool.or_eq_true, Bool.and_eq_true, decide_eq_true_eq, Bool.not_eq_true', decide_eq_false_iff_not]
      cases rest with
      | nil => exact .inl p2.2.2
      | cons l2 rest =>
        refine .inr ?_
        have e2 : l2.1 = l.2.1 := p2.2.2.2.1
        have hm : l2.1 ∈ outs (way ++ l :: l2 :: rest) := by simp [outs]
        have hne : l2.1 ≠ f := fun z => hd.2.2 f hf l2.1 (by simp [outs]) z.symm
        have hge2 := hge _ hm
        refine ⟨by omega, fun z => ?_⟩
        rw [← e2] at z
        rcases List.mem_append.mp z with y | y
        · exact hd.2.2 _ y l2.1 (by simp [outs]) rfl
        · have y := List.mem_singleton.mp y
          have h3 := (List.nodup_cons.mp hd.2.1).1
          exact h3 (by show l.1 ∈ l2.1 :: outs rest; rw [el, ← y]; exact List.mem_cons_self)
    obtain ⟨W2, hl2⟩ := W.child ho hv
    have ih := desc_all hin rest (way ++ [l]) W2 (by rw [← e]; exact R) (by rw [← e]; exact hge)
    rw [hk, desc_open ho, e]
    refine List.mem_flatMap.mpr ⟨way ++ [l], List.mem_reverse.mpr hv, ?_⟩
    rw [hl2, show n - (way.length + 1) = k by omega] at ih
    exact ih
theorem firsts_mem {e : Nat} : e ∈ firsts ls ↔ ∃ l ∈ ls, l.1 = e := by
  unfold firsts
  rw [List.mem_map]
  constructor
  · rintro ⟨i, hi, rfl⟩
    rw [sortI_mem] at hi
    obtain ⟨l, hl, rfl⟩ := List.mem_map.mp hi
    exact ⟨l, hl, by simp⟩
  · rintro ⟨l, hl, rfl⟩
    exact ⟨(l.1 : Int), by rw [sortI_mem]; exact List.mem_map.mpr ⟨l, hl, rfl⟩, by simp⟩
theorem rings_sound {r : List Lk} (h : r ∈ ringsOf n ls) : ∃ f, Ring ls f r := by
  obtain ⟨f, _, h⟩ := List.mem_flatMap.mp h
  obtain ⟨w, hw, h⟩ := List.mem_flatMap.mp h
  exact ⟨f, desc_ring (init_ok (List.mem_reverse.mp hw)).1 r h⟩
theorem rings_all (hin : InK n ls) {a : Nat} {r : List Lk} (R : Ring ls a r) : ∃ r' ∈ ringsOf n ls, r'.Perm r := by
  obtain ⟨f, r', R', hge, pm⟩ := ring_rot R
  refine ⟨r', ?_, pm⟩
  cases r' with
  | nil => exact absurd rfl R'.ne
  | cons l rest =>
    have hl := R'.path
    have hf : l.1 = f := hl.2.1
    have hge2 : f ≤ l.2.1 := by
      cases rest with
      | nil => exact Nat.le_of_eq hl.2.2.symm
      | cons l2 rest =>
        have e2 : l2.1 = l.2.1 := hl.2.2.2.1
        rw [← e2]
        exact hge l2 (by simp)
    have hw : [l] ∈ init ls f := List.mem_map.mpr ⟨l, List.mem_filter.mpr ⟨hl.1, by simp [hf, hge2]⟩, rfl⟩
    have := desc_all hin rest [l] (init_ok hw).1 R' fun x hx => by
      obtain ⟨k, hk, rfl⟩ := List.mem_map.mp hx
      exact hge k hk
    exact List.mem_flatMap.mpr ⟨f, firsts_mem.mpr ⟨l, hl.1, hf⟩, List.mem_flatMap.mpr ⟨[l], List.mem_reverse.mpr hw, this⟩⟩
/-! ### how long it may be -/
theorem sum_le_mul {α : Type} (g : α → Nat) (B : Nat) : ∀ (l : List α), (∀ a ∈ l, g a ≤ B) → (l.map g).sum ≤ l.length * B
  | [], _ => by simp
  | a :: l, h => by
    have h1 := h a List.mem_cons_self
    have h2 := sum_le_mul g B l fun b hb => h b (List.mem_cons_of_mem _ hb)
    rw [List.map_cons, List.sum_cons, List.length_cons, Nat.add_mul]
    omega
theorem longer_len (way : List Lk) : (longerL ls way f).length ≤ ls.length := by
  unfold longerL
  rw [List.length_map]
  exact Nat.le_trans (List.length_filter_le _ _) (List.length_filter_le _ _)
theorem cost_le : ∀ (k : Nat) (way : List Lk), cost ls f k way ≤ (ls.length + 1) ^ k
  | 0, _ => by simp [cost]
  | k + 1, way => by
    have hp : 0 < (ls.length + 1) ^ k := Nat.pow_pos (Nat.succ_pos _)
    by_cases c : lastTo way = f
    · rw [cost_closed c]
      exact Nat.pow_pos (Nat.succ_pos _)
    · rw [cost_open c]
      have h1 := sum_le_mul (cost ls f k) ((ls.length + 1) ^ k) (longerL ls way f) fun v _ => cost_le k v
      have h2 : (longerL ls way f).length * (ls.length + 1) ^ k ≤ ls.length * (ls.length + 1) ^ k := Nat.mul_le_mul_right _ (longer_len way)
      rw [Nat.pow_succ, Nat.mul_add, Nat.mul_one, Nat.mul_comm _ ls.length]
      omega
theorem sum_flatMap_len {α β : Type} (g : α → List β) : ∀ l : List α, (l.flatMap g).length = (l.map fun a => (g a).length).sum
  | [] => rfl
  | a :: l => by rw [List.flatMap_cons, List.length_append, List.map_cons, List.sum_cons, sum_flatMap_len g l]
theorem desc_len : ∀ (k : Nat) (way : List Lk), (desc ls f k way).length ≤ cost ls f k way
  | 0, way => by
    by_cases c : lastTo way = f
    · rw [desc_closed c, cost_closed c]; exact Nat.le_refl _
    · simp [desc, cost, c]
  | k + 1, way => by
    by_cases c : lastTo way = f
    · rw [desc_closed c, cost_closed c]; exact Nat.le_refl _
    · rw [desc_open c, cost_open c, sum_flatMap_len, List.map_reverse, List.sum_reverse]
      have : ∀ l : List (List Lk), (l.map fun a => (desc ls f k a).length).sum ≤ (l.map (cost ls f k)).sum := fun l => by
        induction l with
        | nil => exact Nat.le_refl _
        | cons a l ih =>
          have := desc_len k a
          rw [List.map_cons, List.sum_cons, List.map_cons, List.sum_cons]
          omega
      have := this (longerL ls way f)
      omega
end
end PV

/-! Plain: heights by raising. -/
namespace PV
open PySem PySem.Spec PyProof.Rows L2
def gt (f : List Int) (i : Nat) : Int := f.getD i 0
def relax (w : Lk → Int) (f : List Int) (l : Lk) : List Int := f.set l.2.1 (max (gt f l.2.1) (gt f l.1 + w l))
def roundP (w : Lk → Int) (ls : List Lk) (f : List Int) : List Int := ls.foldl (relax w) f
def potGo (w : Lk → Int) (ls : List Lk) : Nat → List Int → Option (List Int)
  | 0, _ => none
  | k + 1, f => if roundP w ls f = f then some f else potGo w ls k (roundP w ls f)
def potOf (n : Nat) (ls : List Lk) (w : Lk → Int) : Option (List Int) := potGo w ls (n + 1) (List.replicate n 0)
section
variable {ls : List Lk} {w : Lk → Int} {n : Nat}
theorem gt_set (f : List Int) (i j : Nat) (v : Int) (h : i < f.length) : gt (f.set i v) j = if i = j then v else gt f j := by
  unfold gt
  rw [List.getD_eq_getElem?_getD, List.getElem?_set]
  by_cases c : i = j
  · subst c
    rw [if_pos rfl, if_pos h, if_pos rfl]
    rfl
  · rw [if_neg c, if_neg c, List.getD_eq_getElem?_getD]
theorem relax_len (f : List Int) (l : Lk) : (relax w f l).length = f.length := by unfold relax; rw [List.length_set]
theorem round_len : ∀ (ls : List Lk) (f : List Int), (roundP w ls f).length = f.length
  | [], f => rfl
  | l :: ls, f => by
    show (roundP w ls (relax w f l)).length = _
    rw [round_len ls, relax_len]
theorem relax_ge (f : List Int) (l : Lk) (i : Nat) : gt f i ≤ gt (relax w f l) i := by
  unfold relax
  by_cases h : l.2.1 < f.length
  · rw [gt_set _ _ _ _ h]
    split
    · rename_i c; subst c; exact Int.le_max_left _ _
    · exact Int.le_refl _
  · rw [List.set_eq_of_length_le (by omega)]
    exact Int.le_refl _
theorem relax_at (f : List Int) (l : Lk) (h : l.2.1 < f.length) : gt f l.1 + w l ≤ gt (relax w f l) l.2.1 := by
  unfold relax
  rw [gt_set _ _ _ _ h, if_pos rfl]
  exact Int.le_max_right _ _
theorem round_ge : ∀ (ls : List Lk) (f : List Int) (i : Nat), gt f i ≤ gt (roundP w ls f) i
  | [], f, i => Int.le_refl _
  | l :: ls, f, i => Int.le_trans (relax_ge f l i) (round_ge ls (relax w f l) i)
theorem round_app (l1 l2 : List Lk) (f : List Int) : roundP w (l1 ++ l2) f = roundP w l2 (roundP w l1 f) := List.foldl_append
theorem round_at (hin : InK n ls) {f : List Int} (hf : f.length = n) {l : Lk} (hl : l ∈ ls) : gt f l.1 + w l ≤ gt (roundP w ls f) l.2.1 := by
  obtain ⟨l1, l2, e⟩ := List.append_of_mem hl
  have h1 := round_ge (w := w) l1 f l.1
  have h2 := relax_at (w := w) (roundP w l1 f) l (by rw [round_len, hf]; exact (hin l hl).2)
  have h3 := round_ge (w := w) l2 (relax w (roundP w l1 f) l) l.2.1
  have e2 : roundP w ls f = roundP w l2 (relax w (roundP w l1 f) l) := by rw [e, round_app]; rfl
  rw [e2]
  omega
theorem fix_path (hin : InK n ls) {f : List Int} (hf : f.length = n) (hx : roundP w ls f = f) : ∀ {a b : Nat} {r : List Lk}, Path ls a r b → gt f a + wt w r ≤ gt f b
  | a, b, [], h => by cases h; simp [wt]
  | a, b, l :: r, ⟨h1, h2, h3⟩ => by
    have := fix_path hin hf hx h3
    have h4 := round_at (w := w) hin hf h1
    rw [hx, h2] at h4
    rw [wt_cons]
    omega
theorem go_fix : ∀ (k : Nat) {f g : List Int}, f.length = n → potGo w ls k f = some g → g.length = n ∧ roundP w ls g = g
  | 0, f, g, _, h => by cases h
  | k + 1, f, g, hf, h => by
    unfold potGo at h
    by_cases c : roundP w ls f = f
    · rw [if_pos c] at h
      cases h
      exact ⟨hf, c⟩
    · rw [if_neg c] at h
      exact go_fix k ((round_len ls f).trans hf) h
/-- heights: no ring is above 0 -/
theorem pot_some (hin : InK n ls) {g : List Int} (h : potOf n ls w = some g) {a : Nat} {r : List Lk} (R : Ring ls a r) : wt w r ≤ 0 := by
  obtain ⟨h1, h2⟩ := go_fix (n := n) _ (by simp) h
  have := fix_path hin h1 h2 R.path
  omega
def Att (w : Lk → Int) (n : Nat) (ls : List Lk) (f : List Int) : Prop := ∀ e, e < n → ∃ a r, Path ls a r e ∧ gt f e = wt w r
theorem att_relax (hin : InK n ls) {f : List Int} (hf : f.length = n) (h : Att w n ls f) {l : Lk} (hl : l ∈ ls) : Att w n ls (relax w f l) := fun e he => by
  unfold relax
  rw [gt_set _ _ _ _ (by rw [hf]; exact (hin l hl).2)]
  by_cases c : l.2.1 = e
  · rw [if_pos c]
    by_cases m : gt f l.2.1 ≤ gt f l.1 + w l
    · rw [Int.max_eq_right m]
      obtain ⟨a, r, p, q⟩ := h l.1 (hin l hl).1
      exact ⟨a, r ++ [l], path_app.mpr ⟨_, p, hl, rfl, c⟩, by rw [wt_app, ← q, wt_cons]; simp [wt]⟩
    · rw [Int.max_eq_left (by omega)]
      rw [c]
      exact h e he
  · rw [if_neg c]
    exact h e he
theorem att_round (hin : InK n ls) : ∀ (l1 : List Lk) {f : List Int}, (∀ l ∈ l1, l ∈ ls) → f.length = n → Att w n ls f → Att w n ls (roundP w l1 f)
  | [], f, _, _, h => h
  | l :: l1, f, hs, hf, h => att_round hin l1 (fun k hk => hs k (List.mem_cons_of_mem _ hk)) ((relax_len f l).trans hf) (att_relax hin hf h (hs l List.mem_cons_self))
def Cov (w : Lk → Int) (n : Nat) (ls : List Lk) (k : Nat) (f : List Int) : Prop := ∀ a b r, Path ls a r b → b < n → r.length ≤ k → wt w r ≤ gt f b
theorem cov_round (hin : InK n ls) {f : List Int} (hf : f.length = n) {k : Nat} (h : Cov w n ls k f) : Cov w n ls (k + 1) (roundP w ls f) := fun a b r p hb hl => by
  rcases List.eq_nil_or_concat r with rfl | ⟨r', l, rfl⟩
  · exact Int.le_trans (h a b [] p hb (Nat.zero_le _)) (round_ge ls f b)
  · rw [List.concat_eq_append] at p hl ⊢
    obtain ⟨c, p1, p2⟩ := path_app.mp p
    have ec : c = l.1 := p2.2.1.symm
    have eb : l.2.1 = b := p2.2.2
    subst ec
    have h1 := h a l.1 r' p1 (hin l p2.1).1 (by simpa using hl)
    have h2 := round_at (w := w) hin hf p2.1
    rw [eb] at h2
    rw [wt_app, wt_cons]
    simp only [wt, List.map_nil, List.sum_nil] at h1 ⊢
    omega
theorem go_some (hin : InK n ls) (hno : ∀ a r, Ring ls a r → wt w r ≤ 0) : ∀ (m k : Nat) {f : List Int}, f.length = n → Att w n ls f → Cov w n ls k f → n ≤ k + m → 1 ≤ m → ∃ g, potGo w ls m f = some g
  | 0, _, _, _, _, _, _, h => by omega
  | m + 1, k, f, hf, hA, hC, hk, _ => by
    unfold potGo
    by_cases c : roundP w ls f = f
    · exact ⟨f, if_pos c⟩
    · rw [if_neg c]
      by_cases hm : m = 0
      · refine absurd (List.ext_getElem? fun i => ?_) c
        by_cases hi : i < n
        · have e1 : ∀ g : List Int, g.length = n → g[i]? = some (gt g i) := fun g hg => by
            unfold gt
            rw [List.getD_eq_getElem?_getD, List.getElem?_eq_getElem (by omega)]
            rfl
          rw [e1 _ ((round_len ls f).trans hf), e1 _ hf]
          congr 1
          obtain ⟨a, r, p, q⟩ := att_round hin ls (fun l h => h) hf hA i hi
          obtain ⟨r', p', q', h'⟩ := path_short hin hno r.length (Nat.le_refl _) hi p
          have h1 := hC a i r' p' hi (by omega)
          have h2 := round_ge (w := w) ls f i
          omega
        · rw [List.getElem?_eq_none (by rw [round_len]; omega), List.getElem?_eq_none (by omega)]
      · exact go_some hin hno m (k + 1) ((round_len ls f).trans hf) (att_round hin ls (fun l h => h) hf hA) (cov_round hin hf hC) (by omega) (by omega)
/-- no ring is above 0: heights -/
theorem pot_ex (hin : InK n ls) (hno : ∀ a r, Ring ls a r → wt w r ≤ 0) : ∃ g, potOf n ls w = some g := by
  have z : ∀ e, gt (List.replicate n 0) e = 0 := fun e => by
    unfold gt
    rw [List.getD_eq_getElem?_getD, List.getElem?_replicate]
    split <;> rfl
  refine go_some hin hno (n + 1) 0 (by simp) (fun e he => ⟨e, [], rfl, by rw [z]; rfl⟩) (fun a b r p hb hl => ?_) (by omega) (by omega)
  rw [z]
  have : r = [] := List.length_eq_zero_iff.mp (Nat.le_zero.mp hl)
  subst this
  exact Int.le_refl _
end
end PV

/-! Plain: fractions; what rings ask. -/
namespace PV
open PySem PySem.Spec PyProof.Rows L2
abbrev Fr := Int × Int
def gcdI (a b : Int) : Int := (Nat.gcd a.natAbs b.natAbs : Nat)
def lowP (a b : Int) : Fr := (a / (if 0 < b then gcdI a b else 0 - gcdI a b), b / (if 0 < b then gcdI a b else 0 - gcdI a b))
def below (a b : Fr) : Bool := decide (a.1 * b.2 < b.1 * a.2)
def leF (a b : Fr) : Prop := a.1 * b.2 ≤ b.1 * a.2
theorem below_no {a b : Fr} : below a b = false ↔ leF b a := by
  unfold below leF
  rw [decide_eq_false_iff_not, Int.not_lt]
theorem below_yes {a b : Fr} : below a b = true ↔ ¬ leF b a := by
  unfold below leF
  rw [decide_eq_true_eq, Int.not_le]
theorem gcd_pos {a b : Int} (h : b ≠ 0) : 0 < gcdI a b := by
  unfold gcdI
  have : 0 < Nat.gcd a.natAbs b.natAbs := Nat.gcd_pos_of_pos_right _ (by omega)
  omega
theorem gcd_dvd1 (a b : Int) : gcdI a b ∣ a := by
  unfold gcdI
  exact Int.ofNat_dvd_left.mpr (Nat.gcd_dvd_left _ _)
theorem gcd_dvd2 (a b : Int) : gcdI a b ∣ b := by
  unfold gcdI
  exact Int.ofNat_dvd_left.mpr (Nat.gcd_dvd_right _ _)
structure Low (a b : Int) (p : Fr) (c : Int) : Prop where
  c0 : c ≠ 0
  e1 : a = p.1 * c
  e2 : b = p.2 * c
  pos : 0 < p.2
  cop : Nat.gcd p.1.natAbs p.2.natAbs = 1
  sgn : (0 < c ↔ 0 < b)
theorem low_spec {a b : Int} (h : b ≠ 0) : ∃ c, Low a b (lowP a b) c := by
  have hg := gcd_pos (a := a) h
  have d1 := gcd_dvd1 a b
  have d2 := gcd_dvd2 a b
  have main : ∀ c : Int, (c = gcdI a b ∧ 0 < b) ∨ (c = -gcdI a b ∧ b < 0) → Low a b (a / c, b / c) c := by
    intro c hc
    have c0 : c ≠ 0 := by rcases hc with ⟨h, _⟩ | ⟨h, _⟩ <;> omega
    have e1 : a = a / c * c := by
      refine (Int.ediv_mul_cancel ?_).symm
      rcases hc with ⟨h, _⟩ | ⟨h, _⟩
      · rw [h]; exact d1
      · rw [h]; exact Int.neg_dvd.mpr d1
    have e2 : b = b / c * c := by
      refine (Int.ediv_mul_cancel ?_).symm
      rcases hc with ⟨h, _⟩ | ⟨h, _⟩
      · rw [h]; exact d2
      · rw [h]; exact Int.neg_dvd.mpr d2
    have nc : c.natAbs = Nat.gcd a.natAbs b.natAbs := by
      rcases hc with ⟨h, _⟩ | ⟨h, _⟩ <;> · rw [h]; unfold gcdI; simp
    refine ⟨c0, e1, e2, ?_, ?_, ?_⟩
    · show 0 < b / c
      rcases hc with ⟨h1, h2⟩ | ⟨h1, h2⟩
      · rcases Int.lt_trichotomy (b / c) 0 with z | z | z
        · have := Int.mul_neg_of_neg_of_pos z (show (0 : Int) < c by omega)
          omega
        · rw [z] at e2; omega
        · exact z
      · rcases Int.lt_trichotomy (b / c) 0 with z | z | z
        · have := Int.mul_pos_of_neg_of_neg z (show c < 0 by omega)
          omega
        · rw [z] at e2; omega
        · exact z
    · show Nat.gcd (a / c).natAbs (b / c).natAbs = 1
      have h1 : a.natAbs = (a / c).natAbs * c.natAbs := by rw [← Int.natAbs_mul, ← e1]
      have h2 : b.natAbs = (b / c).natAbs * c.natAbs := by rw [← Int.natAbs_mul, ← e2]
      have h3 : Nat.gcd a.natAbs b.natAbs = Nat.gcd (a / c).natAbs (b / c).natAbs * c.natAbs := by
        rw [h1, h2, Nat.gcd_mul_right]
      have h4 : 0 < c.natAbs := by omega
      rw [← nc] at h3
      have h5 : 1 * c.natAbs = Nat.gcd (a / c).natAbs (b / c).natAbs * c.natAbs := by omega
      exact (Nat.eq_of_mul_eq_mul_right h4 h5).symm
    · rcases hc with ⟨h1, h2⟩ | ⟨h1, h2⟩ <;> omega
  unfold lowP
  by_cases hb : 0 < b
  · rw [if_pos hb]
    exact ⟨_, main _ (.inl ⟨rfl, hb⟩)⟩
  · rw [if_neg hb]
    exact ⟨_, main _ (.inr ⟨by omega, by omega⟩)⟩
theorem mul_pos_le {a b c : Int} (hc : 0 < c) : a * c ≤ b * c ↔ a ≤ b := ⟨fun h => Int.le_of_mul_le_mul_right h hc, fun h => Int.mul_le_mul_of_nonneg_right h (Int.le_of_lt hc)⟩
theorem leF_trans {a b c : Fr} (hb : 0 < b.2) (ha : 0 < a.2) (hc : 0 < c.2) (h1 : leF a b) (h2 : leF b c) : leF a c := by
  unfold leF at *
  have k1 : a.1 * b.2 * c.2 ≤ b.1 * a.2 * c.2 := (mul_pos_le hc).mpr h1
  have k2 : b.1 * c.2 * a.2 ≤ c.1 * b.2 * a.2 := (mul_pos_le ha).mpr h2
  have k3 : a.1 * c.2 * b.2 ≤ c.1 * a.2 * b.2 := by
    have e1 : a.1 * b.2 * c.2 = a.1 * c.2 * b.2 := by ac_rfl
    have e2 : b.1 * a.2 * c.2 = b.1 * c.2 * a.2 := by ac_rfl
    have e3 : c.1 * b.2 * a.2 = c.1 * a.2 * b.2 := by ac_rfl
    omega
  exact (mul_pos_le hb).mp k3
theorem leF_refl (a : Fr) : leF a a := Int.le_refl _
theorem leF_total (a b : Fr) : leF a b ∨ leF b a := Int.le_total _ _
theorem low_uniq {p q : Fr} (hp : 0 < p.2) (hq : 0 < q.2) (cp : Nat.gcd p.1.natAbs p.2.natAbs = 1) (cq : Nat.gcd q.1.natAbs q.2.natAbs = 1) (h : p.1 * q.2 = q.1 * p.2) : p = q := by
  have hn : p.1.natAbs * q.2.natAbs = q.1.natAbs * p.2.natAbs := by rw [← Int.natAbs_mul, ← Int.natAbs_mul, h]
  have d1 : p.2.natAbs ∣ q.2.natAbs := by
    have : p.2.natAbs ∣ p.1.natAbs * q.2.natAbs := by rw [hn]; exact Nat.dvd_mul_left _ _
    exact Nat.Coprime.dvd_of_dvd_mul_left (show Nat.Coprime p.2.natAbs p.1.natAbs by rw [Nat.coprime_comm]; exact cp) this
  have d2 : q.2.natAbs ∣ p.2.natAbs := by
    have : q.2.natAbs ∣ q.1.natAbs * p.2.natAbs := by rw [← hn]; exact Nat.dvd_mul_left _ _
    exact Nat.Coprime.dvd_of_dvd_mul_left (show Nat.Coprime q.2.natAbs q.1.natAbs by rw [Nat.coprime_comm]; exact cq) this
  have e := Nat.dvd_antisymm d1 d2
  have e2 : p.2 = q.2 := by omega
  have e1 : p.1 = q.1 := by
    rw [← e2] at h
    exact Int.eq_of_mul_eq_mul_right (by omega) h
  exact Prod.ext e1 e2
/-! ### rings and rates -/
def tks (r : List Lk) : Int := wt (fun l => l.2.2.2) r
def tok (r : List Lk) : Int := wt (fun l => l.2.2.1) r
def askL (r : List Lk) : Fr := lowP (tks r) (tok r)
def wOf (p : Fr) (l : Lk) : Int := l.2.2.2 * p.2 - l.2.2.1 * p.1
theorem wt_wOf (p : Fr) : ∀ r : List Lk, wt (wOf p) r = tks r * p.2 - tok r * p.1
  | [] => by simp [wt, tks, tok]
  | l :: r => by
    have ih := wt_wOf p r
    unfold tks tok at ih ⊢
    rw [wt_cons, wt_cons, wt_cons, ih, Int.add_mul, Int.add_mul]
    unfold wOf
    omega
theorem ask_low {r : List Lk} (h : tok r ≠ 0) : ∃ c, Low (tks r) (tok r) (askL r) c := low_spec h
theorem ask_pos {r : List Lk} (h : tok r ≠ 0) : 0 < (askL r).2 := by
  obtain ⟨c, L⟩ := ask_low h
  exact L.pos
/-- a rate below what a ring asks at least -/
theorem over_lo {r : List Lk} (h : 0 < tok r) (p : Fr) : 0 < wt (wOf p) r ↔ below p (askL r) = true := by
  obtain ⟨c, L⟩ := ask_low (r := r) (by omega)
  have hc := L.sgn.mpr h
  rw [wt_wOf, below, decide_eq_true_eq]
  have e1 : tks r * p.2 = (askL r).1 * p.2 * c := by rw [L.e1]; ac_rfl
  have e2 : tok r * p.1 = p.1 * (askL r).2 * c := by rw [L.e2]; ac_rfl
  constructor
  · intro z
    rcases Int.lt_or_le (p.1 * (askL r).2) ((askL r).1 * p.2) with k | k
    · exact k
    · have := (mul_pos_le hc).mpr k
      omega
  · intro z
    have := Int.mul_lt_mul_of_pos_right z hc
    omega
/-- a rate above what a ring asks at most -/
theorem over_hi {r : List Lk} (h : tok r < 0) (p : Fr) : 0 < wt (wOf p) r ↔ below (askL r) p = true := by
  obtain ⟨c, L⟩ := ask_low (r := r) (by omega)
  have hc : 0 < -c := by
    have h1 := L.sgn
    have h2 := L.c0
    omega
  rw [wt_wOf, below, decide_eq_true_eq]
  have e1 : tks r * p.2 = -((askL r).1 * p.2 * (-c)) := by rw [L.e1, Int.mul_neg, Int.neg_neg]; ac_rfl
  have e2 : tok r * p.1 = -(p.1 * (askL r).2 * (-c)) := by rw [L.e2, Int.mul_neg, Int.neg_neg]; ac_rfl
  constructor
  · intro z
    rcases Int.lt_or_le ((askL r).1 * p.2) (p.1 * (askL r).2) with k | k
    · exact k
    · have := (mul_pos_le hc).mpr k
      omega
  · intro z
    have := Int.mul_lt_mul_of_pos_right z hc
    omega
/-! ### the bounds of rings -/
abbrev ORg := Option (List Lk)
def bstep (s : ORg × ORg × ORg) (r : List Lk) : ORg × ORg × ORg :=
  (if decide (0 < tok r) && (match s.1 with | none => true | some q => below (askL q) (askL r)) then some r else s.1,
   if decide (tok r < 0) && (match s.2.1 with | none => true | some q => below (askL r) (askL q)) then some r else s.2.1,
   if decide (tok r = 0) && (decide (0 < tks r) && s.2.2.isNone) then some r else s.2.2)
def boundsL (rs : List (List Lk)) : ORg × ORg × ORg := rs.foldl bstep (none, none, none)
structure BSpec (rs : List (List Lk)) (s : ORg × ORg × ORg) : Prop where
  lo0 : s.1 = none → ∀ r ∈ rs, ¬ 0 < tok r
  lo : ∀ q, s.1 = some q → q ∈ rs ∧ 0 < tok q ∧ ∀ r ∈ rs, 0 < tok r → leF (askL r) (askL q)
  up0 : s.2.1 = none → ∀ r ∈ rs, ¬ tok r < 0
  up : ∀ q, s.2.1 = some q → q ∈ rs ∧ tok q < 0 ∧ ∀ r ∈ rs, tok r < 0 → leF (askL q) (askL r)
  nv0 : s.2.2 = none → ∀ r ∈ rs, tok r = 0 → ¬ 0 < tks r
  nv : ∀ q, s.2.2 = some q → q ∈ rs ∧ tok q = 0 ∧ 0 < tks q
theorem bspec_step {rs : List (List Lk)} {s : ORg × ORg × ORg} (B : BSpec rs s) (r : List Lk) : BSpec (rs ++ [r]) (bstep s r) := by
  have mem : ∀ {q : List Lk}, q ∈ rs ++ [r] → q ∈ rs ∨ q = r := fun h => by simpa using h
  have inl : ∀ {q : List Lk}, q ∈ rs → q ∈ rs ++ [r] := fun h => List.mem_append_left _ h
  have inr : r ∈ rs ++ [r] := List.mem_append_right _ (by simp)
  refine ⟨fun h => ?_, fun q h => ?_, fun h => ?_, fun q h => ?_, fun h => ?_, fun q h => ?_⟩
  · unfold bstep at h
    by_cases c : 0 < tok r
    · cases e : s.1 with
      | none => simp [c, e] at h
      | some q =>
        simp only [e, c, decide_true, Bool.true_and] at h
        split at h <;> cases h
    · simp only [c, decide_false, Bool.false_and, Bool.false_eq_true, if_false] at h
      intro x hx
      rcases mem hx with z | rfl
      · exact B.lo0 h x z
      · exact c
  · unfold bstep at h
    by_cases c : 0 < tok r
    · cases e : s.1 with
      | none =>
        simp only [e, c, decide_true, Bool.true_and, if_true, Option.some.injEq] at h
        subst h
        refine ⟨inr, c, fun x hx hp => ?_⟩
        rcases mem hx with z | rfl
        · exact absurd hp (B.lo0 e x z)
        · exact leF_refl _
      | some q0 =>
        obtain ⟨h1, h2, h3⟩ := B.lo q0 e
        simp only [e, c, decide_true, Bool.true_and] at h
        by_cases d : below (askL q0) (askL r) = true
        · rw [if_pos d] at h
          cases h
          refine ⟨inr, c, fun x hx hp => ?_⟩
          rcases mem hx with z | rfl
          · have k := (leF_total (askL q0) (askL r)).resolve_right (below_yes.mp d)
            exact leF_trans (ask_pos (by omega)) (ask_pos (by omega)) (ask_pos (by omega)) (h3 x z hp) k
          · exact leF_refl _
        · rw [if_neg d] at h
          cases h
          refine ⟨inl h1, h2, fun x hx hp => ?_⟩
          rcases mem hx with z | rfl
          · exact h3 x z hp
          · exact below_no.mp (by simpa using d)
    · simp only [c, decide_false, Bool.false_and, Bool.false_eq_true, if_false] at h
      obtain ⟨h1, h2, h3⟩ := B.lo q h
      refine ⟨inl h1, h2, fun x hx hp => ?_⟩
      rcases mem hx with z | rfl
      · exact h3 x z hp
      · exact absurd hp c
  · unfold bstep at h
    by_cases c : tok r < 0
    · cases e : s.2.1 with
      | none => simp [c, e] at h
      | some q =>
        simp only [e, c, decide_true, Bool.true_and] at h
        split at h <;> cases h
    · simp only [c, decide_false, Bool.false_and, Bool.false_eq_true, if_false] at h
      intro x hx
      rcases mem hx with z | rfl
      · exact B.up0 h x z
      · exact c
  · unfold bstep at h
    by_cases c : tok r < 0
    · cases e : s.2.1 with
      | none =>
        simp only [e, c, decide_true, Bool.true_and, if_true, Option.some.injEq] at h
        subst h
        refine ⟨inr, c, fun x hx hp => ?_⟩
        rcases mem hx with z | rfl
        · exact absurd hp (B.up0 e x z)
        · exact leF_refl _
      | some q0 =>
        obtain ⟨h1, h2, h3⟩ := B.up q0 e
        simp only [e, c, decide_true, Bool.true_and] at h
        by_cases d : below (askL r) (askL q0) = true
        · rw [if_pos d] at h
          cases h
          refine ⟨inr, c, fun x hx hp => ?_⟩
          rcases mem hx with z | rfl
          · have k := (leF_total (askL r) (askL q0)).resolve_right (below_yes.mp d)
            exact leF_trans (ask_pos (by omega)) (ask_pos (by omega)) (ask_pos (by omega)) k (h3 x z hp)
          · exact leF_refl _
        · rw [if_neg d] at h
          cases h
          refine ⟨inl h1, h2, fun x hx hp => ?_⟩
          rcases mem hx with z | rfl
          · exact h3 x z hp
          · exact below_no.mp (by simpa using d)
    · simp only [c, decide_false, Bool.false_and, Bool.false_eq_true, if_false] at h
      obtain ⟨h1, h2, h3⟩ := B.up q h
      refine ⟨inl h1, h2, fun x hx hp => ?_⟩
      rcases mem hx with z | rfl
      · exact h3 x z hp
      · exact absurd hp c
  · unfold bstep at h
    intro x hx h0 h1
    cases e : s.2.2 with
    | none =>
      rcases mem hx with z | rfl
      · exact B.nv0 e x z h0 h1
      · simp [h0, h1, e] at h
    | some q => simp [e] at h
  · unfold bstep at h
    cases e : s.2.2 with
    | none =>
      by_cases c : tok r = 0 ∧ 0 < tks r
      · simp [e, c.1, c.2] at h
        subst h
        exact ⟨inr, c.1, c.2⟩
      · simp only [e, Option.isNone_none, Bool.and_true] at h
        rw [if_neg (by simpa using c)] at h
        cases h
    | some q0 =>
      simp [e] at h
      subst h
      obtain ⟨h1, h2⟩ := B.nv _ e
      exact ⟨inl h1, h2⟩
theorem bspec_go : ∀ (l rs : List (List Lk)) (s : ORg × ORg × ORg), BSpec rs s → BSpec (rs ++ l) (l.foldl bstep s)
  | [], rs, s, B => by simpa using B
  | r :: l, rs, s, B => by
    have := bspec_go l (rs ++ [r]) (bstep s r) (bspec_step B r)
    rw [List.append_assoc] at this
    exact this
theorem bspec (rs : List (List Lk)) : BSpec rs (boundsL rs) := by
  have := bspec_go rs [] (none, none, none) ⟨fun _ r h => by simp at h, fun q h => (by cases h), fun _ r h => by simp at h, fun q h => (by cases h), fun _ r h => by simp at h, fun q h => (by cases h)⟩
  rw [List.nil_append] at this
  exact this
def emptyL (s : ORg × ORg × ORg) : Bool := s.2.2.isSome || (match s.2.1, s.1 with | some u, some l => below (askL u) (askL l) | _, _ => false)
end PV

/-! Plain: periods there are, or a clash. -/
namespace PV
open PySem PySem.Spec PyProof.Rows L2
def Feas (ls : List Lk) (p : Fr) : Prop := ∀ a r, Ring ls a r → wt (wOf p) r ≤ 0
def bnds (n : Nat) (ls : List Lk) : ORg × ORg × ORg := boundsL (ringsOf n ls)
section
variable {ls ls' : List Lk} {n : Nat}
theorem tks_perm {r s : List Lk} (h : r.Perm s) : tks r = tks s := wt_perm h
theorem tok_perm {r s : List Lk} (h : r.Perm s) : tok r = tok s := wt_perm h
theorem ask_perm {r s : List Lk} (h : r.Perm s) : askL r = askL s := by unfold askL; rw [tks_perm h, tok_perm h]
theorem feas_of (hin : InK n ls) {lo : List Lk} (hlo : (bnds n ls).1 = some lo) (he : emptyL (bnds n ls) = false) : Feas ls (askL lo) := fun a r R => by
  have B := bspec (ringsOf n ls)
  obtain ⟨r', hr, pm⟩ := rings_all hin R
  obtain ⟨h1, h2, h3⟩ := B.lo lo hlo
  rw [← wt_perm pm]
  unfold emptyL at he
  rw [Bool.or_eq_false_iff] at he
  refine Int.not_lt.mp fun z => ?_
  rcases Int.lt_trichotomy (tok r') 0 with k | k | k
  · have h4 := (over_hi k _).mp z
    cases e : (bnds n ls).2.1 with
    | none => exact B.up0 e r' hr k
    | some u =>
      obtain ⟨g1, g2, g3⟩ := B.up u e
      have he2 := he.2
      rw [e, hlo] at he2
      exact below_yes.mp h4 (leF_trans (ask_pos (by omega)) (ask_pos (by omega)) (ask_pos (by omega)) (below_no.mp he2) (g3 r' hr k))
  · cases e : (bnds n ls).2.2 with
    | none =>
      have h5 := B.nv0 e r' hr k
      rw [wt_wOf, k, Int.zero_mul] at z
      have hp := ask_pos (r := lo) (by omega)
      have : tks r' * (askL lo).2 ≤ 0 * (askL lo).2 := Int.mul_le_mul_of_nonneg_right (by omega) (by omega)
      omega
    | some q =>
      have he1 := he.1
      rw [e] at he1
      cases he1
  · exact below_yes.mp ((over_lo k _).mp z) (h3 r' hr k)
theorem infeas_of {lo : List Lk} (hlo : (bnds n ls).1 = some lo) (he : emptyL (bnds n ls) = true) {p : Fr} (hp : 0 < p.2) : ¬ Feas ls p := fun F => by
  have B := bspec (ringsOf n ls)
  obtain ⟨h1, h2, h3⟩ := B.lo lo hlo
  unfold emptyL at he
  rw [Bool.or_eq_true] at he
  rcases he with he | he
  · obtain ⟨q, hq⟩ := Option.isSome_iff_exists.mp he
    obtain ⟨g1, g2, g3⟩ := B.nv q hq
    obtain ⟨f, R⟩ := rings_sound g1
    have := F f q R
    rw [wt_wOf, g2, Int.zero_mul] at this
    have h4 := Int.mul_pos g3 hp
    omega
  · cases e : (bnds n ls).2.1 with
    | none => rw [e] at he; cases he
    | some u =>
      rw [e, hlo] at he
      obtain ⟨g1, g2, g3⟩ := B.up u e
      obtain ⟨f, R⟩ := rings_sound g1
      obtain ⟨f2, R2⟩ := rings_sound h1
      have k1 := F f u R
      have k2 := F f2 lo R2
      have m1 : ¬ below p (askL lo) = true := fun z => by
        have := (over_lo h2 p).mpr z
        omega
      have m2 : ¬ below (askL u) p = true := fun z => by
        have := (over_hi g2 p).mpr z
        omega
      exact below_yes.mp he (leF_trans hp (ask_pos (by omega)) (ask_pos (by omega)) (below_no.mp (by simpa using m1)) (below_no.mp (by simpa using m2)))
/-- links of which each is let more -/
def Wid (ls' ls : List Lk) : Prop := ∀ l' ∈ ls', ∃ l ∈ ls, l.1 = l'.1 ∧ l.2.1 = l'.2.1 ∧ l.2.2.1 = l'.2.2.1 ∧ l'.2.2.2 ≤ l.2.2.2
theorem wid_path (h : Wid ls' ls) {p : Fr} (hp : 0 ≤ p.2) : ∀ {a b : Nat} {r : List Lk}, Path ls' a r b → ∃ s, Path ls a s b ∧ outs s = outs r ∧ wt (wOf p) r ≤ wt (wOf p) s
  | a, b, [], e => ⟨[], e, rfl, Int.le_refl _⟩
  | a, b, l :: r, ⟨h1, h2, h3⟩ => by
    obtain ⟨s, p1, p2, p3⟩ := wid_path h hp h3
    obtain ⟨k, k1, k2, k3, k4, k5⟩ := h l h1
    refine ⟨k :: s, ⟨k1, k2.trans h2, by rw [k3]; exact p1⟩, ?_, ?_⟩
    · show k.1 :: outs s = l.1 :: outs r
      rw [k2, p2]
    · rw [wt_cons, wt_cons]
      have : wOf p l ≤ wOf p k := by
        unfold wOf
        rw [k4]
        have := Int.mul_le_mul_of_nonneg_right k5 hp
        omega
      omega
theorem wid_feas (h : Wid ls' ls) {p : Fr} (hp : 0 ≤ p.2) (F : Feas ls p) : Feas ls' p := fun a r R => by
  obtain ⟨s, p1, p2, p3⟩ := wid_path h hp R.path
  have := F a s ⟨fun z => by
    have e := p2
    rw [z] at e
    have : r = [] := by
      cases r with
      | nil => rfl
      | cons _ _ => cases e
    exact R.ne this, p1, by rw [p2]; exact R.nd⟩
  omega
theorem ring_of_rs {lo : List Lk} (hlo : (bnds n ls).1 = some lo) : 0 < tok lo ∧ ∃ f, Ring ls f lo := by
  obtain ⟨h1, h2, _⟩ := (bspec (ringsOf n ls)).lo lo hlo
  exact ⟨h2, rings_sound h1⟩
/-- what was let stays let where links are let more -/
theorem wid_let (hin : InK n ls) (h : Wid ls' ls) {lo lo' : List Lk} (hlo : (bnds n ls).1 = some lo) (hlo' : (bnds n ls').1 = some lo') (he : emptyL (bnds n ls) = false) : emptyL (bnds n ls') = false ∧ leF (askL lo') (askL lo) := by
  obtain ⟨t1, f1, R1⟩ := ring_of_rs hlo
  obtain ⟨t2, f2, R2⟩ := ring_of_rs hlo'
  have hp := ask_pos (r := lo) (by omega)
  have F := wid_feas h (Int.le_of_lt hp) (feas_of hin hlo he)
  refine ⟨?_, ?_⟩
  · cases e : emptyL (bnds n ls') with
    | false => rfl
    | true => exact absurd F (infeas_of hlo' e hp)
  · have := F f2 lo' R2
    refine below_no.mp ?_
    cases e : below (askL lo) (askL lo') with
    | false => rfl
    | true =>
      have := (over_lo t2 _).mpr e
      omega
/-- a link from each event to itself, a token on it -/
theorem lo_some (hin : InK n ls) {e : Nat} {t : Int} (h : (e, e, 1, t) ∈ ls) : ∃ lo, (bnds n ls).1 = some lo := by
  cases c : (bnds n ls).1 with
  | some lo => exact ⟨lo, rfl⟩
  | none =>
    obtain ⟨r', hr, pm⟩ := rings_all hin (a := e) (r := [(e, e, 1, t)]) ⟨by simp, ⟨h, rfl, rfl⟩, by simp [outs]⟩
    have := (bspec (ringsOf n ls)).lo0 c r' hr
    rw [tok_perm pm] at this
    exact absurd (show (0 : Int) < tok [(e, e, 1, t)] by simp [tok, wt]) this
/-! ### heights, or a ring -/
def overP (p : Fr) (r : List Lk) : Bool := decide (p.1 * tok r < tks r * p.2)
theorem overP_iff {p : Fr} {r : List Lk} : overP p r = true ↔ 0 < wt (wOf p) r := by
  unfold overP
  rw [decide_eq_true_eq, wt_wOf, Int.mul_comm p.1]
  omega
def linkRing (n : Nat) (ls : List Lk) (p : Fr) : ORg := (ringsOf n ls).find? (overP p)
theorem link_ring_iff (hin : InK n ls) (p : Fr) : (linkRing n ls p).isNone = (potOf n ls (wOf p)).isSome := by
  cases e : linkRing n ls p with
  | some r =>
    have h1 := List.find?_some e
    obtain ⟨f, R⟩ := rings_sound (List.mem_of_find?_eq_some e)
    cases g : potOf n ls (wOf p) with
    | none => rfl
    | some x =>
      have := pot_some hin g R
      have := overP_iff.mp h1
      omega
  | none =>
    have h1 := List.find?_eq_none.mp e
    obtain ⟨g, hg⟩ := pot_ex (w := wOf p) hin fun a r R => by
      obtain ⟨r', hr, pm⟩ := rings_all hin R
      have := h1 r' hr
      rw [overP_iff] at this
      rw [← wt_perm pm]
      omega
    rw [hg]
    rfl
theorem link_ring_some {p : Fr} {r : List Lk} (h : linkRing n ls p = some r) : (∃ f, Ring ls f r) ∧ overP p r = true := ⟨rings_sound (List.mem_of_find?_eq_some h), List.find?_some h⟩
theorem infeas_pot (hin : InK n ls) {p : Fr} (h : ¬ Feas ls p) : potOf n ls (wOf p) = none := by
  cases e : potOf n ls (wOf p) with
  | none => rfl
  | some g => exact absurd (fun a r R => pot_some hin e R) h
/-! ### the best ring -/
def bestGo (q : List Lk) (r : List Lk) : List Lk := if tks q * tok r < tks r * tok q then r else q
def bestL (rs : List (List Lk)) : List Lk := rs.foldl bestGo (rs.headD [])
theorem best_go : ∀ (l rs : List (List Lk)) (q : List Lk), (∀ r ∈ rs ++ l, 0 < tok r) → q ∈ rs → (∀ r ∈ rs, leF (askL r) (askL q)) → l.foldl bestGo q ∈ rs ++ l ∧ ∀ r ∈ rs ++ l, leF (askL r) (askL (l.foldl bestGo q))
  | [], rs, q, _, h1, h2 => ⟨by simpa using h1, by simpa using h2⟩
  | r :: l, rs, q, h0, h1, h2 => by
    have hq := h0 q (List.mem_append_left _ h1)
    have hr := h0 r (List.mem_append_right _ List.mem_cons_self)
    obtain ⟨c, Lq⟩ := ask_low (r := q) (by omega)
    obtain ⟨d, Lr⟩ := ask_low (r := r) (by omega)
    have hc := Lq.sgn.mpr hq
    have hd := Lr.sgn.mpr hr
    have key : tks q * tok r < tks r * tok q ↔ (askL q).1 * (askL r).2 < (askL r).1 * (askL q).2 := by
      have e1 : tks q * tok r = (askL q).1 * (askL r).2 * (c * d) := by rw [Lq.e1, Lr.e2]; ac_rfl
      have e2 : tks r * tok q = (askL r).1 * (askL q).2 * (c * d) := by rw [Lr.e1, Lq.e2]; ac_rfl
      have hcd := Int.mul_pos hc hd
      rw [e1, e2]
      constructor
      · intro z
        refine Int.not_le.mp fun y => ?_
        have := (mul_pos_le hcd).mpr y
        omega
      · intro z
        exact Int.mul_lt_mul_of_pos_right z hcd
    have e : rs ++ r :: l = (rs ++ [r]) ++ l := by simp
    rw [e] at h0 ⊢
    have st : bestGo q r ∈ rs ++ [r] ∧ ∀ x ∈ rs ++ [r], leF (askL x) (askL (bestGo q r)) := by
      unfold bestGo
      by_cases k : tks q * tok r < tks r * tok q
      · rw [if_pos k]
        refine ⟨by simp, fun x hx => ?_⟩
        rcases List.mem_append.mp hx with z | z
        · exact leF_trans (ask_pos (by omega)) (ask_pos (by have := h0 x (List.mem_append_left _ hx); omega)) (ask_pos (by omega)) (h2 x z) (Int.le_of_lt (key.mp k))
        · rw [List.mem_singleton.mp z]; exact leF_refl _
      · rw [if_neg k]
        refine ⟨List.mem_append_left _ h1, fun x hx => ?_⟩
        rcases List.mem_append.mp hx with z | z
        · exact h2 x z
        · rw [List.mem_singleton.mp z]
          exact Int.not_lt.mp fun y => k (key.mpr y)
    exact best_go l (rs ++ [r]) (bestGo q r) h0 st.1 st.2
theorem best_spec {rs : List (List Lk)} (h : rs ≠ []) (h0 : ∀ r ∈ rs, 0 < tok r) : bestL rs ∈ rs ∧ ∀ r ∈ rs, leF (askL r) (askL (bestL rs)) := by
  cases rs with
  | nil => exact absurd rfl h
  | cons q l =>
    have e : bestL (q :: l) = l.foldl bestGo q := by
      show (q :: l).foldl bestGo q = _
      rw [List.foldl_cons]
      have : bestGo q q = q := by unfold bestGo; split <;> rfl
      rw [this]
    rw [e]
    have := best_go l [q] q (by simpa using h0) (by simp) (fun r hr => by rw [List.mem_singleton.mp hr]; exact leF_refl _)
    simpa using this
/-- the greatest ratio of all rings, by either way -/
theorem pace_eq (hin : InK n ls) (hin' : InK n ls') (hs : ∀ l, l ∈ ls ↔ l ∈ ls') (ht : ∀ a r, Ring ls a r → 0 < tok r) {lo : List Lk} (hlo : (bnds n ls').1 = some lo) : ringsOf n ls ≠ [] ∧ askL (bestL (ringsOf n ls)) = askL lo := by
  obtain ⟨h1, h2, h3⟩ := (bspec (ringsOf n ls')).lo lo hlo
  obtain ⟨f, R⟩ := rings_sound h1
  have R' : Ring ls f lo := ⟨R.ne, path_mono (fun l hl => (hs l).mpr hl) R.path, R.nd⟩
  obtain ⟨r1, hr1, pm1⟩ := rings_all hin R'
  have hne : ringsOf n ls ≠ [] := List.ne_nil_of_mem hr1
  obtain ⟨b1, b2⟩ := best_spec hne fun r hr => by
    obtain ⟨g, Rg⟩ := rings_sound hr
    exact ht g r Rg
  refine ⟨hne, ?_⟩
  obtain ⟨g, Rg⟩ := rings_sound b1
  have Rg' : Ring ls' g (bestL (ringsOf n ls)) := ⟨Rg.ne, path_mono (fun l hl => (hs l).mp hl) Rg.path, Rg.nd⟩
  obtain ⟨r2, hr2, pm2⟩ := rings_all hin' Rg'
  have t1 := ht g _ Rg
  have k1 : leF (askL lo) (askL (bestL (ringsOf n ls))) := by rw [← ask_perm pm1]; exact b2 r1 hr1
  have k2 : leF (askL (bestL (ringsOf n ls))) (askL lo) := by rw [← ask_perm pm2]; exact h3 r2 hr2 (by rw [tok_perm pm2]; exact t1)
  obtain ⟨c, L1⟩ := ask_low (r := bestL (ringsOf n ls)) (by omega)
  obtain ⟨d, L2⟩ := ask_low (r := lo) (by omega)
  exact low_uniq L1.pos L2.pos L1.cop L2.cop (Int.le_antisymm k2 k1)
end
end PV

/-! Plain: a drawn net has an order; the links with distances. -/
namespace PV
open PySem PySem.Spec PyProof.Rows L2
/-! ### a drawn net has an order -/
theorem order_go {n : Nat} {links : List Arc} {or : List Nat} (hin : InN n links) (hfw : ∀ a ∈ links, or.idxOf a.1 < or.idxOf a.2.1) : ∀ (k : Nat) (left found : List Nat), left.length ≤ k → (found ++ left).Perm (List.range n) →
    (∀ i e a, found[i]? = some e → a ∈ links → a.2.1 = e → a.1 ∈ found.take i) →
    ∃ ord, orderGo links k left found = some ord ∧ ord.Perm (List.range n) ∧ ∀ i e a, ord[i]? = some e → a ∈ links → a.2.1 = e → a.1 ∈ ord.take i := by
  intro k
  induction k with
  | zero =>
    intro left found h1 h2 h3
    have : left = [] := List.length_eq_zero_iff.mp (by omega)
    subst this
    rw [List.append_nil] at h2
    exact ⟨found, rfl, h2, h3⟩
  | succ k ih =>
    intro left found h1 h2 h3
    show ∃ ord, (if left.length = 0 then some found else if (freeOf links left).length = 0 then none else orderGo links k (left.filter fun e => !decide (e ∈ freeOf links left)) (found ++ freeOf links left)) = some ord ∧ _
    by_cases c : left.length = 0
    · rw [if_pos c]
      have : left = [] := List.length_eq_zero_iff.mp c
      subst this
      rw [List.append_nil] at h2
      exact ⟨found, rfl, h2, h3⟩
    · rw [if_neg c]
      have hne : left ≠ [] := fun z => c (by rw [z]; rfl)
      -- the one of least place is free
      obtain ⟨e0, he0, hmin⟩ : ∃ e ∈ left, ∀ e' ∈ left, or.idxOf e ≤ or.idxOf e' := by
        have hl : left.map (fun e => ((or.idxOf e : Nat) : Int)) ≠ [] := by simpa using hne
        obtain ⟨e, he, hm⟩ := List.mem_map.mp (minL_mem hl)
        refine ⟨e, he, fun e' he' => ?_⟩
        have := minL_le (List.mem_map.mpr ⟨e', he', rfl⟩ : ((or.idxOf e' : Nat) : Int) ∈ left.map fun e => ((or.idxOf e : Nat) : Int))
        omega
      have hfree : e0 ∈ freeOf links left := by
        refine List.mem_filter.mpr ⟨he0, ?_⟩
        simp only [Bool.not_eq_true', List.any_eq_false, Bool.and_eq_true, decide_eq_true_eq, not_and]
        intro a ha h5 h6
        have h7 := hfw a ha
        have h8 := hmin a.1 h5
        rw [h6] at h7
        omega
      have hfl : (freeOf links left).length ≠ 0 := fun z => by
        rw [List.length_eq_zero_iff.mp z] at hfree
        cases hfree
      rw [if_neg hfl]
      have hndl : left.Nodup := ((h2.nodup_iff).mpr List.nodup_range |> List.nodup_append.mp).2.1
      have hperm : (freeOf links left ++ left.filter fun e => !decide (e ∈ freeOf links left)).Perm left := by
        refine (List.perm_ext_iff_of_nodup ?_ hndl).mpr fun e => ?_
        · refine List.nodup_append.mpr ⟨hndl.filter _, hndl.filter _, fun x hx y hy z => ?_⟩
          subst z
          have := (List.mem_filter.mp hy).2
          simp [hx] at this
        · rw [List.mem_append]
          constructor
          · rintro (z | z)
            · exact (List.mem_filter.mp z).1
            · exact (List.mem_filter.mp z).1
          · intro z
            by_cases c : e ∈ freeOf links left
            · exact .inl c
            · exact .inr (List.mem_filter.mpr ⟨z, by simp [c]⟩)
      refine ih _ _ ?_ ?_ ?_
      · have h5 := hperm.length_eq
        rw [List.length_append] at h5
        omega
      · rw [List.append_assoc]
        exact (hperm.append_left found).trans h2
      · intro i e a h5 h6 h7
        by_cases ci : i < found.length
        · rw [List.getElem?_append_left ci] at h5
          rw [List.take_append_of_le_length (by omega)]
          exact h3 i e a h5 h6 h7
        · rw [List.getElem?_append_right (by omega)] at h5
          have h8 := List.mem_filter.mp (List.mem_of_getElem? h5)
          have h9 := h8.2
          simp only [Bool.not_eq_true', List.any_eq_false, Bool.and_eq_true, decide_eq_true_eq, not_and] at h9
          have h10 : a.1 ∉ left := fun z => h9 a h6 z h7
          have h11 : a.1 ∈ found ++ left := h2.mem_iff.mpr (List.mem_range.mpr (hin a h6).1)
          rcases List.mem_append.mp h11 with z | z
          · rw [List.take_append, List.take_of_length_le (by omega)]
            exact List.mem_append_left _ z
          · exact absurd z h10
theorem drawn_ord {most n : Nat} {as : List Arc} {or : List Nat} (D : Drawn most n as or) : ∃ ord, orderOf n as = some ord ∧ OrdOk n (as ++ selfArcs n) ord := by
  have zin : ∀ a ∈ zeroArcs as, a ∈ as ∧ a.2.2.1 = 0 := fun a ha => by
    obtain ⟨h1, h2⟩ := List.mem_filter.mp ha
    exact ⟨h1, by have := of_decide_eq_true h2; omega⟩
  obtain ⟨ord, h1, h2, h3⟩ := order_go (n := n) (links := zeroArcs as) (or := or) (fun a ha => D.inn a (zin a ha).1) (fun a ha => D.fw a (zin a ha).1 (zin a ha).2) n (List.range n) [] (by simp) (by simp) (fun i e a h => by simp at h)
  refine ⟨ord, h1, (h2.nodup_iff).mpr List.nodup_range, fun e => by rw [h2.mem_iff, List.mem_range], fun i e a h4 h5 h6 h7 => ?_⟩
  rcases List.mem_append.mp h5 with z | z
  · exact h3 i e a h4 (List.mem_filter.mpr ⟨z, by simp [h7]⟩) h6
  · obtain ⟨x, _, rfl⟩ := List.mem_map.mp z
    cases h7
theorem drawn_inn {most n : Nat} {as : List Arc} {or : List Nat} (D : Drawn most n as or) : InN n (as ++ selfArcs n) := fun a ha => by
  rcases List.mem_append.mp ha with z | z
  · exact D.inn a z
  · obtain ⟨x, hx, rfl⟩ := List.mem_map.mp z
    exact ⟨List.mem_range.mp hx, List.mem_range.mp hx⟩

/-! ### the links of a net with distances -/
def ofArc (a : Arc) : Lk := (a.1, a.2.1, (a.2.2.1 : Int), (a.2.2.2 : Int))
/-- a distance as a link back -/
def backLk (a : Arc) : Lk := (a.2.1, a.1, 0 - (a.2.2.1 : Int), 0 - (a.2.2.2 : Int))
theorem ofArc_P (a : Arc) : lkP (ofArc a) = arcP a := rfl
def netLk (n : Nat) (as : List Arc) : List Lk := (as ++ selfArcs n).map ofArc
def allLk (n : Nat) (as ds : List Arc) : List Lk := netLk n as ++ ds.map backLk
def leK (a b : Lk) : Bool := !lexL (lkI b) (lkI a)
def sortL (l : List Lk) : List Lk := l.mergeSort leK
theorem sortL_perm (l : List Lk) : (sortL l).Perm l := List.mergeSort_perm _ _
theorem sortL_mem {l : List Lk} {x : Lk} : x ∈ sortL l ↔ x ∈ l := (sortL_perm l).mem_iff
theorem sortL_len (l : List Lk) : (sortL l).length = l.length := (sortL_perm l).length_eq
theorem sortL_sorted (l : List Lk) : (sortL l).Pairwise fun a b => lexL (lkI b) (lkI a) = false := by
  have h := List.pairwise_mergeSort (le := leK) (fun a b c h1 h2 => by
    unfold leK at *
    simp only [Bool.not_eq_true'] at *
    exact lexL_tr _ _ _ h1 h2) (fun a b => by
    unfold leK
    cases e : lexL (lkI b) (lkI a) with
    | false => simp
    | true => simp [lexL_asym _ _ e]) l
  exact h.imp fun {a b} z => by unfold leK at z; simpa using z
theorem lk_uniq : ∀ {l m : List Lk}, l.Perm m → l.Pairwise (fun a b => lexL (lkI b) (lkI a) = false) → m.Pairwise (fun a b => lexL (lkI b) (lkI a) = false) → l = m
  | [], m, h, _, _ => (List.Perm.eq_nil h.symm).symm
  | x :: l, [], h, _, _ => absurd h.length_eq (by simp)
  | x :: l, y :: m, h, hl, hm => by
    have le : ∀ {a : Lk} {r : List Lk}, (a :: r).Pairwise (fun a b => lexL (lkI b) (lkI a) = false) → ∀ b ∈ a :: r, lexL (lkI b) (lkI a) = false := fun {a r} hp b hb => by
      rcases List.mem_cons.mp hb with e | e
      · rw [e]; exact lexL_refl _
      · exact (List.pairwise_cons.mp hp).1 b e
    have h1 := le hl y (h.mem_iff.mpr (List.mem_cons_self ..))
    have h2 := le hm x (h.mem_iff.mp (List.mem_cons_self ..))
    have e : x = y := lkI_inj (lexL_eq _ _ h2 h1)
    subst e
    rw [lk_uniq h.cons_inv (List.pairwise_cons.mp hl).2 (List.pairwise_cons.mp hm).2]
theorem sortL_of {l2 l : List Lk} (h : l2.Perm l) (hs : (l2.map lkI).Pairwise (fun x y => lexL y x = false)) : l2 = sortL l :=
  lk_uniq (h.trans (sortL_perm l).symm) (List.pairwise_map.mp hs) (sortL_sorted l)
theorem sortL_eq {l m : List Lk} (h : l.Perm m) : sortL l = sortL m := lk_uniq ((sortL_perm l).trans (h.trans (sortL_perm m).symm)) (sortL_sorted l) (sortL_sorted m)
def withLk (n : Nat) (as ds : List Arc) : List Lk := sortL (allLk n as ds)
theorem netLk_in {n : Nat} {as : List Arc} (h : InN n as) : InK n (netLk n as) := fun l hl => by
  obtain ⟨a, ha, rfl⟩ := List.mem_map.mp hl
  rcases List.mem_append.mp ha with z | z
  · exact h a z
  · obtain ⟨x, hx, rfl⟩ := List.mem_map.mp z
    exact ⟨List.mem_range.mp hx, List.mem_range.mp hx⟩
theorem allLk_in {n : Nat} {as ds : List Arc} (h : InN n as) (h2 : InN n ds) : InK n (allLk n as ds) := fun l hl => by
  rcases List.mem_append.mp hl with z | z
  · exact netLk_in h l z
  · obtain ⟨a, ha, rfl⟩ := List.mem_map.mp z
    exact ⟨(h2 a ha).2, (h2 a ha).1⟩
theorem withLk_in {n : Nat} {as ds : List Arc} (h : InN n as) (h2 : InN n ds) : InK n (withLk n as ds) := fun l hl => allLk_in h h2 l (sortL_mem.mp hl)
theorem self_mem {n : Nat} {as ds : List Arc} (hn : 1 ≤ n) : ((0, 0, 1, 0) : Lk) ∈ withLk n as ds :=
  sortL_mem.mpr (List.mem_append_left _ (List.mem_map.mpr ⟨(0, 0, 1, 0), List.mem_append_right _ (List.mem_map.mpr ⟨0, List.mem_range.mpr hn, rfl⟩), rfl⟩))
theorem with_lo {n : Nat} {as ds : List Arc} (hn : 1 ≤ n) (h : InN n as) (h2 : InN n ds) : ∃ lo, (bnds n (withLk n as ds)).1 = some lo := lo_some (withLk_in h h2) (self_mem hn)
/-- a net with an order: on each ring there is a token -/
theorem ord_tok {n : Nat} {as : List Arc} {ord : List Nat} (ho : OrdOk n (as ++ selfArcs n) ord) (hin : InN n as) {ls : List Lk} (hs : ∀ l ∈ ls, l ∈ netLk n as) {a : Nat} {r : List Lk} (R : Ring ls a r) : 0 < tok r := by
  have hnn : ∀ l ∈ netLk n as, 0 ≤ l.2.2.1 := fun l hl => by
    obtain ⟨x, _, rfl⟩ := List.mem_map.mp hl
    show 0 ≤ ((x.2.2.1 : Nat) : Int)
    omega
  have hlt : ∀ l ∈ netLk n as, l.2.2.1 = 0 → ord.idxOf l.1 < ord.idxOf l.2.1 := fun l hl h0 => by
    have hl2 := (netLk_in hin l hl).2
    obtain ⟨x, hx, rfl⟩ := List.mem_map.mp hl
    have hm : x.2.1 ∈ ord := (ho.mem _).mpr hl2
    have hi : ord[ord.idxOf x.2.1]? = some x.2.1 := by
      rw [List.getElem?_eq_getElem (List.idxOf_lt_length_of_mem hm), List.getElem_idxOf]
    have h1 := ho.fw _ _ x hi hx rfl (by have : ((x.2.2.1 : Nat) : Int) = 0 := h0; omega)
    obtain ⟨j, hj⟩ := List.mem_iff_getElem?.mp h1
    have hjl : j < ord.idxOf x.2.1 := by
      have := (List.getElem?_eq_some_iff.mp hj).1
      rw [List.length_take] at this
      omega
    rw [List.getElem?_take_of_lt hjl] at hj
    obtain ⟨hj1, hj2⟩ := List.getElem?_eq_some_iff.mp hj
    have := idx_min ord x.1 j hj1 hj2
    show ord.idxOf x.1 < ord.idxOf x.2.1
    omega
  have go : ∀ {a b : Nat} {r : List Lk}, Path ls a r b → 0 ≤ tok r ∧ (tok r = 0 → r ≠ [] → ord.idxOf a < ord.idxOf b) := by
    intro a b r
    induction r generalizing a with
    | nil => exact fun _ => ⟨by simp [tok, wt], fun _ h => absurd rfl h⟩
    | cons l r ih =>
      rintro ⟨h1, h2, h3⟩
      obtain ⟨i1, i2⟩ := ih h3
      have h4 := hnn l (hs l h1)
      have e : tok (l :: r) = l.2.2.1 + tok r := wt_cons l r
      refine ⟨by omega, fun h0 _ => ?_⟩
      have h5 := hlt l (hs l h1) (by omega)
      rw [h2] at h5
      by_cases c : r = []
      · subst c
        have : l.2.1 = b := h3
        rw [← this]
        exact h5
      · exact Nat.lt_trans h5 (i2 (by omega) c)
  obtain ⟨g1, g2⟩ := go R.path
  rcases Int.lt_or_le 0 (tok r) with z | z
  · exact z
  · exact absurd (g2 (by omega) R.ne) (Nat.lt_irrefl _)
/-! ### how many rings -/
theorem firsts_len {n : Nat} {ls : List Lk} (hin : InK n ls) : (firsts ls).length ≤ n := by
  have h1 : (firsts ls).Nodup := by
    unfold firsts
    refine List.pairwise_map.mpr ((sortI_lt _).imp_of_mem fun {a b} ha hb z => ?_)
    rw [sortI_mem] at ha hb
    obtain ⟨l, _, rfl⟩ := List.mem_map.mp ha
    obtain ⟨k, _, rfl⟩ := List.mem_map.mp hb
    simp only [Int.toNat_natCast]
    omega
  exact nat_nd_len h1 fun x hx => by
    obtain ⟨l, hl, rfl⟩ := firsts_mem.mp hx
    exact (hin l hl).1
theorem init_len (ls : List Lk) (f : Nat) : (init ls f).length ≤ ls.length := by
  unfold init
  rw [List.length_map]
  exact List.length_filter_le _ _
theorem sum_map_le {α : Type} (g h : α → Nat) : ∀ l : List α, (∀ a ∈ l, g a ≤ h a) → (l.map g).sum ≤ (l.map h).sum
  | [], _ => Nat.le_refl _
  | a :: l, k => by
    have h1 := k a List.mem_cons_self
    have h2 := sum_map_le g h l fun b hb => k b (List.mem_cons_of_mem _ hb)
    rw [List.map_cons, List.map_cons, List.sum_cons, List.sum_cons]
    omega
theorem from_len {n : Nat} {ls : List Lk} (f : Nat) : (ringsFrom n ls f).length ≤ ls.length * (ls.length + 1) ^ (n - 1) := by
  unfold ringsFrom
  rw [sum_flatMap_len, List.map_reverse, List.sum_reverse]
  have h1 := sum_le_mul (fun w => (desc ls f (n - w.length) w).length) ((ls.length + 1) ^ (n - 1)) (init ls f) fun v hv => by
    have h2 := (init_ok hv).2
    rw [h2]
    exact Nat.le_trans (desc_len _ _) (cost_le _ _)
  exact Nat.le_trans h1 (Nat.mul_le_mul_right _ (init_len ls f))
theorem rings_len {n : Nat} {ls : List Lk} (hin : InK n ls) : (ringsOf n ls).length ≤ n * (ls.length * (ls.length + 1) ^ (n - 1)) := by
  unfold ringsOf
  rw [sum_flatMap_len]
  exact Nat.le_trans (sum_le_mul _ _ _ fun f _ => from_len f) (Nat.mul_le_mul_right _ (firsts_len hin))
end PV

set_option maxHeartbeats 0
/-! The walks: fractions, sums, bounds of rings. -/
namespace PV
open PySem PySem.Spec PyProof.Rows L2
def frP (p : Fr) : P := .tup [.int p.1, .int p.2]
def rgP (r : List Lk) : P := .lst (r.map lkP)
def rgsP (rs : List (List Lk)) : P := .lst (rs.map rgP)
/-- a ring of small numbers -/
structure Rok (r : List Lk) : Prop where
  len : r.length ≤ 1000
  tk : -100000 ≤ tks r ∧ tks r ≤ 100000
  to : -100000 ≤ tok r ∧ tok r ≤ 100000
theorem low_ub {a b : Int} {p : Fr} {c : Int} (L : Low a b p c) : p.1.natAbs ≤ a.natAbs ∧ p.2.natAbs ≤ b.natAbs := by
  have hc : 1 ≤ c.natAbs := by have := L.c0; omega
  constructor
  · rw [L.e1, Int.natAbs_mul]
    exact Nat.le_mul_of_pos_right _ hc
  · rw [L.e2, Int.natAbs_mul]
    exact Nat.le_mul_of_pos_right _ hc
/-- a fraction of small numbers -/
structure Fok (p : Fr) : Prop where
  pos : 0 < p.2
  b1 : -1000000 ≤ p.1 ∧ p.1 ≤ 1000000
  b2 : p.2 ≤ 1000000
theorem Rok.ask {r : List Lk} (h : Rok r) (h0 : tok r ≠ 0) : Fok (askL r) := by
  obtain ⟨c, L⟩ := ask_low h0
  have := low_ub L
  have h1 := h.tk
  have h2 := h.to
  exact ⟨L.pos, by omega, by omega⟩
section
variable {X : Cx} {a b e : Expr} {ρ : Rho} {μ : Mu} {pos : Pos} {i j : Int}
theorem ev_fdivN (ha : EV X a ρ μ (.sh (.int i))) (hb : EV X b ρ μ (.sh (.int j))) (hc : CDivN i j) : EV X (.BinOp a .FloorDiv b pos) ρ μ (.sh (.int (i.fdiv j))) := ev_op op_fdivN ha hb fun Q q => v2_i (g := fun i j => .int (i.fdiv j)) (fun _ => .int _) hc q
end
section
variable {g : Bool} {Pr : Program} {w : World} {K : PySem.W.Frag} {mg : Str → Option Value} {base : Heap} {f : Addr} {fd : FuncData} {C : Addr}
theorem sc_lowest : FnScope ["top", "bottom", "common"] ["top", "bottom"] (defScope s_lowest) := ⟨rfl, rfl, rfl, by decide +kernel, rfl, by decide +kernel, by decide +kernel⟩
def F_lowest (zs : List P) (y : P) : Prop := ∃ a b : Int, zs = [.int a, .int b] ∧ b ≠ 0 ∧ -1000000 ≤ b ∧ b ≤ 1000000 ∧ y = frP (lowP a b)
theorem c_lowest (F : FnP K "lowest" "lowest" s_lowest f fd) (hm : mg "lowest" = some (.ref f)) (hgc : mg "gcd" = some (.builtin "math.gcd")) : Ct g Pr w K mg base 1 "lowest" (SF F_lowest) := by
  refine ct_pure F hm sc_lowest (fun _ _ _ _ _ _ us hl => match us, hl with | [_, _], _ => rfl) (by rintro _ _ ⟨a, b, rfl, _⟩; rfl) fun cdv A outer s H E hr zs y hF => ?_
  obtain ⟨a, b, rfl, h0, h1, h2, rfl⟩ := hF
  have nd := sc_lowest.nd
  have hg := gcd_pos (a := a) h0
  have hle : gcdI a b ≤ 1000000 := by
    unfold gcdI
    have := Nat.gcd_le_right a.natAbs (show 0 < b.natAbs by omega)
    omega
  have d1 := gcd_dvd1 a b
  have d2 := gcd_dvd2 a b
  refine tss_cons (tsp_setV 2 nd (x := .sh (.int (if 0 < b then gcdI a b else 0 - gcdI a b))) (ev_if (d := decide (0 < b)) (et_gt (ev_name 1) ev_int) (fun h => (ev_gcd hgc (ev_name 0) (ev_name 1)).is (by rw [if_pos (of_decide_eq_true h)]; rfl)) fun h => (ev_sub ev_int (ev_gcd hgc (ev_name 0) (ev_name 1))).is (by rw [if_neg (of_decide_eq_false h)]; rfl)) ?_)
  have hc : ∀ c : Int, c = (if 0 < b then gcdI a b else 0 - gcdI a b) → c ∣ a ∧ c ∣ b ∧ c ≠ 0 ∧ c.natAbs < 1073741824 := fun c hc => by
    by_cases hb : 0 < b
    · rw [if_pos hb] at hc
      subst hc
      exact ⟨d1, d2, by omega, by omega⟩
    · rw [if_neg hb, Int.zero_sub] at hc
      subst hc
      exact ⟨Int.neg_dvd.mpr d1, Int.neg_dvd.mpr d2, by omega, by omega⟩
  obtain ⟨k1, k2, k3, k4⟩ := hc _ rfl
  refine tss_one (tsp_retV (ev_tup (ys := [.int (lowP a b).1, .int (lowP a b).2]) (eas_cons ((ev_fdivN (ev_name 0) (ev_name 2) ⟨k3, k4⟩).is (by rw [Int.fdiv_eq_ediv_of_dvd k1]; rfl)) (eas_cons ((ev_fdivN (ev_name 1) (ev_name 2) ⟨k3, k4⟩).is (by rw [Int.fdiv_eq_ediv_of_dvd k2]; rfl)) eas_nil))) (.sh _))
theorem sc_is_below : FnScope ["one", "other"] ["one", "other"] (defScope s_is_below) := ⟨rfl, rfl, rfl, by decide +kernel, rfl, by decide +kernel, by decide +kernel⟩
def F_is_below (zs : List P) (y : P) : Prop := ∃ p q : Fr, zs = [frP p, frP q] ∧ Fok p ∧ Fok q ∧ y = .bl (below p q)
theorem c_is_below (F : FnP K "is_below" "is_below" s_is_below f fd) (hm : mg "is_below" = some (.ref f)) : Ct g Pr w K mg base 1 "is_below" (SF F_is_below) := by
  refine ct_pure F hm sc_is_below (fun _ _ _ _ _ _ us hl => match us, hl with | [_, _], _ => rfl) (by rintro _ _ ⟨a, b, rfl, _⟩; rfl) fun cdv A outer s H E hr zs y hF => ?_
  obtain ⟨p, q, rfl, hp, hq, rfl⟩ := hF
  have hp1 := hp.b1
  have hq1 := hq.b1
  exact tss_one (tsp_retV (ev_lt (ev_mul (ev_ixT (ev_name 0) ev_int rfl) (ev_ixT (ev_name 1) ev_int rfl) (.inl (by omega))) (ev_mul (ev_ixT (ev_name 1) ev_int rfl) (ev_ixT (ev_name 0) ev_int rfl) (.inl (by omega)))) (.sh _))
theorem sc_sums_of : FnScope ["ring", "link"] ["ring"] (defScope s_sums_of) := ⟨rfl, rfl, rfl, by decide +kernel, rfl, by decide +kernel, by decide +kernel⟩
def F_sums_of (zs : List P) (y : P) : Prop := ∃ r x, zs = [x] ∧ Sq x (r.map lkP) ∧ r.length ≤ 1000 ∧ y = frP (tks r, tok r)
theorem c_sums_of (F : FnP K "sums_of" "sums_of" s_sums_of f fd) (hm : mg "sums_of" = some (.ref f)) (B : Bl mg) : Ct g Pr w K mg base 1 "sums_of" (SF F_sums_of) := by
  refine ct_pure F hm sc_sums_of (fun _ _ _ _ _ _ us hl => match us, hl with | [_], _ => rfl) (by rintro _ _ ⟨r, x, rfl, _⟩; rfl) fun cdv A outer s H E hr zs y hF => ?_
  obtain ⟨r, x, rfl, hx, hl, rfl⟩ := hF
  have nd := sc_sums_of.nd
  refine tss_one (tsp_retV (ev_tup (ys := [.int (tks r), .int (tok r)]) (eas_cons ?_ (eas_cons ?_ eas_nil))) (.sh _))
  · refine EV.is (ev_sum (ns := r.map fun l => l.2.2.2) rfl B.sum (EV.is (ev_lc0 r lkP (fun l => [some (.sh x), some (.sh (lkP l))]) (fun l => .int l.2.2.2) [1] [("link", 1)] rfl nd (blkOk_by (by kernel_rfl)) (ei_seq hx (ev_name 0)) (Nat.le_trans hl (by decide)) (fun a _ => tgb_name 1 nd (by decide) rfl rfl) (fun l _ s H C cl fp => ev_ixT (ev_name 1) ev_int rfl)) (by rw [List.map_map]; rfl))) rfl
  · refine EV.is (ev_sum (ns := r.map fun l => l.2.2.1) rfl B.sum (EV.is (ev_lc0 r lkP (fun l => [some (.sh x), some (.sh (lkP l))]) (fun l => .int l.2.2.1) [1] [("link", 1)] rfl nd (blkOk_by (by kernel_rfl)) (ei_seq hx (ev_name 0)) (Nat.le_trans hl (by decide)) (fun a _ => tgb_name 1 nd (by decide) rfl rfl) (fun l _ s H C cl fp => ev_ixT (ev_name 1) ev_int rfl)) (by rw [List.map_map]; rfl))) rfl
theorem sc_asked : FnScope ["ring", "ticks", "tokens"] ["ring"] (defScope s_asked) := ⟨rfl, rfl, rfl, by decide +kernel, rfl, by decide +kernel, by decide +kernel⟩
def F_asked (zs : List P) (y : P) : Prop := ∃ r, zs = [rgP r] ∧ Rok r ∧ tok r ≠ 0 ∧ y = frP (askL r)
theorem c_asked (F : FnP K "asked" "asked" s_asked f fd) (hm : mg "asked" = some (.ref f)) (c1 : Ct g Pr w K mg base 1 "sums_of" (SF F_sums_of)) (c2 : Ct g Pr w K mg base 1 "lowest" (SF F_lowest)) : Ct g Pr w K mg base 2 "asked" (SF F_asked) := by
  refine ct_pure F hm sc_asked (fun _ _ _ _ _ _ us hl => match us, hl with | [_], _ => rfl) (by rintro _ _ ⟨r, rfl, _⟩; rfl) fun cdv A outer s H E hr zs y hF => ?_
  obtain ⟨r, rfl, hr1, h0, rfl⟩ := hF
  have nd := sc_asked.nd
  have h1 := hr1.to
  refine tss_cons (tsp_asgA [1, 2] (ev_call c1 hr (eas_cons (ev_name 0) eas_nil) ⟨r, _, rfl, .inl rfl, hr1.len, rfl⟩) (tgp_names ["ticks", "tokens"] [1, 2] nd (.inr rfl) rfl ?_))
  exact tss_one (tsp_retV (ev_call c2 hr (eas_cons (ev_name 1) (eas_cons (ev_name 2) eas_nil)) ⟨tks r, tok r, rfl, h0, by omega, by omega, rfl⟩) (.sh _))
end
end PV

/-! The walk of the search through all rings. -/
namespace PV
open PySem PySem.Spec PyProof.Rows L2
theorem dec_nat (a b : Nat) : decide ((a : Int) = (b : Int)) = decide (a = b) := decide_eq_decide.mpr (by omega)
theorem dec_lt (a b : Nat) : decide ((a : Int) < (b : Int)) = decide (a < b) := decide_eq_decide.mpr (by omega)
theorem dec_le (a b : Nat) : decide ((a : Int) ≤ (b : Int)) = decide (a ≤ b) := decide_eq_decide.mpr (by omega)
theorem last_lk {way : List Lk} (h : way ≠ []) : ∃ l, way.getLast? = some l ∧ lastTo way = l.2.1 := by
  cases e : way.getLast? with
  | none => exact absurd (List.getLast?_eq_none_iff.mp e) h
  | some l => exact ⟨l, rfl, by unfold lastTo; rw [e]⟩
section
variable {X : Cx} {a b e o : Expr} {es : List Expr} {ρ : Rho} {μ : Mu} {Q : E → Mu → Prop} {pos p2 p3 p4 : Pos} {k1 k2 : Option Str}
theorem atI_lastTo {way : List Lk} {l : Lk} (h : way.getLast? = some l) : atI (way.map lkP) (-1) = some (lkP l) := by
  have hne : way ≠ [] := fun z => by rw [z] at h; cases h
  exact atI_last (by simpa using hne) (by rw [List.getLast?_map, h]; rfl)
/-- a[-1][1], a a way -/
theorem ev_lastTo {way : List Lk} (h : way ≠ []) (ha : EV X a ρ μ (.sh (rgP way))) (h1 : EV X b ρ μ (.sh (.int (-1)))) (h2 : EV X e ρ μ (.sh (.int 1))) (hs : PlainIx b := by intro _ _; rfl) (hs2 : PlainIx e := by intro _ _; rfl) : EV X (.Subscript (.Subscript a b p2) e pos) ρ μ (.sh (.int (lastTo way : Nat))) := by
  obtain ⟨l, h1', h2'⟩ := last_lk h
  rw [h2']
  exact ev_ixT (ev_ixL ha h1 (atI_lastTo h1') hs) h2 rfl hs2
end
section
variable {g : Bool} {Pr : Program} {w : World} {K : PySem.W.Frag} {mg : Str → Option Value} {base : Heap} {f : Addr} {fd : FuncData} {C : Addr}
theorem sc_longer_ways : FnScope ["links", "way", "first", "met", "more", "link"] ["links", "way", "first"] (defScope s_longer_ways) := ⟨rfl, rfl, rfl, by decide +kernel, rfl, by decide +kernel, by decide +kernel⟩
def F_longer_ways (zs : List P) (y : P) : Prop := ∃ (ls way : List Lk) (f : Nat), zs = [rgP ls, rgP way, .int f] ∧ way ≠ [] ∧ ls.length ≤ 1000 ∧ way.length ≤ 1000 ∧ y = rgsP (longerL ls way f)
theorem c_longer_ways (F : FnP K "longer_ways" "longer_ways" s_longer_ways f fd) (hm : mg "longer_ways" = some (.ref f)) : Ct g Pr w K mg base 1 "longer_ways" (SF F_longer_ways) := by
  refine ct_pure F hm sc_longer_ways (fun _ _ _ _ _ _ us hl => match us, hl with | [_, _, _], _ => rfl) (by rintro _ _ ⟨ls, way, f, rfl, _⟩; rfl) fun cdv A outer s H E hr zs y hF => ?_
  obtain ⟨ls, way, fi, rfl, hw, hl1, hl2, rfl⟩ := hF
  have nd := sc_longer_ways.nd
  let R : Option PV.E → Option PV.E → Option PV.E → Rho := fun a b c => [some (.sh (rgP ls)), some (.sh (rgP way)), some (.sh (.int (fi : Nat))), a, b, c]
  let M : PV.E := .sh (.lst (natsP (outs way ++ [lastTo way])))
  let more := ls.filter fun l => decide (l.1 = lastTo way)
  refine tss_cons (tsp_setV 3 nd (x := M) (EV.is (ev_cat (xs := natsP (outs way)) (ys := natsP [lastTo way]) (EV.is (ev_lc0 way lkP (fun l => R none none (some (.sh (lkP l)))) (fun l => .int (l.1 : Nat)) [5] [("link", 5)] rfl nd (blkOk_by (by kernel_rfl)) (ei_list (ev_name 1)) (Nat.le_trans hl2 (by decide)) (fun a _ => tgb_name 5 nd (by decide) rfl rfl) (fun l _ s H C cl fp => ev_ixT (ev_name 5) ev_int rfl)) (by unfold natsP outs; rw [List.map_map]; rfl))
    (ev_lst (ys := [.int (lastTo way : Nat)]) (eas_cons (ev_lastTo hw (ev_name 1) (ev_neg ev_int) ev_int) eas_nil) (Nat.le_of_ble_eq_true rfl)) (by rw [natsP_len, natsP_len]; unfold outs; rw [List.length_map, List.length_singleton]; omega)) (by rw [natsP_app])) ?_)
  refine tss_cons (tsp_setL1 4 ls lkP (fun l => R (some M) none (some (.sh (lkP l)))) (fun l => decide (l.1 = lastTo way)) lkP [5] [("link", 5)] nd (blkOk_by (by kernel_rfl)) (ei_list (ev_name 0)) (Nat.le_trans hl1 (by decide)) (fun a _ => tgb_name 5 nd (by decide) rfl rfl)
    (fun l _ s H C cl fp => ET.is (et_eqI (ev_ixT (ev_name 5) ev_int rfl) (ev_lastTo hw (ev_name 1) (ev_neg ev_int) ev_int)) (dec_nat _ _)) (fun l _ _ s H C cl fp => ev_name 5) ?_)
  have hml : more.length ≤ 1000 := Nat.le_trans (List.length_filter_le _ _) hl1
  refine tss_one (tsp_retV (EV.is (ev_lc1 more lkP (fun l => R (some M) (some (.sh (.lst (more.map lkP)))) (some (.sh (lkP l)))) (goesOn way fi) (fun l => rgP (way ++ [l])) [5] [("link", 5)] rfl nd (blkOk_by (by kernel_rfl)) (ei_list (ev_name 4)) (Nat.le_trans hml (by decide)) (fun a _ => tgb_name 5 nd (by decide) rfl rfl)
    (fun l _ s H C cl fp => ET.is (et_w (ew_or (et_eqI (ev_ixT (ev_name 5) ev_int rfl) (ev_name 2)) fun _ => ew_or1 (et_w (ew_and (et_gt (ev_ixT (ev_name 5) ev_int rfl) (ev_name 2)) fun _ => ew_and1 (et_notInN (i := l.2.1) (ev_ixT (ev_name 5) ev_int rfl) (ev_name 3)))))) (by unfold goesOn; rw [dec_nat, dec_lt]))
    (fun l _ _ s H C cl fp => EV.is (ev_lst (ys := way.map lkP ++ [lkP l]) (eas_star (ev_name 1) (eas_cons (ev_name 5) eas_nil)) (by simp; omega)) (by unfold rgP; rw [List.map_append]; rfl))) (by unfold rgsP longerL; rw [List.map_map]; rfl)) (.sh _))
theorem sc_rings_of : FnScope ["links", "found", "first", "waiting", "way", "link"] ["links"] (defScope s_rings_of) := ⟨rfl, rfl, rfl, by decide +kernel, rfl, by decide +kernel, by decide +kernel⟩
/-- links of few events: the search ends soon -/
structure Lok (n : Nat) (ls : List Lk) : Prop where
  inn : InK n ls
  len : ls.length < 64
  few : n * (ls.length * (ls.length + 1) ^ (n - 1)) ≤ 8000000
def F_rings_of (zs : List P) (y : P) : Prop := ∃ (n : Nat) (ls : List Lk), zs = [rgP ls] ∧ Lok n ls ∧ y = rgsP (ringsOf n ls)
theorem set_end {α : Type} (l : List α) (a b : α) : (l ++ [a]).set l.length b = l ++ [b] := by
  rw [List.set_append_right _ _ (Nat.le_refl _), Nat.sub_self]
  rfl
def descW (n : Nat) (ls : List Lk) (f : Nat) (w : List Lk) : List (List Lk) := desc ls f (n - w.length) w
def costW (n : Nat) (ls : List Lk) (f : Nat) (w : List Lk) : Nat := cost ls f (n - w.length) w
theorem pos_pow (L k : Nat) : 0 < (L + 1) ^ k := Nat.pow_pos (Nat.succ_pos _)
theorem cost_pos {ls : List Lk} {f : Nat} : ∀ (k : Nat) (w : List Lk), 1 ≤ cost ls f k w
  | 0, _ => Nat.le_refl _
  | k + 1, w => by
    by_cases c : lastTo w = f
    · rw [cost_closed c]; exact Nat.le_refl _
    · rw [cost_open c]; omega
theorem len_le_sum {α : Type} (g : α → Nat) : ∀ (l : List α), (∀ a ∈ l, 1 ≤ g a) → l.length ≤ (l.map g).sum
  | [], _ => Nat.le_refl _
  | a :: l, h => by
    have h1 := h a List.mem_cons_self
    have h2 := len_le_sum g l fun b hb => h b (List.mem_cons_of_mem _ hb)
    rw [List.length_cons, List.map_cons, List.sum_cons]
    omega
theorem c_rings_of (F : FnP K "rings_of" "rings_of" s_rings_of f fd) (hm : mg "rings_of" = some (.ref f)) (B : Bl mg) (c1 : Ct g Pr w K mg base 1 "longer_ways" (SF F_longer_ways)) : Ct g Pr w K mg base 2 "rings_of" (SF F_rings_of) := by
  refine ct_pure F hm sc_rings_of (fun _ _ _ _ _ _ us hl => match us, hl with | [_], _ => rfl) (by rintro _ _ ⟨n, ls, rfl, _⟩; rfl) fun cdv A outer s H E hr zs y hF => ?_
  obtain ⟨n, ls, rfl, ⟨hin, hl64, hfew⟩, rfl⟩ := hF
  have nd := sc_rings_of.nd
  have hl2 : ls.length ≤ 100000 := by omega
  let R : Option PV.E → Option PV.E → Option PV.E → Option PV.E → Rho := fun a b c d => [some (.sh (rgP ls)), some (.pt 0), a, b, c, d]
  have htot := rings_len (n := n) hin
  refine tss_cons (tsp_setP 1 nd (tep_lstC (tap_nil ⟨by decide, ?_⟩)))
  have hfe : sortI (ls.map fun l => (l.1 : Int)) = (firsts ls).map fun e => ((e : Nat) : Int) := by
    unfold firsts
    rw [List.map_map]
    refine (List.map_id _).symm.trans (List.map_congr_left fun i hi => ?_)
    rw [sortI_mem] at hi
    obtain ⟨l, _, rfl⟩ := List.mem_map.mp hi
    simp
  refine tss_cons (tsp_forL (firsts ls) (fun e => .int (e : Nat)) [2] (fun i ρ2 μ2 => (∃ a b c, ρ2 = R a b c none) ∧ ∃ junk, μ2 = some (.lst ((((firsts ls).take i).flatMap (ringsFrom n ls)).map fun r => .sh (rgP r))) :: junk)
    (EI.is (ei_list (fun Q q => tep_sortSC ls lkP (fun l => R none none none (some (.sh (lkP l)))) (fun l => (l.1 : Int)) [5] [("link", 5)] nd (blkOk_by (by kernel_rfl)) B.sorted (ei_list (ev_name 0)) hl64 (fun a _ => tgb_name 5 nd (by decide) rfl rfl) (fun l _ s H C cl fp => ev_ixT (ev_name 5) ev_int rfl) q)) (by rw [hfe, List.map_map, List.map_map]; rfl)) ⟨⟨none, none, none, rfl⟩, [], rfl⟩ ?_ ?_ rfl)
  · rintro i f1 ρ2 μ2 hf ⟨⟨a, b, c, rfl⟩, junk, rfl⟩
    refine tgp_name 2 ?_ (by decide) nd rfl (.inr rfl) (.inl rfl)
    have htk : (firsts ls).take (i + 1) = (firsts ls).take i ++ [f1] := by rw [List.take_add_one, hf]; rfl
    generalize hF0 : ((firsts ls).take i).flatMap (ringsFrom n ls) = F0
    have hlim : F0.length + (ringsFrom n ls f1).length ≤ 8000000 := by
      have e : ringsOf n ls = (F0 ++ ringsFrom n ls f1) ++ ((firsts ls).drop (i + 1)).flatMap (ringsFrom n ls) := by
        unfold ringsOf
        rw [← hF0]
        have h1 : firsts ls = ((firsts ls).take i ++ [f1]) ++ (firsts ls).drop (i + 1) := by rw [← htk, List.take_append_drop]
        conv => lhs; rw [h1]
        rw [List.flatMap_append, List.flatMap_append, List.flatMap_singleton]
      rw [e, List.length_append, List.length_append] at htot
      omega
    have hin1 : ∀ w ∈ init ls f1, WayOk ls f1 w ∧ w.length = 1 := fun w hw => init_ok hw
    have hc0 : ((init ls f1).map (costW n ls f1)).sum ≤ 8000000 := by
      have h1 := sum_le_mul (costW n ls f1) ((ls.length + 1) ^ (n - 1)) (init ls f1) fun v hv => by
        unfold costW
        rw [(hin1 v hv).2]
        exact cost_le _ _
      have h2 : (init ls f1).length * (ls.length + 1) ^ (n - 1) ≤ ls.length * (ls.length + 1) ^ (n - 1) := Nat.mul_le_mul_right _ (init_len ls f1)
      have hn : 1 ≤ n := by
        obtain ⟨l, hl, _⟩ := firsts_mem.mp (List.mem_of_getElem? hf)
        have := (hin l hl).1
        omega
      have h3 : 1 * (ls.length * (ls.length + 1) ^ (n - 1)) ≤ n * (ls.length * (ls.length + 1) ^ (n - 1)) := Nat.mul_le_mul_right _ hn
      omega
    refine tss_cons (tsp_setL1C 3 ls lkP (fun l => R (some (.sh (.int (f1 : Nat)))) b c (some (.sh (lkP l)))) (fun l => decide (l.1 = f1) && decide (f1 ≤ l.2.1)) (fun l => rgP [l]) [5] [("link", 5)] nd (blkOk_by (by kernel_rfl)) (ei_list (ev_name 0)) hl2 (fun a _ => tgb_name 5 nd (by decide) rfl rfl)
      (fun l _ s H C cl fp => ET.is (et_w (ew_and (et_eqI (ev_ixT (ev_name 5) ev_int rfl) (ev_name 2)) fun _ => ew_and1 (et_ge (ev_ixT (ev_name 5) ev_int rfl) (ev_name 2)))) (by rw [dec_nat, dec_le])) (fun l _ _ s H C cl fp => ev_lst (ys := [lkP l]) (eas_cons (ev_name 5) eas_nil) (Nat.le_of_ble_eq_true rfl)) ?_)
    have e0 : (((ls.filter fun l => decide (l.1 = f1) && decide (f1 ≤ l.2.1)).map fun l => rgP [l]).map PV.E.sh) = (init ls f1).map fun w => .sh (rgP w) := by
      unfold init
      rw [List.map_map, List.map_map]
      rfl
    rw [e0]
    refine tss_one (tsp_whileP (fun m ρ3 μ3 => ∃ F1 st c2, ρ3 = R (some (.sh (.int (f1 : Nat)))) (some (.pt (junk.length + 1))) c2 none ∧ μ3 = some (.lst (F1.map fun r => .sh (rgP r))) :: (junk ++ [some (.lst (st.map fun w => .sh (rgP w)))]) ∧
      (∀ w ∈ st, WayOk ls f1 w ∧ w.length ≤ n) ∧ (st.map (costW n ls f1)).sum = m ∧ m ≤ 8000000 ∧ F0 ++ ringsFrom n ls f1 = F1 ++ st.reverse.flatMap (descW n ls f1)) ((init ls f1).map (costW n ls f1)).sum
      ⟨F0, init ls f1, c, rfl, rfl, fun w hw => ⟨(hin1 w hw).1, ?_⟩, rfl, hc0, rfl⟩ ?_)
    · rw [(hin1 w hw).2]
      have := (path_lt hin (hin1 w hw).1.path (hin1 w hw).1.ne).1
      omega
    rintro m ρ3 μ3 ⟨F1, st, c2, rfl, rfl, hst, hm1, hm2, hF⟩
    have hW : ∀ (x : List PV.E), (some (Cell.lst (F1.map fun r => .sh (rgP r))) :: (junk ++ [some (Cell.lst x)]))[junk.length + 1]? = some (some (.lst x)) := fun x => by
      rw [List.getElem?_cons_succ, List.getElem?_append_right (Nat.le_refl _), Nat.sub_self]
      rfl
    refine (ET.is (y := decide (st ≠ [])) (et_gt (ev_lenC B.len (ev_name 3) (hW _)) ev_int) (by cases st <;> simp)) _ ?_
    by_cases hs0 : st = []
    · subst hs0
      rw [if_neg (by simp)]
      refine ⟨⟨_, _, _, rfl⟩, junk ++ [some (.lst [])], ?_⟩
      rw [htk, List.flatMap_append, hF0, List.flatMap_singleton, hF]
      simp
    rw [if_pos (by simpa using hs0)]
    obtain ⟨st', way, rfl⟩ : ∃ st' way, st = st' ++ [way] := by
      rcases List.eq_nil_or_concat st with z | ⟨st', way, z⟩
      · exact absurd z hs0
      · exact ⟨st', way, by rw [z, List.concat_eq_append]⟩
    obtain ⟨hw1, hw2⟩ := hst way (by simp)
    refine tss_cons (tsp_setP 4 nd (tep_pop (y := .sh (rgP way)) (ev_name 3) (hW _) (by rw [List.map_append, List.length_append]; simp) ?_))
    have ed : ((st' ++ [way]).map fun w => PV.E.sh (rgP w)).dropLast = st'.map fun w => .sh (rgP w) := by rw [List.map_append]; simp
    have eset : ∀ (q : Option Cell) (x z : Option Cell), (q :: (junk ++ [x])).set (junk.length + 1) z = q :: (junk ++ [z]) := fun q x z => by
      rw [List.set_cons_succ, set_end]
    rw [ed, eset]
    have hsum : (st'.map (costW n ls f1)).sum + costW n ls f1 way = m := by
      rw [← hm1, List.map_append, List.sum_append]
      simp
    have hF2 : F0 ++ ringsFrom n ls f1 = F1 ++ (descW n ls f1 way ++ st'.reverse.flatMap (descW n ls f1)) := by
      rw [hF, List.reverse_append]
      rfl
    have hF1l : F1.length ≤ 8000000 := by
      have := congrArg List.length hF
      rw [List.length_append, List.length_append] at this
      omega
    have hst2 : ∀ w ∈ st', WayOk ls f1 w ∧ w.length ≤ n := fun w hw => hst w (List.mem_append_left _ hw)
    refine tss_one (tsp_ifE (ET.is (et_eqI (ev_lastTo hw1.ne (ev_name 4) (ev_neg ev_int) ev_int) (ev_name 2)) (dec_nat _ _)) (fun hc => ?_) fun hc => ?_)
    · have hc := of_decide_eq_true hc
      refine tss_one (tsp_expr (tep_appendX (ev_name 1) (ev_name 4) rfl (by rw [List.length_map]; omega) ?_))
      refine ⟨(st'.map (costW n ls f1)).sum, ?_, F1 ++ [way], st', _, rfl, ?_, hst2, rfl, by omega, ?_⟩
      · have : costW n ls f1 way = 1 := cost_closed hc
        omega
      · rw [List.map_append]
        rfl
      · rw [hF2, show descW n ls f1 way = [way] from desc_closed hc, List.append_assoc]
    · have hc := of_decide_eq_false hc
      have hsh := hw1.short hc hin
      obtain ⟨k, hk⟩ : ∃ k, n - way.length = k + 1 := ⟨n - way.length - 1, by omega⟩
      have hch : ∀ v ∈ longerL ls way f1, WayOk ls f1 v ∧ v.length = way.length + 1 := fun v hv => hw1.child hc hv
      have hkv : ∀ v ∈ longerL ls way f1, n - v.length = k := fun v hv => by rw [(hch v hv).2]; omega
      have ecost : costW n ls f1 way = 1 + ((longerL ls way f1).map (costW n ls f1)).sum := by
        unfold costW
        rw [hk, cost_open hc]
        congr 2
        exact List.map_congr_left fun v hv => by rw [hkv v hv]
      have edesc : descW n ls f1 way = (longerL ls way f1).reverse.flatMap (descW n ls f1) := by
        unfold descW
        rw [hk, desc_open hc]
        have : ∀ l : List (List Lk), (∀ v ∈ l, n - v.length = k) → l.flatMap (desc ls f1 k) = l.flatMap fun w => desc ls f1 (n - w.length) w := fun l => by
          induction l with
          | nil => exact fun _ => rfl
          | cons v l ih =>
            intro h
            rw [List.flatMap_cons, List.flatMap_cons, ih fun u hu => h u (List.mem_cons_of_mem _ hu), h v List.mem_cons_self]
        exact this _ fun v hv => hkv v (List.mem_reverse.mp hv)
      have hlen : st'.length + (longerL ls way f1).length ≤ m := by
        have h1 := len_le_sum (costW n ls f1) (st' ++ longerL ls way f1) fun v _ => cost_pos _ _
        rw [List.map_append, List.sum_append, List.length_append] at h1
        omega
      have hwl : way.length ≤ 1000 := by
        have h1 := nat_nd_len hw1.nd (n := n) fun x hx => outs_lt hin hw1.path x hx
        have hn : n ≤ 1000 ∨ 1000 < n := by omega
        rcases hn with hn | hn
        · unfold outs at h1
          rw [List.length_map] at h1
          omega
        · refine absurd hfew (Nat.not_le.mpr ?_)
          have hL : 1 ≤ ls.length := List.length_pos_of_mem (path_mem hw1.path (way.getLast hw1.ne) (List.getLast_mem _))
          have h2 : 2 ^ 1000 ≤ (ls.length + 1) ^ (n - 1) := Nat.le_trans (Nat.pow_le_pow_left (show 2 ≤ ls.length + 1 by omega) 1000) (Nat.pow_le_pow_right (by omega) (by omega))
          have h3 : 1 * (1 * 2 ^ 1000) ≤ n * (ls.length * (ls.length + 1) ^ (n - 1)) := Nat.mul_le_mul (by omega) (Nat.mul_le_mul hL h2)
          exact Nat.lt_of_lt_of_le (by decide +kernel) h3
      refine tss_one (tsp_expr (tep_extendX (xs := (longerL ls way f1).map rgP) (ev_name 3) (ev_call c1 (hr.mono (by decide)) (eas_cons (ev_name 0) (eas_cons (ev_name 4) (eas_cons (ev_name 2) eas_nil))) ⟨ls, way, f1, rfl, hw1.ne, by omega, hwl, rfl⟩) (hW _) (by rw [List.length_map, List.length_map]; omega) ?_))
      rw [eset]
      · refine ⟨((st' ++ longerL ls way f1).map (costW n ls f1)).sum, ?_, F1, st' ++ longerL ls way f1, _, rfl, ?_, fun w hw => ?_, rfl, ?_, ?_⟩
        · rw [List.map_append, List.sum_append]
          omega
        · rw [List.map_append, List.map_map]
          rfl
        · rcases List.mem_append.mp hw with z | z
          · exact hst2 w z
          · refine ⟨(hch w z).1, ?_⟩
            rw [(hch w z).2]
            omega
        · rw [List.map_append, List.sum_append]
          omega
        · rw [hF2, edesc, List.reverse_append, List.flatMap_append]
  · rintro ρ2 μ2 ⟨⟨a, b, c, rfl⟩, junk, rfl⟩
    rw [List.take_length]
    refine tss_one (tsp_retV (ev_name 1) (Frz.lstS ?_))
    rw [List.map_map]
    rfl
end
end PV

/-! The walks: bounds of rings, the best ring, links with distances, periods and their clash. -/
namespace PV
open PySem PySem.Spec PyProof.Rows L2
/-- a net as the law knows it -/
structure NetD (K : PySem.W.Frag) (C : Addr) (n : Nat) (as : List Arc) (ord : List Nat) (ls : List Arc) : Prop where
  cls : NetC K C
  n1 : 1 ≤ n
  n5 : n ≤ 5
  inn : InN n as
  perm : ls.Perm (as ++ selfArcs n)
  ord : OrdOk n (as ++ selfArcs n) ord
  len : as.length ≤ 6
  small : ∀ a ∈ as, a.2.2.1 ≤ 10 ∧ a.2.2.2 ≤ 30
/-- distances as the law knows them -/
structure DisOk (n : Nat) (ds : List Arc) : Prop where
  inn : InN n ds
  len : ds.length ≤ 5
  small : ∀ a ∈ ds, a.2.2.1 ≤ 10 ∧ a.2.2.2 ≤ 40
/-- links of few events and small numbers -/
structure LkOk (n : Nat) (ls : List Lk) : Prop where
  lok : Lok n ls
  n5 : n ≤ 5
  small : ∀ l ∈ ls, (-40 ≤ l.2.2.1 ∧ l.2.2.1 ≤ 40) ∧ (-40 ≤ l.2.2.2 ∧ l.2.2.2 ≤ 40)
theorem wt_bd {w : Lk → Int} : ∀ (r : List Lk), (∀ l ∈ r, -40 ≤ w l ∧ w l ≤ 40) → -(40 * (r.length : Int)) ≤ wt w r ∧ wt w r ≤ 40 * (r.length : Int)
  | [], _ => by simp [wt]
  | l :: r, h => by
    have h1 := h l List.mem_cons_self
    have h2 := wt_bd r fun k hk => h k (List.mem_cons_of_mem _ hk)
    rw [wt_cons, List.length_cons]
    omega
theorem ring_rok {n : Nat} {ls : List Lk} (L : LkOk n ls) {a : Nat} {r : List Lk} (R : Ring ls a r) : Rok r := by
  have h1 := nat_nd_len R.nd (n := n) fun x hx => outs_lt L.lok.inn R.path x hx
  have h2 : r.length ≤ 5 := by
    unfold outs at h1
    rw [List.length_map] at h1
    have := L.n5
    omega
  have h3 := wt_bd (w := fun l => l.2.2.2) r fun l hl => (L.small l (path_mem R.path l hl)).2
  have h4 := wt_bd (w := fun l => l.2.2.1) r fun l hl => (L.small l (path_mem R.path l hl)).1
  exact ⟨by omega, by unfold tks; omega, by unfold tok; omega⟩
theorem rings_rok {n : Nat} {ls : List Lk} (L : LkOk n ls) : ∀ r ∈ ringsOf n ls, Rok r := fun r hr => by
  obtain ⟨f, R⟩ := rings_sound hr
  exact ring_rok L R
theorem lok_of {n : Nat} {ls : List Lk} (hin : InK n ls) (hn : n ≤ 5) (hl : ls.length ≤ 16) : Lok n ls := by
  refine ⟨hin, by omega, ?_⟩
  have h1 : (ls.length + 1) ^ (n - 1) ≤ 17 ^ 4 := Nat.le_trans (Nat.pow_le_pow_left (by omega) _) (Nat.pow_le_pow_right (by decide) (by omega))
  have h2 : n * (ls.length * (ls.length + 1) ^ (n - 1)) ≤ 5 * (16 * 17 ^ 4) := Nat.mul_le_mul hn (Nat.mul_le_mul hl h1)
  exact Nat.le_trans h2 (by decide)
theorem allLk_len (n : Nat) (as ds : List Arc) : (allLk n as ds).length = as.length + n + ds.length := by
  unfold allLk netLk selfArcs
  simp
  omega
theorem all_small {n : Nat} {as ds : List Arc} (h1 : ∀ a ∈ as, a.2.2.1 ≤ 10 ∧ a.2.2.2 ≤ 30) (h2 : ∀ a ∈ ds, a.2.2.1 ≤ 10 ∧ a.2.2.2 ≤ 40) : ∀ l ∈ allLk n as ds, (-40 ≤ l.2.2.1 ∧ l.2.2.1 ≤ 40) ∧ (-40 ≤ l.2.2.2 ∧ l.2.2.2 ≤ 40) := fun l hl => by
  rcases List.mem_append.mp hl with z | z
  · obtain ⟨a, ha, rfl⟩ := List.mem_map.mp z
    rcases List.mem_append.mp ha with y | y
    · have := h1 a y
      simp only [ofArc]
      omega
    · obtain ⟨e, _, rfl⟩ := List.mem_map.mp y
      simp only [ofArc]
      omega
  · obtain ⟨a, ha, rfl⟩ := List.mem_map.mp z
    have := h2 a ha
    simp only [backLk]
    omega
theorem with_lkok {K : PySem.W.Frag} {C : Addr} {n : Nat} {as ds ls : List Arc} {ord : List Nat} (N : NetD K C n as ord ls) (D : DisOk n ds) : LkOk n (withLk n as ds) :=
  ⟨lok_of (withLk_in N.inn D.inn) N.n5 (by unfold withLk; rw [sortL_len, allLk_len]; have := N.len; have := N.n5; have := D.len; omega), N.n5, fun l hl => all_small N.small D.small l (sortL_mem.mp hl)⟩
theorem net_lkok {K : PySem.W.Frag} {C : Addr} {n : Nat} {as ls : List Arc} {ord : List Nat} (N : NetD K C n as ord ls) : LkOk n (ls.map ofArc) := by
  have pm : (ls.map ofArc).Perm (netLk n as) := N.perm.map ofArc
  have e : netLk n as = allLk n as [] := by unfold allLk; simp
  refine ⟨lok_of (fun l hl => netLk_in N.inn l (pm.mem_iff.mp hl)) N.n5 ?_, N.n5, fun l hl => all_small (ds := []) N.small (fun a h => by simp at h) l (by rw [← e]; exact pm.mem_iff.mp hl)⟩
  rw [pm.length_eq, e, allLk_len]
  have := N.len
  have := N.n5
  simp
  omega
end PV

/-! The walks: links with distances, periods and their clash. -/
namespace PV
open PySem PySem.Spec PyProof.Rows L2
section
variable {g : Bool} {Pr : Program} {w : World} {K : PySem.W.Frag} {mg : Str → Option Value} {base : Heap} {f : Addr} {fd : FuncData} {C : Addr}
theorem sc_links_with : FnScope ["net", "distances", "index", "thing", "one", "other", "tokens", "most"] ["net", "distances"] (defScope s_links_with) := ⟨rfl, rfl, rfl, by decide +kernel, rfl, by decide +kernel, by decide +kernel⟩
def F_links_with (K : PySem.W.Frag) (zs : List P) (y : P) : Prop := ∃ C n as ord ls x ds, zs = [netP C n as ord ls, x] ∧ NetD K C n as ord ls ∧ LArcs x ds ∧ DisOk n ds ∧ y = rgP (withLk n as ds)
theorem c_links_with (F : FnP K "links_with" "links_with" s_links_with f fd) (hm : mg "links_with" = some (.ref f)) (B : Bl mg) (c1 : Ct g Pr w K mg base 1 "is_list" (SF F_is_list)) (c2 : Ct g Pr w K mg base 4 "is_arc" (SF F_is_arc)) :
    Ct g Pr w K mg base 5 "links_with" (SF (F_links_with K)) := by
  refine ct_pure F hm sc_links_with (fun _ _ _ _ _ _ us hl => match us, hl with | [_, _], _ => rfl) (by rintro _ _ ⟨C, n, as, ord, ls, x, ds, rfl, _⟩; rfl) fun cdv A outer s H E hr zs y hF => ?_
  obtain ⟨C, n, as, ord, ls, x, ds, rfl, N, ⟨ps, hx, hp⟩, D, rfl⟩ := hF
  have hl := D.len
  have i3 : ∃ T, tyP x = some T ∧ isListP x = true := by rcases hx with rfl | rfl <;> exact ⟨_, rfl, rfl⟩
  obtain ⟨T, hT, i2⟩ := i3
  have nd := sc_links_with.nd
  refine tss_cons (tsp_ifE (et_not (et_val (ev_call c1 (hr.mono (by decide)) (eas_cons (ev_name 1) eas_nil) ⟨x, T, rfl, hT, rfl⟩))) (fun h => absurd h (by rw [i2]; decide)) fun _ => tss_nil ?_)
  refine tss_cons (tsp_forL (List.range ps.length) (fun i => .tup [.int (i : Nat), ps.getD i .non]) [2, 3] (fun i ρ2 μ2 => μ2 = [] ∧ ∃ u v, ρ2 = [some (.sh (netP C n as ord ls)), some (.sh x), u, v, none, none, none, none]) (ei_enumS hx B.enumerate (ev_name 1)) ⟨rfl, none, none, rfl⟩ ?_ ?_)
  · rintro i j ρ2 μ2 e ⟨rfl, u, v, rfl⟩
    obtain ⟨hj, rfl⟩ := List.getElem?_eq_some_iff.mp e
    simp only [List.length_range] at hj
    simp only [List.getElem_range]
    obtain ⟨a, ha, hpa⟩ := pd_right hp i ps[i] (List.getElem?_eq_getElem hj)
    have eg : ps.getD i .non = ps[i] := by rw [List.getD_eq_getElem?_getD, List.getElem?_eq_getElem hj]; rfl
    rw [eg]
    have hv := D.inn a (List.mem_of_getElem? ha)
    refine tgp_names ["index", "thing"] [2, 3] nd (.inr rfl) rfl ?_
    refine tss_one (tsp_ifE (et_not (et_val (ev_call c2 (hr.mono (by decide)) (eas_cons (ev_name 3) (eas_cons (ev_attr (ev_name 0) N.cls.cls N.cls.many rfl) eas_nil)) ⟨ps[i], a, n, rfl, hpa, hv.1, hv.2, rfl⟩))) (fun h => nomatch h) fun _ => tss_nil ⟨rfl, _, _, rfl⟩)
  · rintro ρ2 μ2 ⟨rfl, u, v, rfl⟩
    -- the rows by what they hold
    have hrow : ∀ p ∈ ps, ∃ a ∈ ds, Sq p (arcL a) := fun p hm => by
      obtain ⟨i, hi⟩ := List.mem_iff_getElem?.mp hm
      obtain ⟨a, ha, hpa⟩ := pd_right hp i p hi
      exact ⟨a, List.mem_of_getElem? ha, hpa⟩
    let rowI : P → List P := fun p => itemsP p
    have hit : ∀ p ∈ ps, Sq p (itemsP p) ∧ ∃ a ∈ ds, itemsP p = arcL a := fun p hm => by
      obtain ⟨a, ha, hs⟩ := hrow p hm
      rcases hs with rfl | rfl
      · exact ⟨.inl rfl, a, ha, rfl⟩
      · exact ⟨.inr rfl, a, ha, rfl⟩
    let bk : P → P := fun p => match itemsP p with
      | [a, b, .int t, .int m] => .tup [b, a, .int (0 - t), .int (0 - m)]
      | _ => .non
    let it : P → Nat → Option PV.E := fun p i => ((itemsP p)[i]?).map .sh
    have hat : ∀ (p : P) (a : Arc), itemsP p = arcL a → it p 0 = some (.sh (.int (a.1 : Nat))) ∧ it p 1 = some (.sh (.int (a.2.1 : Nat))) ∧ it p 2 = some (.sh (.int (a.2.2.1 : Nat))) ∧ it p 3 = some (.sh (.int (a.2.2.2 : Nat))) := fun p a h2 => by
      refine ⟨?_, ?_, ?_, ?_⟩
      · show ((itemsP p)[0]?).map _ = _; rw [h2]; rfl
      · show ((itemsP p)[1]?).map _ = _; rw [h2]; rfl
      · show ((itemsP p)[2]?).map _ = _; rw [h2]; rfl
      · show ((itemsP p)[3]?).map _ = _; rw [h2]; rfl
    have hback : ps.map bk = ds.map fun a => lkP (backLk a) := by
      clear hx hit hrow
      induction hp with
      | nil => rfl
      | cons h _ ih =>
        rw [List.map_cons, List.map_cons]
        congr 1
        · rcases h with rfl | rfl <;> rfl
        · refine ih ⟨fun a ha => D.inn a (List.mem_cons_of_mem _ ha), by have := D.len; rw [List.length_cons] at this; omega, fun a ha => D.small a (List.mem_cons_of_mem _ ha)⟩ ?_
          have := D.len
          rw [List.length_cons] at this
          omega
    have hlen : ps.length ≤ 100000 := by rw [hp.length]; omega
    refine tss_one (tsp_ret (tep_sortR (ls.map ofArc ++ ds.map backLk) lkI 4 (by decide) B.sorted (EV.is (ev_lst (ys := ls.map arcP ++ (ps.map bk ++ [])) (eas_star (ev_attr (ev_name 0) N.cls.cls N.cls.links rfl) (eas_star (ev_lc0 ps (fun z => z) (fun z => [some (.sh (netP C n as ord ls)), some (.sh x), u, v, it z 0, it z 1, it z 2, it z 3]) bk [4, 5, 6, 7] [("one", 4), ("other", 5), ("tokens", 6), ("most", 7)] rfl nd (blkOk_by (by kernel_rfl)) (ei_seq hx (ev_name 1)) hlen
      (fun p hm => ?_) fun p hm s H C cl fp => ?_) eas_nil)) ?_) ?_) (fun a _ => rfl) fun l2 h1 h2 => ?_))
    · obtain ⟨h1, a, ha, h2⟩ := hit p hm
      obtain ⟨e0, e1, e2, e3⟩ := hat p a h2
      have hsq : Sq p (arcL a) := by rw [← h2]; exact h1
      rw [e0, e1, e2, e3]
      exact tgb_tup ["one", "other", "tokens", "most"] [4, 5, 6, 7] (xs := arcL a) nd hsq
    · obtain ⟨h1, a, ha, h2⟩ := hit p hm
      obtain ⟨e0, e1, e2, e3⟩ := hat p a h2
      have eb : bk p = lkP (backLk a) := by show (match itemsP p with | [a, b, .int t, .int m] => P.tup [b, a, .int (0 - t), .int (0 - m)] | _ => .non) = _; rw [h2]; rfl
      rw [e0, e1, e2, e3, eb]
      exact ev_tup (ys := [.int (a.2.1 : Nat), .int (a.1 : Nat), .int (0 - (a.2.2.1 : Int)), .int (0 - (a.2.2.2 : Int))]) (eas_cons (ev_name 5) (eas_cons (ev_name 4) (eas_cons (ev_sub ev_int (ev_name 6)) (eas_cons (ev_sub ev_int (ev_name 7)) eas_nil)))) (Nat.le_of_ble_eq_true rfl)
    · have := N.perm.length_eq
      have h5 := N.n5
      have h6 := N.len
      simp only [List.length_append, List.length_map, List.length_nil, selfArcs, List.length_range] at this ⊢
      rw [hp.length]
      omega
    · rw [hback, List.append_nil, List.map_append, List.map_map, List.map_map]
      rfl
    · have e : l2 = withLk n as ds := by
        rw [sortL_of h1 h2]
        refine sortL_eq ?_
        unfold allLk netLk
        exact (N.perm.map ofArc).append_right _
      rw [e]
      exact .sh _
end
end PV

/-! The walks: rates, heights, plans. -/
namespace PV
open PySem PySem.Spec PyProof.Rows L2
section
variable {g : Bool} {Pr : Program} {w : World} {K : PySem.W.Frag} {mg : Str → Option Value} {base : Heap} {f : Addr} {fd : FuncData} {C : Addr}
/-! ### heights -/
def optI : Option (List Int) → P
  | none => .non
  | some f => .lst (f.map .int)
theorem sc_potentials : FnScope ["many", "links", "weights", "found", "turn", "later", "link", "weight", "event"] ["many", "links", "weights"] (defScope s_potentials) := ⟨rfl, rfl, rfl, by decide +kernel, rfl, by decide +kernel, by decide +kernel⟩
def F_potentials (zs : List P) (y : P) : Prop := ∃ (n : Nat) (ls : List Lk) (wf : Lk → Int), zs = [.int (n : Nat), rgP ls, .lst ((ls.map wf).map .int)] ∧ InK n ls ∧ ls.length ≤ 1000 ∧ n ≤ 1000 ∧ y = optI (potOf n ls wf)
theorem zip_maps {α : Type} (l : List α) (f1 f2 : α → P) : ((List.range (min (l.map f1).length (l.map f2).length)).map fun i => PV.E.sh (.tup [(l.map f1).getD i .non, (l.map f2).getD i .non])) = l.map fun a => .sh (.tup [f1 a, f2 a]) := by
  rw [List.length_map, List.length_map, Nat.min_self]
  refine List.ext_getElem? fun i => ?_
  rw [List.getElem?_map, List.getElem?_map]
  by_cases h : i < l.length
  · rw [List.getElem?_range h, List.getElem?_eq_getElem h, Option.map_some, Option.map_some, List.getD_eq_getElem?_getD, List.getD_eq_getElem?_getD, List.getElem?_map, List.getElem?_map, List.getElem?_eq_getElem h]
    rfl
  · rw [List.getElem?_eq_none (by simpa using h), List.getElem?_eq_none (by simpa using h)]
    rfl
theorem gt_at {fl : List Int} {i : Nat} (h : i < fl.length) : ((fl.map P.int).map PV.E.sh)[i]? = some (.sh (.int (gt fl i))) := by
  rw [List.getElem?_map, List.getElem?_map, List.getElem?_eq_getElem h]
  unfold gt
  rw [List.getD_eq_getElem?_getD, List.getElem?_eq_getElem h]
  rfl
theorem eqv_lints (ns ms : List Int) : PyData.eqv (.list (ns.map .int)) (.list (ms.map .int)) = decide (ns = ms) := by simp only [PyData.eqv]; exact eqvAll_ints ns ms
theorem c_potentials (F : FnP K "potentials" "potentials" s_potentials f fd) (hm : mg "potentials" = some (.ref f)) (B : Bl mg) : Ct g Pr w K mg base 1 "potentials" (SF F_potentials) := by
  refine ct_pure F hm sc_potentials (fun _ _ _ _ _ _ us hl => match us, hl with | [_, _, _], _ => rfl) (by rintro _ _ ⟨n, ls, wf, rfl, _⟩; rfl) fun cdv A outer s H E hr zs y hF => ?_
  obtain ⟨n, ls, wf, rfl, hin, hl, hn, rfl⟩ := hF
  have nd := sc_potentials.nd
  let R : List Int → Option PV.E → Option PV.E → Option PV.E → Option PV.E → Rho := fun fl a b c d => [some (.sh (.int (n : Nat))), some (.sh (rgP ls)), some (.sh (.lst ((ls.map wf).map .int))), some (.sh (.lst (fl.map .int))), a, b, c, d, none]
  refine tss_cons (tsp_setL0 3 (List.range n) (fun e => .int (e : Nat)) (fun e => [some (.sh (.int (n : Nat))), some (.sh (rgP ls)), some (.sh (.lst ((ls.map wf).map .int))), none, none, none, none, none, some (.sh (.int (e : Nat)))]) (fun _ => .int 0) [8] [("event", 8)] nd (blkOk_by (by kernel_rfl)) (ei_range1 B.range (ev_name 0) (by omega)) (by rw [List.length_range]; omega) (fun a _ => tgb_name 8 nd (by decide) rfl rfl) (fun e _ s H C cl fp => ev_int) ?_)
  have e0 : ((List.range n).map fun _ => P.int 0) = (List.replicate n (0 : Int)).map .int := by
    rw [List.map_replicate]
    exact List.map_const' ▸ by simp
  refine tss_cons (tsp_forL (List.range (n + 1)) (fun e => .int (e : Nat)) [4] (fun i ρ2 μ2 => ∃ fl a b c d, ρ2 = R fl a b c d ∧ fl.length = n ∧ potGo wf ls (n + 1 - i) fl = potOf n ls wf) (ei_range1 B.range (ev_add (ev_name 0) ev_int) (by omega)) ⟨List.replicate n 0, none, none, none, none, by rw [e0]; rfl, by simp, rfl⟩ ?_ ?_ (by rw [show ((n : Int) + 1).toNat = n + 1 by omega]))
  · rintro i k ρ2 μ2 hk ⟨fl, a, b, c, d, rfl, hfl, hgo⟩
    obtain ⟨hi, rfl⟩ := List.getElem?_eq_some_iff.mp hk
    simp only [List.length_range] at hi
    rw [List.getElem_range]
    refine tgp_name 4 ?_ (by decide) nd rfl (.inl rfl) (.inl rfl)
    refine tss_cons (tsp_setP 5 nd (tep_listC B.list ((ev_name 3) _ ⟨fl.map .int, .inl rfl, ?_⟩)))
    refine tss_cons (tsp_forL ls (fun l => .tup [lkP l, .int (wf l)]) [6, 7] (fun j ρ3 μ3 => (∃ c d, ρ3 = R fl (some (.sh (.int (i : Nat)))) (some (.pt μ2.length)) c d) ∧ μ3[μ2.length]? = some (some (.lst (((roundP wf (ls.take j) fl).map .int).map .sh)))) (EI.is (ei_zip (xs := ls.map lkP) (ys := ls.map fun l => .int (wf l)) B.zip (ev_name 1) (EV.is (ev_name 2) (by rw [List.map_map]; rfl))) (zip_maps ls _ _)) ⟨⟨c, d, rfl⟩, ?_⟩ ?_ ?_)
    · rw [List.getElem?_append_right (Nat.le_refl _), Nat.sub_self]
      rfl
    · rintro j l ρ3 μ3 hj ⟨⟨c, d, rfl⟩, hM⟩
      have hlm := List.mem_of_getElem? hj
      obtain ⟨i1, i2⟩ := hin l hlm
      have htk : roundP wf (ls.take (j + 1)) fl = relax wf (roundP wf (ls.take j) fl) l := by
        rw [List.take_add_one, hj, round_app]
        rfl
      have hrl : (roundP wf (ls.take j) fl).length = n := (round_len _ _).trans hfl
      generalize roundP wf (ls.take j) fl = G at *
      refine tgp_names ["link", "weight"] [6, 7] nd (.inr rfl) rfl ?_
      have at1 := gt_at (fl := G) (i := l.1) (by omega)
      have at2 := gt_at (fl := G) (i := l.2.1) (by omega)
      refine tss_one (tsp_seti ((ev_max2 rfl B.max (ev_ixC (ev_name 5) (ev_ixT (ev_name 6) ev_int rfl) hM (atI_of l.2.1 rfl at2)) (ev_add (ev_ixC (ev_name 5) (ev_ixT (ev_name 6) ev_int rfl) hM (atI_of l.1 rfl at1)) (ev_name 7))) _ ((ev_name 5) _ ((ev_ixT (ev_name 6) ev_int rfl) _ ⟨μ2.length, _, l.2.1, rfl, rfl, hM, by simp; omega, ⟨_, _, rfl⟩, ?_⟩))))
      rw [List.getElem?_set_self (by have := (List.getElem?_eq_some_iff.mp hM).1; exact this), htk]
      unfold relax
      rw [List.map_set, List.map_set]
    · rintro ρ3 μ3 ⟨⟨c, d, rfl⟩, hM⟩
      rw [List.take_length] at hM
      refine tss_share μ2.length (zs := (roundP wf ls fl).map .int) (R := R fl (some (.sh (.int (i : Nat)))) (some (.sh (.lst ((roundP wf ls fl).map .int)))) c d) hM rfl ?_ ?_
      · intro i2 x2' hx2
        match i2, hx2 with
        | 0, h => exact .inl h
        | 1, h => exact .inl h
        | 2, h => exact .inl h
        | 3, h => exact .inl h
        | 4, h => exact .inl h
        | 5, h => cases h; exact .inr ⟨rfl, rfl⟩
        | i2 + 6, h => exact .inl h
      · obtain ⟨m, hm⟩ : ∃ m, n + 1 - i = m + 1 := ⟨n - i, by omega⟩
        rw [hm] at hgo
        unfold potGo at hgo
        refine tss_cons (tsp_ifE (ET.is (et_eqD hr.u64 (ev_name 5) (ev_name 3) (.sh (pd_ints (n := 0) _) (by decide)) (.sh (pd_ints (n := 0) _) (by decide))) (eqv_lints _ _)) (fun h => ?_) fun h => tss_nil ?_)
        · rw [if_pos (of_decide_eq_true h)] at hgo
          rw [← hgo]
          exact tss_one (tsp_retV (ev_name 3) (.sh _))
        · rw [if_neg (of_decide_eq_false h)] at hgo
          refine tss_one (tsp_setV 3 nd (ev_name 5) ⟨roundP wf ls fl, _, _, _, _, rfl, (round_len _ _).trans hfl, ?_⟩)
          rw [← hgo]
          congr 1
          omega
  · rintro ρ2 μ2 ⟨fl, a, b, c, d, rfl, hfl, hgo⟩
    rw [List.length_range, Nat.sub_self] at hgo
    rw [← hgo]
    exact tss_one (tsp_retV ev_non (.sh _))
end
end PV

/-! The walks: plans, rings of links. -/
namespace PV
open PySem PySem.Spec PyProof.Rows L2
theorem path_first {ls : List Lk} {a b : Nat} {r : List Lk} (p : Path ls a r b) : outs r ++ [b] = a :: r.map (·.2.1) := by
  induction r generalizing a with
  | nil => cases p; rfl
  | cons l r ih =>
    obtain ⟨h1, h2, h3⟩ := p
    show l.1 :: (outs r ++ [b]) = a :: l.2.1 :: r.map (·.2.1)
    rw [ih h3, h2]
theorem ring_ends {ls : List Lk} {a : Nat} {r : List Lk} (R : Ring ls a r) : (r.map (fun l => l.2.1)).Nodup := by
  have h1 := path_first R.path
  have h2 : (a :: outs r).Perm (outs r ++ [a]) := List.perm_append_comm (l₁ := [a])
  rw [h1] at h2
  exact h2.cons_inv.nodup_iff.mp R.nd
theorem ring_prev {ls : List Lk} {a : Nat} {r : List Lk} (R : Ring ls a r) {i : Nat} {l : Lk} (h : r[i]? = some l) : ∃ k, atI (r.map lkP) ((i : Int) - 1) = some (lkP k) ∧ k.2.1 = l.1 := by
  have h1 := path_first R.path
  have hi := (List.getElem?_eq_some_iff.mp h).1
  cases i with
  | zero =>
    have hne := R.ne
    refine ⟨r.getLast hne, ?_, ?_⟩
    · exact atI_last (by simpa using hne) (by rw [List.getLast?_map, List.getLast?_eq_some_getLast hne]; rfl)
    · have e1 : (outs r ++ [a])[0]? = some l.1 := by
        rw [List.getElem?_append_left (by unfold outs; rw [List.length_map]; omega)]
        unfold outs
        rw [List.getElem?_map, h]
        rfl
      have e2 : (r.map (·.2.1)).getLast? = some (r.getLast hne).2.1 := by rw [List.getLast?_map, List.getLast?_eq_some_getLast hne]; rfl
      have e3 : (outs r ++ [a]).getLast? = some a := by rw [List.getLast?_append]; rfl
      rw [h1] at e1 e3
      have e4 : a = l.1 := by simpa using e1
      have e5 : (a :: r.map (·.2.1)).getLast? = some (r.getLast hne).2.1 := by
        rw [List.getLast?_cons, e2]
        rfl
      rw [e5] at e3
      rw [← e4]
      exact Option.some.inj e3
  | succ i =>
    refine ⟨r[i], ?_, ?_⟩
    · exact atI_of i (by omega) (by rw [List.getElem?_map, List.getElem?_eq_getElem (by omega)]; rfl)
    · have e1 : (outs r ++ [a])[i + 1]? = some l.1 := by
        rw [List.getElem?_append_left (by unfold outs; rw [List.length_map]; omega)]
        unfold outs
        rw [List.getElem?_map, h]
        rfl
      rw [h1, List.getElem?_cons_succ, List.getElem?_map, List.getElem?_eq_getElem (by omega)] at e1
      simpa using e1
end PV

set_option maxHeartbeats 4000000
/-! Plain: what links lead to, by a stack. -/
namespace PV
/-- one link, seen from `h`: (found, waiting) -/
def ledIn (h : Nat) (s : List Nat × List Nat) (l : Lk) : List Nat × List Nat := if l.1 = h ∧ l.2.1 ∉ s.1 then (s.1 ++ [l.2.1], s.2 ++ [l.2.1]) else s
def ledGo (ls : List Lk) : Nat → List Nat × List Nat → List Nat
  | 0, s => s.1
  | k + 1, s => match s.2.getLast? with
    | none => s.1
    | some h => ledGo ls k (ls.foldl (ledIn h) (s.1, s.2.dropLast))
def ledTo (n : Nat) (ls : List Lk) (ev : List Nat) : List Nat := ledGo ls (2 * n + 1) (ev, ev)
/-- found: each once, all reached; waiting among them -/
structure LedA (n : Nat) (ls : List Lk) (ev : List Nat) (s : List Nat × List Nat) : Prop where
  nd : s.1.Nodup
  lt : ∀ x ∈ s.1, x < n
  sub : ∀ x ∈ s.2, x ∈ s.1
  rch : ∀ x ∈ s.1, ∃ a ∈ ev, ∃ r, Path ls a r x
  st : ∀ a ∈ ev, a ∈ s.1
section
variable {n : Nat} {ls : List Lk} {ev : List Nat}
theorem led_in (hin : InK n ls) {h : Nat} {s : List Nat × List Nat} (A : LedA n ls ev s) (hh : h ∈ s.1) {l : Lk} (hl : l ∈ ls) : LedA n ls ev (ledIn h s l) ∧ (∀ x ∈ s.1, x ∈ (ledIn h s l).1) ∧ (∀ x ∈ s.2, x ∈ (ledIn h s l).2) ∧ (l.1 = h → l.2.1 ∈ (ledIn h s l).1) ∧ (∀ x ∈ (ledIn h s l).1, x ∈ s.1 ∨ x ∈ (ledIn h s l).2) ∧ (ledIn h s l).2.length + s.1.length = s.2.length + (ledIn h s l).1.length ∧ s.1.length ≤ (ledIn h s l).1.length := by
  unfold ledIn
  by_cases hc : l.1 = h ∧ l.2.1 ∉ s.1
  · rw [if_pos hc]
    refine ⟨⟨?_, ?_, ?_, ?_, ?_⟩, fun x hx => List.mem_append_left _ hx, fun x hx => List.mem_append_left _ hx, fun _ => List.mem_append_right _ (List.mem_singleton.mpr rfl), ?_, ?_, ?_⟩
    · refine List.nodup_append.mpr ⟨A.nd, by simp, fun a ha b hb e => hc.2 ?_⟩
      rw [← List.mem_singleton.mp hb, ← e]; exact ha
    · intro x hx
      rcases List.mem_append.mp hx with hx | hx
      · exact A.lt x hx
      · rw [List.mem_singleton.mp hx]; exact (hin l hl).2
    · intro x hx
      rcases List.mem_append.mp hx with hx | hx
      · exact List.mem_append_left _ (A.sub x hx)
      · exact List.mem_append_right _ hx
    · intro x hx
      rcases List.mem_append.mp hx with hx | hx
      · exact A.rch x hx
      · obtain ⟨a, ha, r, p⟩ := A.rch h hh
        refine ⟨a, ha, r ++ [l], path_app.mpr ⟨h, p, hl, hc.1, ?_⟩⟩
        exact (List.mem_singleton.mp hx).symm
    · exact fun a ha => List.mem_append_left _ (A.st a ha)
    · intro x hx
      rcases List.mem_append.mp hx with hx | hx
      · exact .inl hx
      · exact .inr (List.mem_append_right _ hx)
    · simp only [List.length_append, List.length_singleton]; omega
    · simp only [List.length_append]; omega
  · rw [if_neg hc]
    refine ⟨A, fun x hx => hx, fun x hx => hx, fun e => ?_, fun x hx => .inl hx, rfl.trans (Nat.add_comm _ _ ▸ rfl), Nat.le_refl _⟩
    exact Classical.byContradiction fun hx => hc ⟨e, hx⟩
theorem led_fold (hin : InK n ls) {h : Nat} : ∀ (l1 : List Lk) {s : List Nat × List Nat}, (∀ l ∈ l1, l ∈ ls) → LedA n ls ev s → h ∈ s.1 → LedA n ls ev (l1.foldl (ledIn h) s) ∧ (∀ x ∈ s.1, x ∈ (l1.foldl (ledIn h) s).1) ∧ (∀ x ∈ s.2, x ∈ (l1.foldl (ledIn h) s).2) ∧ (∀ l ∈ l1, l.1 = h → l.2.1 ∈ (l1.foldl (ledIn h) s).1) ∧ (∀ x ∈ (l1.foldl (ledIn h) s).1, x ∈ s.1 ∨ x ∈ (l1.foldl (ledIn h) s).2) ∧ (l1.foldl (ledIn h) s).2.length + s.1.length = s.2.length + (l1.foldl (ledIn h) s).1.length ∧ s.1.length ≤ (l1.foldl (ledIn h) s).1.length
  | [], s, _, A, hh => ⟨A, fun x hx => hx, fun x hx => hx, fun l hl => by simp at hl, fun x hx => .inl hx, by show s.2.length + s.1.length = s.2.length + s.1.length; rfl, Nat.le_refl _⟩
  | l :: l1, s, hl, A, hh => by
    obtain ⟨A1, a1, b1, c1, d1, e1, f1⟩ := led_in hin A hh (hl l List.mem_cons_self)
    obtain ⟨A2, a2, b2, c2, d2, e2, f2⟩ := led_fold hin l1 (fun k hk => hl k (List.mem_cons_of_mem _ hk)) A1 (a1 h hh)
    rw [List.foldl_cons]
    refine ⟨A2, fun x hx => a2 x (a1 x hx), fun x hx => b2 x (b1 x hx), fun k hk e => ?_, fun x hx => ?_, by omega, by omega⟩
    · rcases List.mem_cons.mp hk with rfl | hk
      · exact a2 _ (c1 e)
      · exact c2 k hk e
    · rcases d2 x hx with hx | hx
      · rcases d1 x hx with hx | hx
        · exact .inl hx
        · exact .inr (b2 x hx)
      · exact .inr hx
/-- what is found and no longer waits has had its links seen -/
def LedC (ls : List Lk) (s : List Nat × List Nat) : Prop := ∀ x ∈ s.1, x ∉ s.2 → ∀ l ∈ ls, l.1 = x → l.2.1 ∈ s.1
theorem led_step (hin : InK n ls) {s : List Nat × List Nat} (A : LedA n ls ev s) (C : LedC ls s) {h : Nat} (hw : s.2.getLast? = some h) : LedA n ls ev (ls.foldl (ledIn h) (s.1, s.2.dropLast)) ∧ LedC ls (ls.foldl (ledIn h) (s.1, s.2.dropLast)) ∧ (ls.foldl (ledIn h) (s.1, s.2.dropLast)).2.length + 2 * n + 1 + 2 * s.1.length ≤ s.2.length + 2 * n + 2 * (ls.foldl (ledIn h) (s.1, s.2.dropLast)).1.length ∧ s.1.length ≤ (ls.foldl (ledIn h) (s.1, s.2.dropLast)).1.length := by
  have e0 : s.2.dropLast ++ [h] = s.2 := by obtain ⟨ys, e⟩ := List.getLast?_eq_some_iff.mp hw; rw [e, List.dropLast_concat]
  have hm : h ∈ s.2 := by rw [← e0]; simp
  have hd : ∀ x ∈ s.2.dropLast, x ∈ s.2 := fun x hx => by rw [← e0]; exact List.mem_append_left _ hx
  have A0 : LedA n ls ev (s.1, s.2.dropLast) := ⟨A.nd, A.lt, fun x hx => A.sub x (hd x hx), A.rch, A.st⟩
  obtain ⟨A1, a1, b1, c1, d1, e1, f1⟩ := led_fold (h := h) hin ls (fun l hl => hl) A0 (A.sub h hm)
  have hlen : s.2.dropLast.length + 1 = s.2.length := by rw [← e0]; simp
  refine ⟨A1, ?_, ?_, f1⟩
  · intro x hx hn l hl el
    rcases d1 x hx with hx | hx
    · by_cases hxh : x = h
      · exact c1 l hl (el.trans hxh)
      · refine a1 _ (C x hx (fun hw2 => ?_) l hl el)
        rw [← e0] at hw2
        rcases List.mem_append.mp hw2 with h2 | h2
        · exact hn (b1 x h2)
        · exact hxh (List.mem_singleton.mp h2)
    · exact absurd hx hn
  · simp only at e1 f1
    omega
theorem led_go (hin : InK n ls) : ∀ (k : Nat) {s : List Nat × List Nat}, LedA n ls ev s → LedC ls s → s.2.length + 2 * n ≤ k + 2 * s.1.length → (ledGo ls k s).Nodup ∧ (∀ x ∈ ledGo ls k s, x < n) ∧ (∀ x ∈ ledGo ls k s, ∃ a ∈ ev, ∃ r, Path ls a r x) ∧ (∀ a ∈ ev, a ∈ ledGo ls k s) ∧ (∀ x ∈ ledGo ls k s, ∀ l ∈ ls, l.1 = x → l.2.1 ∈ ledGo ls k s)
  | 0, s, A, C, hk => by
    have h1 := nat_nd_len A.nd A.lt
    have h2 : s.2 = [] := List.length_eq_zero_iff.mp (by omega)
    exact ⟨A.nd, A.lt, A.rch, A.st, fun x hx l hl e => C x hx (by rw [h2]; simp) l hl e⟩
  | k + 1, s, A, C, hk => by
    unfold ledGo
    cases hw : s.2.getLast? with
    | none =>
      have h2 : s.2 = [] := List.getLast?_eq_none_iff.mp hw
      exact ⟨A.nd, A.lt, A.rch, A.st, fun x hx l hl e => C x hx (by rw [h2]; simp) l hl e⟩
    | some h =>
      obtain ⟨A1, C1, m1, f1⟩ := led_step hin A C hw
      exact led_go hin k A1 C1 (by omega)
theorem led_spec (hin : InK n ls) (nd : ev.Nodup) (hlt : ∀ x ∈ ev, x < n) : (ledTo n ls ev).Nodup ∧ (∀ x ∈ ledTo n ls ev, x < n) ∧ ∀ x, x ∈ ledTo n ls ev ↔ ∃ a ∈ ev, ∃ r, Path ls a r x := by
  have hl := nat_nd_len nd hlt
  obtain ⟨h1, h2, h3, h4, h5⟩ := led_go (s := (ev, ev)) hin (2 * n + 1) ⟨nd, hlt, fun x hx => hx, fun x hx => ⟨x, hx, [], rfl⟩, fun a ha => ha⟩ (fun x hx hn => absurd hx hn) (by simp only; omega)
  refine ⟨h1, h2, fun x => ⟨h3 x, ?_⟩⟩
  rintro ⟨a, ha, r, p⟩
  have : ∀ (r : List Lk) (a : Nat), a ∈ ledTo n ls ev → Path ls a r x → x ∈ ledTo n ls ev := by
    intro r
    induction r with
    | nil => intro a ha p; cases p; exact ha
    | cons l r ih => intro a ha p; exact ih _ (h5 a ha l p.1 p.2.1) p.2.2
  exact this r a (h4 a ha) p
end
end PV

/-! Plain: of the rings that lead to an event, the one that asks the greatest T. -/
namespace PV
abbrev OR := Option (List Lk)
def og (f : List OR) (e : Nat) : OR := f.getD e none
/-- whether `r` takes the place -/
def takes (o : OR) (r : List Lk) : Bool := match o with
  | none => true
  | some q => below (askL q) (askL r)
def lowIn (r : List Lk) (f : List OR) (e : Nat) : List OR := if takes (og f e) r then f.set e (some r) else f
def lowStep (n : Nat) (ls : List Lk) (f : List OR) (r : List Lk) : List OR := if 0 < tok r then (ledTo n ls (outs r)).foldl (lowIn r) f else f
def lowL (n : Nat) (ls : List Lk) : List OR := (ringsOf n ls).foldl (lowStep n ls) (List.replicate n none)
/-- a ring leads to an event -/
def Lead (ls : List Lk) (r : List Lk) (e : Nat) : Prop := ∃ a ∈ outs r, ∃ p, Path ls a p e
/-- the best of some rings at one event -/
def Best (ls : List Lk) (rs : List (List Lk)) (e : Nat) (o : OR) : Prop := match o with
  | none => ∀ r ∈ rs, 0 < tok r → ¬ Lead ls r e
  | some q => q ∈ rs ∧ 0 < tok q ∧ Lead ls q e ∧ ∀ r ∈ rs, 0 < tok r → Lead ls r e → leF (askL r) (askL q)
section
variable {n : Nat} {ls : List Lk}
theorem og_set (f : List OR) (i j : Nat) (v : OR) (h : i < f.length) : og (f.set i v) j = if i = j then v else og f j := by
  unfold og
  by_cases hj : i = j
  · subst hj; rw [if_pos rfl, List.getD_eq_getElem?_getD, List.getElem?_set_self h]; rfl
  · rw [if_neg hj, List.getD_eq_getElem?_getD, List.getElem?_set_ne hj, ← List.getD_eq_getElem?_getD]
theorem low_in_len (r : List Lk) (f : List OR) (e : Nat) : (lowIn r f e).length = f.length := by
  unfold lowIn; split
  · rw [List.length_set]
  · rfl
theorem low_fold_len (r : List Lk) : ∀ (es : List Nat) (f : List OR), (es.foldl (lowIn r) f).length = f.length
  | [], f => rfl
  | e :: es, f => by rw [List.foldl_cons, low_fold_len r es, low_in_len]
theorem low_step_len (f : List OR) (r : List Lk) : (lowStep n ls f r).length = f.length := by
  unfold lowStep; split
  · exact low_fold_len r _ f
  · rfl
theorem low_in_at {r : List Lk} {f : List OR} {e x : Nat} (h : e < f.length) : og (lowIn r f e) x = if x = e then (if takes (og f e) r then some r else og f e) else og f x := by
  unfold lowIn
  by_cases ht : takes (og f e) r = true
  · rw [if_pos ht, og_set _ _ _ _ h]
    by_cases hx : x = e
    · subst hx; simp [ht]
    · rw [if_neg (fun k => hx k.symm), if_neg hx]
  · rw [if_neg ht]
    by_cases hx : x = e
    · subst hx; simp [ht]
    · rw [if_neg hx]
theorem low_fold_at {r : List Lk} : ∀ (es : List Nat) {f : List OR} {x : Nat}, es.Nodup → (∀ e ∈ es, e < f.length) → og (es.foldl (lowIn r) f) x = if x ∈ es then (if takes (og f x) r then some r else og f x) else og f x
  | [], f, x, _, _ => by simp
  | e :: es, f, x, nd, hl => by
    have n2 := List.nodup_cons.mp nd
    rw [List.foldl_cons, low_fold_at es n2.2 (fun k hk => by rw [low_in_len]; exact hl k (List.mem_cons_of_mem _ hk)), low_in_at (hl e List.mem_cons_self)]
    by_cases hx : x = e
    · subst hx
      rw [if_neg n2.1, if_pos rfl, if_pos List.mem_cons_self]
    · simp only [if_neg hx, List.mem_cons, hx, false_or, if_false]
theorem best_step {rs : List (List Lk)} {e : Nat} {o : OR} (B : Best ls rs e o) {r : List Lk} (h0 : 0 < tok r) (hl : Lead ls r e) : Best ls (rs ++ [r]) e (if takes o r then some r else o) := by
  cases o with
  | none =>
    rw [if_pos (show takes none r = true from rfl)]
    refine ⟨List.mem_append_right _ (List.mem_singleton.mpr rfl), h0, hl, fun k hk hk0 hkl => ?_⟩
    rcases List.mem_append.mp hk with hk | hk
    · exact absurd hkl (B k hk hk0)
    · rw [List.mem_singleton.mp hk]; exact leF_refl _
  | some q =>
    obtain ⟨b1, b2, b3, b4⟩ := B
    show Best ls (rs ++ [r]) e (if below (askL q) (askL r) = true then some r else some q)
    have hq := ask_pos (r := q) (by omega)
    have hr := ask_pos (r := r) (by omega)
    by_cases ht : below (askL q) (askL r) = true
    · rw [if_pos ht]
      refine ⟨List.mem_append_right _ (List.mem_singleton.mpr rfl), h0, hl, fun k hk hk0 hkl => ?_⟩
      rcases List.mem_append.mp hk with hk | hk
      · refine leF_trans hq (ask_pos (by omega)) hr (b4 k hk hk0 hkl) ?_
        rcases leF_total (askL q) (askL r) with h | h
        · exact h
        · exact absurd (below_no.mpr h) (by rw [ht]; decide)
      · rw [List.mem_singleton.mp hk]; exact leF_refl _
    · rw [if_neg ht]
      refine ⟨List.mem_append_left _ b1, b2, b3, fun k hk hk0 hkl => ?_⟩
      rcases List.mem_append.mp hk with hk | hk
      · exact b4 k hk hk0 hkl
      · rw [List.mem_singleton.mp hk]; exact below_no.mp (by simpa using ht)
theorem best_keep {rs : List (List Lk)} {e : Nat} {o : OR} (B : Best ls rs e o) {r : List Lk} (h : ¬ (0 < tok r ∧ Lead ls r e)) : Best ls (rs ++ [r]) e o := by
  cases o with
  | none =>
    intro k hk hk0 hkl
    rcases List.mem_append.mp hk with hk | hk
    · exact B k hk hk0 hkl
    · rw [List.mem_singleton.mp hk] at hk0 hkl; exact h ⟨hk0, hkl⟩
  | some q =>
    obtain ⟨b1, b2, b3, b4⟩ := B
    refine ⟨List.mem_append_left _ b1, b2, b3, fun k hk hk0 hkl => ?_⟩
    rcases List.mem_append.mp hk with hk | hk
    · exact b4 k hk hk0 hkl
    · rw [List.mem_singleton.mp hk] at hk0 hkl; exact absurd ⟨hk0, hkl⟩ h
theorem low_step (hin : InK n ls) {rs : List (List Lk)} {f : List OR} (hf : f.length = n) (B : ∀ e, e < n → Best ls rs e (og f e)) {r : List Lk} (hr : ∃ a, Ring ls a r) : ∀ e, e < n → Best ls (rs ++ [r]) e (og (lowStep n ls f r) e) := fun e he => by
  obtain ⟨a, R⟩ := hr
  obtain ⟨l1, l2, l3⟩ := led_spec hin R.nd (outs_lt hin R.path)
  unfold lowStep
  by_cases h0 : 0 < tok r
  · rw [if_pos h0, low_fold_at _ l1 (fun x hx => by rw [hf]; exact l2 x hx)]
    by_cases hm : e ∈ ledTo n ls (outs r)
    · rw [if_pos hm]; exact best_step (B e he) h0 ((l3 e).mp hm)
    · rw [if_neg hm]; exact best_keep (B e he) fun h => hm ((l3 e).mpr h.2)
  · rw [if_neg h0]; exact best_keep (B e he) fun h => h0 h.1
theorem low_go (hin : InK n ls) : ∀ (l rs : List (List Lk)) (f : List OR), f.length = n → (∀ r ∈ l, ∃ a, Ring ls a r) → (∀ e, e < n → Best ls rs e (og f e)) → (l.foldl (lowStep n ls) f).length = n ∧ ∀ e, e < n → Best ls (rs ++ l) e (og (l.foldl (lowStep n ls) f) e)
  | [], rs, f, hf, _, B => by rw [List.append_nil]; exact ⟨hf, B⟩
  | r :: l, rs, f, hf, hr, B => by
    have := low_go hin l (rs ++ [r]) (lowStep n ls f r) ((low_step_len f r).trans hf) (fun k hk => hr k (List.mem_cons_of_mem _ hk)) (low_step hin hf B (hr r List.mem_cons_self))
    rw [List.append_assoc] at this
    exact this
theorem low_spec2 (hin : InK n ls) : (lowL n ls).length = n ∧ ∀ e, e < n → Best ls (ringsOf n ls) e (og (lowL n ls) e) := by
  have := low_go hin (ringsOf n ls) [] (List.replicate n none) (List.length_replicate) (fun r hr => rings_sound hr) (fun e he => by
    have : og (List.replicate n none) e = none := by unfold og; rw [List.getD_eq_getElem?_getD, List.getElem?_replicate, if_pos he]; rfl
    rw [this]
    intro r hr; simp at hr)
  rw [List.nil_append] at this
  exact this
/-- each event has one, where each has a ring of one token -/
theorem low_some (hin : InK n ls) (ho : ∀ e, e < n → ∃ t, (e, e, 1, t) ∈ ls) {e : Nat} (he : e < n) : ∃ q, og (lowL n ls) e = some q ∧ q ∈ ringsOf n ls ∧ 0 < tok q ∧ Lead ls q e ∧ ∀ r ∈ ringsOf n ls, 0 < tok r → Lead ls r e → leF (askL r) (askL q) := by
  have B := (low_spec2 hin).2 e he
  cases ho2 : og (lowL n ls) e with
  | some q => rw [ho2] at B; exact ⟨q, rfl, B⟩
  | none =>
    rw [ho2] at B
    obtain ⟨t, ht⟩ := ho e he
    have R : Ring ls e [(e, e, 1, t)] := ⟨by simp, ⟨ht, rfl, rfl⟩, by simp [outs]⟩
    obtain ⟨r', hr', hp⟩ := rings_all hin R
    have h1 : tok r' = 1 := by rw [tok_perm hp]; simp [tok, wt]
    refine absurd ?_ (B r' hr' (by omega))
    have : (e, e, (1 : Int), t) ∈ r' := hp.mem_iff.mpr (by simp)
    exact ⟨e, List.mem_map.mpr ⟨_, this, rfl⟩, [], rfl⟩
end
end PV

/-! Plain: a way from some events to others, by a queue. -/
namespace PV
abbrev WS := List (Nat × List Lk)
def keysW (s : WS) : List Nat := s.map (·.1)
def wayIn (h : Nat) (w : List Lk) (s : WS) (l : Lk) : WS := if l.1 = h ∧ l.2.1 ∉ keysW s then s ++ [(l.2.1, w ++ [l])] else s
def wayGo (ls : List Lk) (ends : List Nat) : Nat → Nat → WS → Option (List Lk)
  | 0, _, _ => none
  | k + 1, i, s => match s[i]? with
    | none => none
    | some p => if p.1 ∈ ends then some p.2 else wayGo ls ends k (i + 1) (ls.foldl (wayIn p.1 p.2) s)
def wayL (n : Nat) (ls : List Lk) (begins ends : List Nat) : Option (List Lk) := wayGo ls ends (n + 1) 0 (begins.map fun e => (e, []))
structure WayA (n : Nat) (ls : List Lk) (bs : List Nat) (s : WS) : Prop where
  nd : (keysW s).Nodup
  lt : ∀ x ∈ keysW s, x < n
  st : ∀ a ∈ bs, a ∈ keysW s
  way : ∀ (i : Nat) (p : Nat × List Lk), s[i]? = some p → p.2.length ≤ i ∧ ∃ a ∈ bs, Path ls a p.2 p.1
section
variable {n : Nat} {ls : List Lk} {bs ends : List Nat}
theorem keysW_app (s t : WS) : keysW (s ++ t) = keysW s ++ keysW t := List.map_append
theorem WayA.len {s : WS} (A : WayA n ls bs s) : s.length ≤ n := by
  have := nat_nd_len A.nd A.lt
  unfold keysW at this
  rwa [List.length_map] at this
theorem way_in (hin : InK n ls) {i : Nat} {p : Nat × List Lk} {s : WS} (A : WayA n ls bs s) (hi : s[i]? = some p) {l : Lk} (hl : l ∈ ls) : WayA n ls bs (wayIn p.1 p.2 s l) ∧ (∃ t, wayIn p.1 p.2 s l = s ++ t) ∧ (l.1 = p.1 → l.2.1 ∈ keysW (wayIn p.1 p.2 s l)) := by
  unfold wayIn
  by_cases hc : l.1 = p.1 ∧ l.2.1 ∉ keysW s
  · rw [if_pos hc]
    refine ⟨⟨?_, ?_, ?_, ?_⟩, ⟨_, rfl⟩, fun _ => ?_⟩
    · rw [keysW_app]
      refine List.nodup_append.mpr ⟨A.nd, by simp [keysW], fun a ha b hb e => hc.2 ?_⟩
      have : b = l.2.1 := by simpa [keysW] using hb
      rw [← this, ← e]; exact ha
    · intro x hx
      rw [keysW_app] at hx
      rcases List.mem_append.mp hx with hx | hx
      · exact A.lt x hx
      · have : x = l.2.1 := by simpa [keysW] using hx
        rw [this]; exact (hin l hl).2
    · intro a ha
      rw [keysW_app]
      exact List.mem_append_left _ (A.st a ha)
    · intro j q hj
      by_cases hjl : j < s.length
      · rw [List.getElem?_append_left hjl] at hj
        exact A.way j q hj
      · rw [List.getElem?_append_right (by omega)] at hj
        have hj0 : j - s.length = 0 := by
          rcases Nat.eq_zero_or_pos (j - s.length) with h | h
          · exact h
          · rw [List.getElem?_eq_none (by simp; omega)] at hj; cases hj
        rw [hj0] at hj
        simp only [List.getElem?_cons_zero, Option.some.injEq] at hj
        subst hj
        obtain ⟨w1, a, ha, pa⟩ := A.way i p hi
        have hil : i < s.length := by
          rcases Nat.lt_or_ge i s.length with h | h
          · exact h
          · rw [List.getElem?_eq_none h] at hi; cases hi
        refine ⟨by simp only [List.length_append, List.length_singleton]; omega, a, ha, path_app.mpr ⟨p.1, pa, hl, hc.1, rfl⟩⟩
    · rw [keysW_app]; exact List.mem_append_right _ (by simp [keysW])
  · rw [if_neg hc]
    exact ⟨A, ⟨[], by simp⟩, fun e => Classical.byContradiction fun hx => hc ⟨e, hx⟩⟩
theorem way_fold (hin : InK n ls) {i : Nat} {p : Nat × List Lk} : ∀ (l1 : List Lk) {s : WS}, (∀ l ∈ l1, l ∈ ls) → WayA n ls bs s → s[i]? = some p → WayA n ls bs (l1.foldl (wayIn p.1 p.2) s) ∧ (∃ t, l1.foldl (wayIn p.1 p.2) s = s ++ t) ∧ (∀ l ∈ l1, l.1 = p.1 → l.2.1 ∈ keysW (l1.foldl (wayIn p.1 p.2) s))
  | [], s, _, A, hi => ⟨A, ⟨[], by simp⟩, fun l hl => by simp at hl⟩
  | l :: l1, s, hl, A, hi => by
    obtain ⟨A1, ⟨t1, e1⟩, c1⟩ := way_in hin A hi (hl l List.mem_cons_self)
    have hi1 : (wayIn p.1 p.2 s l)[i]? = some p := by
      rw [e1, List.getElem?_append_left ?_]
      · exact hi
      · rcases Nat.lt_or_ge i s.length with h | h
        · exact h
        · rw [List.getElem?_eq_none h] at hi; cases hi
    obtain ⟨A2, ⟨t2, e2⟩, c2⟩ := way_fold hin l1 (fun k hk => hl k (List.mem_cons_of_mem _ hk)) A1 hi1
    rw [List.foldl_cons]
    refine ⟨A2, ⟨t1 ++ t2, by rw [e2, e1, List.append_assoc]⟩, fun k hk e => ?_⟩
    rcases List.mem_cons.mp hk with rfl | hk
    · rw [e2, keysW_app]; exact List.mem_append_left _ (c1 e)
    · exact c2 k hk e
/-- those before `i` have been seen -/
def WayC (ls : List Lk) (ends : List Nat) (i : Nat) (s : WS) : Prop := ∀ (j : Nat) (p : Nat × List Lk), j < i → s[j]? = some p → p.1 ∉ ends ∧ ∀ l ∈ ls, l.1 = p.1 → l.2.1 ∈ keysW s
theorem way_step (hin : InK n ls) {i : Nat} {p : Nat × List Lk} {s : WS} (A : WayA n ls bs s) (C : WayC ls ends i s) (hi : s[i]? = some p) (he : p.1 ∉ ends) : WayA n ls bs (ls.foldl (wayIn p.1 p.2) s) ∧ WayC ls ends (i + 1) (ls.foldl (wayIn p.1 p.2) s) := by
  obtain ⟨A1, ⟨t, e⟩, c⟩ := way_fold hin ls (fun l hl => hl) A hi
  have hil : i < s.length := by
    rcases Nat.lt_or_ge i s.length with h | h
    · exact h
    · rw [List.getElem?_eq_none h] at hi; cases hi
  refine ⟨A1, fun j q hj hq => ?_⟩
  rw [e, List.getElem?_append_left (by omega)] at hq
  by_cases hji : j = i
  · subst hji
    rw [hi] at hq
    cases hq
    exact ⟨he, fun l hl el => c l hl el⟩
  · obtain ⟨h1, h2⟩ := C j q (by omega) hq
    exact ⟨h1, fun l hl el => by rw [e, keysW_app]; exact List.mem_append_left _ (h2 l hl el)⟩
theorem way_go (hin : InK n ls) (hl : ∃ a ∈ bs, ∃ r b, Path ls a r b ∧ b ∈ ends) : ∀ (k i : Nat) {s : WS}, WayA n ls bs s → WayC ls ends i s → i ≤ s.length → n + 1 ≤ i + k → ∃ w, wayGo ls ends k i s = some w ∧ w.length < n ∧ ∃ a ∈ bs, ∃ b ∈ ends, Path ls a w b
  | 0, i, s, A, C, hi, hk => by have := A.len; omega
  | k + 1, i, s, A, C, hi, hk => by
    unfold wayGo
    cases hs : s[i]? with
    | none =>
      exfalso
      have hlen : s.length ≤ i := List.getElem?_eq_none_iff.mp hs
      obtain ⟨a, ha, r, b, p, hb⟩ := hl
      have key : ∀ (r : List Lk) (a : Nat), a ∈ keysW s → Path ls a r b → b ∈ keysW s := by
        intro r
        induction r with
        | nil => intro a ha p; cases p; exact ha
        | cons l r ih =>
          intro a ha p
          obtain ⟨q, hq, eq⟩ := List.mem_map.mp ha
          obtain ⟨j, hj⟩ := List.getElem?_of_mem hq
          have hjl : j < s.length := by
            rcases Nat.lt_or_ge j s.length with h | h
            · exact h
            · rw [List.getElem?_eq_none h] at hj; cases hj
          exact ih _ ((C j q (by omega) hj).2 l p.1 (p.2.1.trans eq.symm)) p.2.2
      obtain ⟨q, hq, eq⟩ := List.mem_map.mp (key r a (A.st a ha) p)
      obtain ⟨j, hj⟩ := List.getElem?_of_mem hq
      have hjl : j < s.length := by
        rcases Nat.lt_or_ge j s.length with h | h
        · exact h
        · rw [List.getElem?_eq_none h] at hj; cases hj
      exact (C j q (by omega) hj).1 (by rw [eq]; exact hb)
    | some p =>
      have hil : i < s.length := by
        rcases Nat.lt_or_ge i s.length with h | h
        · exact h
        · rw [List.getElem?_eq_none h] at hs; cases hs
      show ∃ w, (if p.1 ∈ ends then some p.2 else wayGo ls ends k (i + 1) (ls.foldl (wayIn p.1 p.2) s)) = some w ∧ _
      by_cases he : p.1 ∈ ends
      · rw [if_pos he]
        obtain ⟨w1, a, ha, pa⟩ := A.way i p hs
        have := A.len
        exact ⟨p.2, rfl, by omega, a, ha, p.1, he, pa⟩
      · rw [if_neg he]
        obtain ⟨A1, C1⟩ := way_step hin A C hs he
        obtain ⟨_, ⟨t, e⟩, _⟩ := way_fold hin ls (fun l hl => hl) A hs
        exact way_go hin hl k (i + 1) A1 C1 (by rw [e, List.length_append]; omega) (by omega)
theorem way_start (nd : bs.Nodup) (hlt : ∀ x ∈ bs, x < n) : WayA n ls bs (bs.map fun e => (e, [])) := by
  have hk : keysW (bs.map fun e => (e, ([] : List Lk))) = bs := by unfold keysW; rw [List.map_map]; exact List.map_id _
  refine ⟨by rw [hk]; exact nd, by rw [hk]; exact hlt, by rw [hk]; exact fun a ha => ha, fun i p hp => ?_⟩
  rw [List.getElem?_map] at hp
  cases hb : bs[i]? with
  | none => rw [hb] at hp; cases hp
  | some e =>
    rw [hb] at hp
    cases hp
    exact ⟨Nat.zero_le _, e, List.mem_of_getElem? hb, rfl⟩
theorem way_spec (hin : InK n ls) (nd : bs.Nodup) (hlt : ∀ x ∈ bs, x < n) (hl : ∃ a ∈ bs, ∃ r b, Path ls a r b ∧ b ∈ ends) : ∃ w, wayL n ls bs ends = some w ∧ w.length < n ∧ ∃ a ∈ bs, ∃ b ∈ ends, Path ls a w b := way_go hin hl (n + 1) 0 (way_start nd hlt) (fun j p hj => absurd hj (Nat.not_lt_zero _)) (Nat.zero_le _) (by omega)
end
end PV

/-! Plain: own plans: a clash, or heights. -/
namespace PV
def firstEv (r : List Lk) : Nat := (outs r).headD 0
def zeroUp (r : List Lk) : Bool := decide (tok r = 0) && decide (0 < tks r)
def lowQ (n : Nat) (ls : List Lk) (e : Nat) : List Lk := (og (lowL n ls) e).getD []
def tooLow (n : Nat) (ls : List Lk) (r : List Lk) : Bool := decide (tok r < 0) && below (askL r) (askL (lowQ n ls (firstEv r)))
def ownT (n : Nat) (ls : List Lk) (e : Nat) : Fr := askL (lowQ n ls e)
def topE (n : Nat) (ls : List Lk) (B : Int) (e : Nat) : Int := (ownT n ls e).1 * B / (ownT n ls e).2
def wOwn (n : Nat) (ls : List Lk) (B : Int) (l : Lk) : Int := l.2.2.2 * B + topE n ls B l.1 * (max 0 l.2.2.1 - l.2.2.1) - topE n ls B l.2.1 * max 0 l.2.2.1
/-- the order links -/
def HasOrd (n : Nat) (ls : List Lk) : Prop := ∀ e, e < n → (e, e, (1 : Int), (0 : Int)) ∈ ls
section
variable {n : Nat} {ls : List Lk} {B : Int}
theorem HasOrd.ex (h : HasOrd n ls) : ∀ e, e < n → ∃ t, (e, e, (1 : Int), t) ∈ ls := fun e he => ⟨0, h e he⟩
theorem lowQ_spec (hin : InK n ls) (ho : HasOrd n ls) {e : Nat} (he : e < n) : og (lowL n ls) e = some (lowQ n ls e) ∧ lowQ n ls e ∈ ringsOf n ls ∧ 0 < tok (lowQ n ls e) ∧ Lead ls (lowQ n ls e) e ∧ ∀ r ∈ ringsOf n ls, 0 < tok r → Lead ls r e → leF (askL r) (ownT n ls e) := by
  obtain ⟨q, h1, h2⟩ := low_some hin ho.ex he
  have : lowQ n ls e = q := by unfold lowQ; rw [h1]; rfl
  unfold ownT
  rw [this]
  exact ⟨h1, h2⟩
theorem ownT_pos (hin : InK n ls) (ho : HasOrd n ls) {e : Nat} (he : e < n) : 0 < (ownT n ls e).2 := ask_pos (by have := (lowQ_spec hin ho he).2.2.1; omega)
theorem ownT_cop (hin : InK n ls) (ho : HasOrd n ls) {e : Nat} (he : e < n) : Nat.gcd (ownT n ls e).1.natAbs (ownT n ls e).2.natAbs = 1 := by
  obtain ⟨c, L⟩ := ask_low (r := lowQ n ls e) (by have := (lowQ_spec hin ho he).2.2.1; omega)
  exact L.cop
theorem lead_path {r p : List Lk} {a b : Nat} (h : Lead ls r a) (q : Path ls a p b) : Lead ls r b := by
  obtain ⟨x, hx, s, ps⟩ := h
  exact ⟨x, hx, s ++ p, path_app.mpr ⟨a, ps, q⟩⟩
theorem ownT_le (hin : InK n ls) (ho : HasOrd n ls) {a b : Nat} {p : List Lk} (ha : a < n) (hb : b < n) (q : Path ls a p b) : leF (ownT n ls a) (ownT n ls b) := by
  obtain ⟨_, h1, h2, h3, _⟩ := lowQ_spec hin ho ha
  exact (lowQ_spec hin ho hb).2.2.2.2 _ h1 h2 (lead_path h3 q)
theorem ownT_nn (hin : InK n ls) (ho : HasOrd n ls) {e : Nat} (he : e < n) : 0 ≤ (ownT n ls e).1 := by
  have R : Ring ls e [(e, e, 1, 0)] := ⟨by simp, ⟨ho e he, rfl, rfl⟩, by simp [outs]⟩
  obtain ⟨r', hr', hp⟩ := rings_all hin R
  have h1 : tok r' = 1 := by rw [tok_perm hp]; simp [tok, wt]
  have h2 : tks r' = 0 := by rw [tks_perm hp]; simp [tks, wt]
  have hm : (e, e, (1 : Int), (0 : Int)) ∈ r' := hp.mem_iff.mpr (by simp)
  have h3 := (lowQ_spec hin ho he).2.2.2.2 r' hr' (by omega) ⟨e, List.mem_map.mpr ⟨_, hm, rfl⟩, [], rfl⟩
  obtain ⟨c, L⟩ := ask_low (r := r') (by omega)
  have h4 : (askL r').1 = 0 := by
    have := L.e1
    rw [h2] at this
    rcases Int.mul_eq_zero.mp this.symm with h | h
    · exact h
    · exact absurd h L.c0
  unfold leF at h3
  rw [h4, Int.zero_mul] at h3
  have hp := L.pos
  rcases Int.lt_or_le (ownT n ls e).1 0 with h | h
  · have := Int.mul_neg_of_neg_of_pos h hp
    omega
  · exact h
theorem ownT_eq (hin : InK n ls) (ho : HasOrd n ls) {a b : Nat} {p q : List Lk} (ha : a < n) (hb : b < n) (h1 : Path ls a p b) (h2 : Path ls b q a) : ownT n ls a = ownT n ls b :=
  low_uniq (ownT_pos hin ho ha) (ownT_pos hin ho hb) (ownT_cop hin ho ha) (ownT_cop hin ho hb) (Int.le_antisymm (ownT_le hin ho ha hb h1) (ownT_le hin ho hb ha h2))
/-- on a ring all have one T -/
theorem ring_T (hin : InK n ls) (ho : HasOrd n ls) {a : Nat} {r : List Lk} (R : Ring ls a r) : ∀ l ∈ r, ownT n ls l.1 = ownT n ls a ∧ ownT n ls l.2.1 = ownT n ls a := fun l hl => by
  obtain ⟨s, t, e⟩ := List.append_of_mem hl
  have p := R.path
  rw [e] at p
  obtain ⟨c, p1, p2⟩ := path_app.mp p
  have hl1 := hin l (path_mem R.path l hl)
  have ha := (path_lt hin R.path R.ne).1
  have ec := p2.2.1
  subst ec
  exact ⟨ownT_eq hin ho hl1.1 ha (p := l :: t) (q := s) p2 p1, ownT_eq hin ho hl1.2 ha (p := t) (q := s ++ [l]) p2.2.2 (path_app.mpr ⟨l.1, p1, p2.1, rfl, rfl⟩)⟩
theorem topE_of {e : Nat} {c : Int} (hp : 0 < (ownT n ls e).2) (hc : B = (ownT n ls e).2 * c) : topE n ls B e = (ownT n ls e).1 * c := by
  unfold topE
  rw [hc, Int.mul_left_comm, Int.mul_ediv_cancel_left _ (by omega)]
theorem wt_congr {w v : Lk → Int} : ∀ (r : List Lk) (c : Int), (∀ l ∈ r, w l = c * v l) → wt w r = c * wt v r
  | [], c, _ => by simp [wt]
  | l :: r, c, h => by
    rw [wt_cons, wt_cons, wt_congr r c (fun k hk => h k (List.mem_cons_of_mem _ hk)), h l List.mem_cons_self, Int.mul_add]
theorem wOwn_ring (hin : InK n ls) (ho : HasOrd n ls) {a : Nat} {r : List Lk} (R : Ring ls a r) {c : Int} (hc : B = (ownT n ls a).2 * c) : wt (wOwn n ls B) r = c * wt (wOf (ownT n ls a)) r := wt_congr r c fun l hl => by
  have ha := (path_lt hin R.path R.ne).1
  have hp := ownT_pos hin ho ha
  obtain ⟨e1, e2⟩ := ring_T hin ho R l hl
  have t1 : topE n ls B l.1 = (ownT n ls a).1 * c := by rw [← e1]; exact topE_of (by rw [e1]; exact hp) (by rw [e1]; exact hc)
  have t2 : topE n ls B l.2.1 = (ownT n ls a).1 * c := by rw [← e2]; exact topE_of (by rw [e2]; exact hp) (by rw [e2]; exact hc)
  unfold wOwn wOf
  rw [t1, t2, hc, Int.mul_sub, Int.mul_sub]
  have k1 : l.2.2.2 * ((ownT n ls a).2 * c) = c * (l.2.2.2 * (ownT n ls a).2) := by ac_rfl
  have k2 : (ownT n ls a).1 * c * l.2.2.1 = c * (l.2.2.1 * (ownT n ls a).1) := by ac_rfl
  omega
theorem ring_first {a : Nat} {r : List Lk} (R : Ring ls a r) : firstEv r = a := by
  cases r with
  | nil => exact absurd rfl R.ne
  | cons l r => exact R.path.2.1
/-- no clash: no ring is above 0 -/
theorem own_rings (hin : InK n ls) (ho : HasOrd n ls) (h1 : ∀ r ∈ ringsOf n ls, zeroUp r = false) (h2 : ∀ r ∈ ringsOf n ls, tooLow n ls r = false) {a : Nat} {r : List Lk} (R : Ring ls a r) : wt (wOf (ownT n ls a)) r ≤ 0 := by
  have ha := (path_lt hin R.path R.ne).1
  obtain ⟨r', hr', hp⟩ := rings_all hin R
  obtain ⟨f, Rf⟩ := rings_sound hr'
  have hfa : f ∈ outs r := by
    have h3 : f ∈ outs r' := by
      cases r' with
      | nil => exact absurd rfl Rf.ne
      | cons l t => exact List.mem_cons.mpr (.inl Rf.path.2.1.symm)
    obtain ⟨l, hl, e⟩ := List.mem_map.mp h3
    exact List.mem_map.mpr ⟨l, hp.mem_iff.mp hl, e⟩
  obtain ⟨l, hl, el⟩ := List.mem_map.mp hfa
  have hT : ownT n ls f = ownT n ls a := by rw [← el]; exact (ring_T hin ho R l hl).1
  have hf : f < n := by rw [← el]; exact (hin l (path_mem R.path l hl)).1
  have hw : wt (wOf (ownT n ls a)) r = wt (wOf (ownT n ls a)) r' := (wt_perm hp).symm
  rw [hw]
  rcases Int.lt_trichotomy (tok r') 0 with h | h | h
  · have := h2 r' hr'
    unfold tooLow at this
    rw [decide_eq_true h, Bool.true_and, ring_first Rf] at this
    have h4 : below (askL r') (ownT n ls a) = false := by rw [← hT]; exact this
    rcases Int.lt_or_le 0 (wt (wOf (ownT n ls a)) r') with k | k
    · rw [(over_hi h _).mp k] at h4; cases h4
    · exact k
  · have := h1 r' hr'
    unfold zeroUp at this
    rw [decide_eq_true h, Bool.true_and, decide_eq_false_iff_not] at this
    rw [wt_wOf, h, Int.zero_mul, Int.sub_zero]
    have hpp := ownT_pos hin ho ha
    have : tks r' * (ownT n ls a).2 ≤ 0 * (ownT n ls a).2 := Int.mul_le_mul_of_nonneg_right (by omega) (by omega)
    rwa [Int.zero_mul] at this
  · have h3 : Lead ls r' f := by
      refine ⟨f, ?_, [], rfl⟩
      cases r' with
      | nil => exact absurd rfl Rf.ne
      | cons l t => exact List.mem_cons.mpr (.inl Rf.path.2.1.symm)
    have h4 := (lowQ_spec hin ho hf).2.2.2.2 r' hr' h h3
    rw [hT] at h4
    have h5 := below_no.mpr h4
    rcases Int.lt_or_le 0 (wt (wOf (ownT n ls a)) r') with k | k
    · rw [(over_lo h _).mp k] at h5; cases h5
    · exact k
theorem own_pot (hin : InK n ls) (ho : HasOrd n ls) (h1 : ∀ r ∈ ringsOf n ls, zeroUp r = false) (h2 : ∀ r ∈ ringsOf n ls, tooLow n ls r = false) (hB : 0 < B) (hd : ∀ e, e < n → (ownT n ls e).2 ∣ B) : ∃ g, potOf n ls (wOwn n ls B) = some g := pot_ex hin fun a r R => by
  have ha := (path_lt hin R.path R.ne).1
  obtain ⟨c, hc⟩ := hd a ha
  rw [wOwn_ring hin ho R hc]
  have hp := ownT_pos hin ho ha
  have hc0 : 0 ≤ c := by
    rcases Int.lt_or_le c 0 with h | h
    · have := Int.mul_neg_of_pos_of_neg hp h; omega
    · exact h
  have := Int.mul_le_mul_of_nonneg_left (own_rings hin ho h1 h2 R) hc0
  rwa [Int.mul_zero] at this
end
end PV

/-! Plain: links rolled out over first k; starts that keep them. -/
namespace PV
/-- the k of a link among the first U -/
def ksOf (U : Nat) (l : Lk) : List Nat := ((List.range (U + 1)).filter fun k => decide (max 0 l.2.2.1 ≤ (k : Int)) && decide ((k : Int) < min (U : Int) ((U : Int) + l.2.2.1)))
def rollL (U : Nat) (l : Lk) (k : Nat) : Lk := (l.1 * U + ((k : Int) - l.2.2.1).toNat, l.2.1 * U + k, 0, l.2.2.2)
def rollU (U : Nat) (ls : List Lk) : List Lk := ls.flatMap fun l => (ksOf U l).map (rollL U l)
def tickW (l : Lk) : Int := l.2.2.2
def startsL (n U : Nat) (ls : List Lk) : Option (List Int) := potGo tickW (rollU U ls) (n * U + 2) (List.replicate (n * U) 0)
section
variable {n U : Nat} {ls : List Lk}
theorem ksOf_mem {l : Lk} {k : Nat} : k ∈ ksOf U l ↔ (0 : Int) ≤ k - l.2.2.1 ∧ (k : Int) - l.2.2.1 < U ∧ k < U := by
  unfold ksOf
  rw [List.mem_filter, List.mem_range, Bool.and_eq_true, decide_eq_true_eq, decide_eq_true_eq]
  omega
theorem roll_mem {m : Lk} : m ∈ rollU U ls ↔ ∃ l ∈ ls, ∃ k ∈ ksOf U l, rollL U l k = m := by
  unfold rollU
  rw [List.mem_flatMap]
  constructor
  · rintro ⟨l, hl, h⟩
    obtain ⟨k, hk, e⟩ := List.mem_map.mp h
    exact ⟨l, hl, k, hk, e⟩
  · rintro ⟨l, hl, k, hk, e⟩
    exact ⟨l, hl, List.mem_map.mpr ⟨k, hk, e⟩⟩
theorem at_lt {e k : Nat} (he : e < n) (hk : k < U) : e * U + k < n * U := by
  have : (e + 1) * U ≤ n * U := Nat.mul_le_mul_right U he
  rw [Nat.add_mul, Nat.one_mul] at this
  omega
theorem roll_in (hin : InK n ls) : InK (n * U) (rollU U ls) := fun m hm => by
  obtain ⟨l, hl, k, hk, rfl⟩ := roll_mem.mp hm
  have h := ksOf_mem.mp hk
  obtain ⟨h1, h2⟩ := hin l hl
  exact ⟨at_lt h1 (by omega), at_lt h2 h.2.2⟩
theorem starts_some (hin : InK n ls) (hno : ∀ a r, Ring (rollU U ls) a r → wt tickW r ≤ 0) : ∃ f, startsL n U ls = some f := by
  refine go_some (n := n * U) (roll_in hin) hno (n * U + 2) 0 (by simp) ?_ ?_ (by omega) (by omega)
  · intro e he
    exact ⟨e, [], rfl, by unfold gt; rw [List.getD_eq_getElem?_getD, List.getElem?_replicate, if_pos he]; rfl⟩
  · intro a b r p hb hl
    have : r = [] := List.length_eq_zero_iff.mp (by omega)
    subst this
    unfold gt
    rw [List.getD_eq_getElem?_getD, List.getElem?_replicate, if_pos hb]
    exact Int.le_refl _
theorem starts_fix (hin : InK n ls) {f : List Int} (h : startsL n U ls = some f) : f.length = n * U ∧ ∀ {a b : Nat} {r : List Lk}, Path (rollU U ls) a r b → gt f a + wt tickW r ≤ gt f b := by
  obtain ⟨h1, h2⟩ := go_fix (n := n * U) _ (by simp) h
  exact ⟨h1, fun p => fix_path (roll_in hin) h1 h2 p⟩
/-- a value of the rolled events that keeps links, scaled -/
theorem roll_path {V : Nat → Int} {B : Int} (h : ∀ m ∈ rollU U ls, V m.1 + B * tickW m ≤ V m.2.1) : ∀ {a b : Nat} {r : List Lk}, Path (rollU U ls) a r b → V a + B * wt tickW r ≤ V b
  | a, b, [], p => by cases p; simp [wt]
  | a, b, m :: r, p => by
    have h1 := roll_path h p.2.2
    have h2 := h m p.1
    rw [p.2.1] at h2
    rw [wt_cons, Int.mul_add]
    omega
theorem div_at {e k : Nat} (hk : k < U) : (e * U + k) / U = e ∧ (e * U + k) % U = k := by
  have hU : 0 < U := by omega
  rw [Nat.mul_comm, Nat.mul_add_div hU, Nat.div_eq_of_lt hk, Nat.mul_add_mod, Nat.mod_eq_of_lt hk]
  exact ⟨rfl, rfl⟩
/-- no clash: first starts -/
theorem own_starts {B : Int} (hin : InK n ls) (ho : HasOrd n ls) (h1 : ∀ r ∈ ringsOf n ls, zeroUp r = false) (h2 : ∀ r ∈ ringsOf n ls, tooLow n ls r = false) (hB : 0 < B) (hd : ∀ e, e < n → (ownT n ls e).2 ∣ B) (U : Nat) : ∃ f, startsL n U ls = some f := by
  obtain ⟨g, hg⟩ := own_pot hin ho h1 h2 hB hd
  obtain ⟨g1, g2⟩ := go_fix (n := n) _ (by simp) hg
  refine starts_some hin fun a r R => ?_
  have key : ∀ m ∈ rollU U ls, (fun x => gt g (x / U) + topE n ls B (x / U) * ((x % U : Nat) : Int)) m.1 + B * tickW m ≤ (fun x => gt g (x / U) + topE n ls B (x / U) * ((x % U : Nat) : Int)) m.2.1 := by
    intro m hm
    obtain ⟨l, hl, k, hk, rfl⟩ := roll_mem.mp hm
    have hk2 := ksOf_mem.mp hk
    obtain ⟨d1, d2⟩ := div_at (U := U) (e := l.1) (k := ((k : Int) - l.2.2.1).toNat) (by omega)
    obtain ⟨d3, d4⟩ := div_at (U := U) (e := l.2.1) (k := k) hk2.2.2
    show gt g ((l.1 * U + ((k : Int) - l.2.2.1).toNat) / U) + topE n ls B ((l.1 * U + ((k : Int) - l.2.2.1).toNat) / U) * (((l.1 * U + ((k : Int) - l.2.2.1).toNat) % U : Nat) : Int) + B * l.2.2.2 ≤ gt g ((l.2.1 * U + k) / U) + topE n ls B ((l.2.1 * U + k) / U) * (((l.2.1 * U + k) % U : Nat) : Int)
    rw [d1, d2, d3, d4, Int.toNat_of_nonneg hk2.1]
    have hf := round_at (w := wOwn n ls B) hin g1 hl
    rw [g2] at hf
    obtain ⟨i1, i2⟩ := hin l hl
    have hT := ownT_le hin ho i1 i2 (p := [l]) ⟨hl, rfl, rfl⟩
    have ht : topE n ls B l.1 ≤ topE n ls B l.2.1 := by
      obtain ⟨c1, e1⟩ := hd _ i1
      obtain ⟨c2, e2⟩ := hd _ i2
      have p1 := ownT_pos hin ho i1
      have p2 := ownT_pos hin ho i2
      rw [topE_of p1 e1, topE_of p2 e2]
      have c1p : 0 < c1 := by
        rcases Int.lt_or_le 0 c1 with h | h
        · exact h
        · have := Int.mul_nonpos_of_nonneg_of_nonpos (Int.le_of_lt p1) h; omega
      have c2p : 0 < c2 := by
        rcases Int.lt_or_le 0 c2 with h | h
        · exact h
        · have := Int.mul_nonpos_of_nonneg_of_nonpos (Int.le_of_lt p2) h; omega
      -- multiply by both bottoms
      have m1 : (ownT n ls l.1).1 * (ownT n ls l.2.1).2 * (c1 * c2) ≤ (ownT n ls l.2.1).1 * (ownT n ls l.1).2 * (c1 * c2) := Int.mul_le_mul_of_nonneg_right hT (Int.le_of_lt (Int.mul_pos c1p c2p))
      have m2 : (ownT n ls l.1).1 * (ownT n ls l.2.1).2 * (c1 * c2) = (ownT n ls l.1).1 * c1 * B := by rw [e2]; ac_rfl
      have m3 : (ownT n ls l.2.1).1 * (ownT n ls l.1).2 * (c1 * c2) = (ownT n ls l.2.1).1 * c2 * B := by rw [e1]; ac_rfl
      rw [m2, m3] at m1
      exact (mul_pos_le hB).mp m1
    unfold wOwn at hf
    have hx : 0 ≤ (topE n ls B l.2.1 - topE n ls B l.1) * ((k : Int) - max 0 l.2.2.1) := Int.mul_nonneg (by omega) (by omega)
    rw [Int.sub_mul, Int.mul_sub, Int.mul_sub] at hx
    rw [Int.mul_sub] at hf ⊢
    rw [Int.mul_comm B]
    omega
  have := roll_path (V := fun x => gt g (x / U) + topE n ls B (x / U) * ((x % U : Nat) : Int)) key R.path
  rcases Int.lt_or_le 0 (wt tickW r) with h | h
  · have := Int.mul_pos hB h
    omega
  · exact h
end
end PV

/-! Plain: paths rolled out; a clash makes first starts grow. -/
namespace PV
def sa (r : List Lk) : Int := wt (fun l => (l.2.2.1.natAbs : Int)) r
def st (r : List Lk) : Int := wt (fun l => (l.2.2.2.natAbs : Int)) r
section
variable {n U : Nat} {ls : List Lk}
theorem tok_app (r s : List Lk) : tok (r ++ s) = tok r + tok s := wt_app r s
theorem tks_app (r s : List Lk) : tks (r ++ s) = tks r + tks s := wt_app r s
theorem sa_app (r s : List Lk) : sa (r ++ s) = sa r + sa s := wt_app r s
theorem st_app (r s : List Lk) : st (r ++ s) = st r + st s := wt_app r s
theorem tok_sa : ∀ (r : List Lk), -sa r ≤ tok r ∧ tok r ≤ sa r ∧ 0 ≤ sa r
  | [] => by simp [sa, tok, wt]
  | l :: r => by
    have h := tok_sa r
    unfold sa tok at *
    rw [wt_cons, wt_cons]
    omega
theorem tks_st : ∀ (r : List Lk), -st r ≤ tks r ∧ tks r ≤ st r ∧ 0 ≤ st r
  | [] => by simp [st, tks, wt]
  | l :: r => by
    have h := tks_st r
    unfold st tks at *
    rw [wt_cons, wt_cons]
    omega
/-- a path from k on, all its k among the first U -/
theorem roll_lift : ∀ (r : List Lk) {a b : Nat} (k : Int), Path ls a r b → (∀ s t, r = s ++ t → 0 ≤ k + tok s ∧ k + tok s < U) → ∃ r', Path (rollU U ls) (a * U + k.toNat) r' (b * U + (k + tok r).toNat) ∧ wt tickW r' = tks r
  | [], a, b, k, p, h => by
    cases p
    exact ⟨[], by simp [Path, tok, wt], by simp [tks, wt]⟩
  | l :: r, a, b, k, p, h => by
    have h0 := h [] (l :: r) rfl
    have h1 := h [l] r rfl
    have e0 : tok [] = 0 := by simp [tok, wt]
    have e1 : tok [l] = l.2.2.1 := by simp [tok, wt]
    rw [e0] at h0
    rw [e1] at h1
    obtain ⟨r', p', w'⟩ := roll_lift r (k + l.2.2.1) p.2.2 (fun s t e => by
      have := h (l :: s) t (by rw [e]; rfl)
      have e2 : tok (l :: s) = l.2.2.1 + tok s := wt_cons l s
      rw [e2] at this
      omega)
    refine ⟨rollL U l (k + l.2.2.1).toNat :: r', ⟨roll_mem.mpr ⟨l, p.1, (k + l.2.2.1).toNat, ksOf_mem.mpr ⟨by omega, by omega, by omega⟩, rfl⟩, ?_, ?_⟩, ?_⟩
    · show l.1 * U + (((k + l.2.2.1).toNat : Int) - l.2.2.1).toNat = a * U + k.toNat
      rw [p.2.1]
      have : (((k + l.2.2.1).toNat : Int) - l.2.2.1).toNat = k.toNat := by omega
      rw [this]
    · show Path (rollU U ls) (l.2.1 * U + (k + l.2.2.1).toNat) r' (b * U + (k + tok (l :: r)).toNat)
      have e2 : k + tok (l :: r) = k + l.2.2.1 + tok r := by
        have : tok (l :: r) = l.2.2.1 + tok r := wt_cons l r
        omega
      rw [e2]
      exact p'
    · rw [wt_cons, w']
      have : tks (l :: r) = l.2.2.2 + tks r := wt_cons l r
      rw [this]; rfl
/-- a ring of no tokens and of some ticks leaves no first starts -/
theorem zero_none (hin : InK n ls) {a : Nat} {r : List Lk} (R : Ring ls a r) (h0 : tok r = 0) (h1 : 0 < tks r) (h2 : sa r ≤ 10) (hU : 11 ≤ U) : startsL n U ls = none := by
  cases hs : startsL n U ls with
  | none => rfl
  | some f =>
    exfalso
    obtain ⟨r', p, w⟩ := roll_lift (U := U) r 5 R.path fun s t e => by
      have k1 := tok_sa s
      have k2 := tok_sa t
      rw [e, tok_app] at h0
      rw [e, sa_app] at h2
      omega
    rw [h0] at p
    have := (starts_fix hin hs).2 p
    rw [w] at this
    have e : (5 : Int) + 0 = 5 := rfl
    rw [e] at this
    omega
theorem roll_app {a b c : Nat} {r s : List Lk} (h1 : Path ls a r b) (h2 : Path ls b s c) : Path ls a (r ++ s) c := path_app.mpr ⟨b, h1, h2⟩
/-- m rounds of a closed path upwards -/
theorem climb {a : Nat} {r : List Lk} (p : Path ls a r a) (h0 : 0 ≤ tok r) : ∀ (m : Nat) (k : Int), sa r ≤ k → k + m * tok r + sa r < U → ∃ r', Path (rollU U ls) (a * U + k.toNat) r' (a * U + (k + m * tok r).toNat) ∧ wt tickW r' = m * tks r
  | 0, k, h1, h2 => ⟨[], by simp [Path], by simp [wt]⟩
  | m + 1, k, h1, h2 => by
    have e : ((m + 1 : Nat) : Int) * tok r = m * tok r + tok r := by rw [Int.natCast_add, Int.add_mul]; simp
    have hm : 0 ≤ (m : Int) * tok r := Int.mul_nonneg (by omega) h0
    obtain ⟨r1, p1, w1⟩ := roll_lift (U := U) r k p fun s t es => by
      have k1 := tok_sa s
      have k2 := tok_sa t
      have k3 : sa r = sa s + sa t := by rw [es, sa_app]
      omega
    obtain ⟨r2, p2, w2⟩ := climb p h0 m (k + tok r) (by omega) (by omega)
    refine ⟨r1 ++ r2, ?_, ?_⟩
    · have e2 : k + ((m + 1 : Nat) : Int) * tok r = k + tok r + m * tok r := by omega
      rw [e2]
      exact roll_app p1 p2
    · rw [wt_app, w1, w2, Int.natCast_add, Int.add_mul]
      simp; omega
/-- the first time below 8 -/
theorem first_low : ∀ (r : List Lk) (k : Int), 8 ≤ k → (∀ l ∈ r, -2 ≤ l.2.2.1) → (∀ s t, r = s ++ t → 8 ≤ k + tok s) ∨ ∃ s t, r = s ++ t ∧ 0 ≤ k + tok s ∧ k + tok s < 8 ∧ ∀ s1 s2, s = s1 ++ s2 → 0 ≤ k + tok s1
  | [], k, hk, _ => .inl fun s t e => by
    have : s = [] := by cases s with
      | nil => rfl
      | cons _ _ => cases e
    subst this
    simpa [tok, wt] using hk
  | l :: r, k, hk, hl => by
    have h2 := hl l List.mem_cons_self
    have ec : ∀ s, tok (l :: s) = l.2.2.1 + tok s := fun s => wt_cons l s
    have e0 : tok [] = 0 := by simp [tok, wt]
    by_cases h8 : 8 ≤ k + l.2.2.1
    · rcases first_low r (k + l.2.2.1) h8 (fun m hm => hl m (List.mem_cons_of_mem _ hm)) with h | ⟨s, t, e, h3, h4, h5⟩
      · refine .inl fun s t e => ?_
        cases s with
        | nil => rw [e0]; omega
        | cons x s =>
          injection e with e1 e2
          subst e1
          have := h s t e2
          rw [ec]; omega
      · refine .inr ⟨l :: s, t, by rw [e]; rfl, by rw [ec]; omega, by rw [ec]; omega, fun s1 s2 e1 => ?_⟩
        cases s1 with
        | nil => rw [e0]; omega
        | cons x s1 =>
          injection e1 with e2 e3
          subst e2
          have := h5 s1 s2 e3
          rw [ec]; omega
    · refine .inr ⟨[l], r, rfl, by rw [ec, e0]; omega, by rw [ec, e0]; omega, fun s1 s2 e1 => ?_⟩
      cases s1 with
      | nil => rw [e0]; omega
      | cons x s1 =>
        injection e1 with e2 e3
        subst e2
        have : s1 = [] := by cases s1 with
          | nil => rfl
          | cons _ _ => cases e3
        subst this
        rw [ec, e0]; omega
/-- rounds of a closed path downwards, until k is below 8 -/
theorem sink {b : Nat} {r : List Lk} (p : Path ls b r b) (h0 : tok r < 0) (hl : ∀ l ∈ r, -2 ≤ l.2.2.1) : ∀ (K : Nat) (k : Int), k ≤ K → 0 ≤ k → k + sa r < U → ∃ (q : Nat) (s t : List Lk) (e : Nat) (r' : List Lk), r = s ++ t ∧ Path ls b s e ∧ Path (rollU U ls) (b * U + k.toNat) r' (e * U + (k + q * tok r + tok s).toNat) ∧ wt tickW r' = q * tks r + tks s ∧ 0 ≤ k + q * tok r + tok s ∧ k + q * tok r + tok s < 8
  | K, k, hK, hk, hU => by
    have e0 : tok [] = 0 := by simp [tok, wt]
    by_cases h8 : k < 8
    · refine ⟨0, [], r, b, [], rfl, rfl, ?_, by simp [wt, tks], ?_, ?_⟩
      · simp [Path, e0]
      · simp [e0]; exact hk
      · simp [e0]; exact h8
    · rcases first_low r k (by omega) hl with h | ⟨s, t, e, h3, h4, h5⟩
      · cases K with
        | zero => omega
        | succ K =>
          have hr := h r [] (by simp)
          obtain ⟨q, s, t, e, r2, e1, p1, p2, w2, b1, b2⟩ := sink p h0 hl K (k + tok r) (by omega) (by omega) (by omega)
          obtain ⟨r1, pr1, w1⟩ := roll_lift (U := U) r k p fun s t es => by
            have k0 := h s t es
            have k1 := tok_sa s
            have k2 := tok_sa t
            have k3 : sa r = sa s + sa t := by rw [es, sa_app]
            omega
          have eq : k + ((q + 1 : Nat) : Int) * tok r + tok s = k + tok r + q * tok r + tok s := by rw [Int.natCast_add, Int.add_mul]; simp; omega
          refine ⟨q + 1, s, t, e, r1 ++ r2, e1, p1, ?_, ?_, by rw [eq]; exact b1, by rw [eq]; exact b2⟩
          · rw [eq]; exact roll_app pr1 p2
          · rw [wt_app, w1, w2, Int.natCast_add, Int.add_mul]; simp; omega
      · have p2 := p
        rw [e] at p2
        obtain ⟨c, pc, _⟩ := path_app.mp p2
        obtain ⟨r1, pr1, w1⟩ := roll_lift (U := U) s k pc fun s1 s2 es => by
          have k0 := h5 s1 s2 es
          have k1 := tok_sa s1
          have k2 := tok_sa s2
          have k4 := tok_sa t
          have k3 : sa r = sa s1 + sa s2 + sa t := by rw [e, es, sa_app, sa_app]
          omega
        refine ⟨0, s, t, c, r1, e, pc, ?_, by rw [w1]; simp, ?_, ?_⟩
        · simpa using pr1
        · simpa using h3
        · simpa using h4
end
end PV

/-! Plain: two rings and a way between them make first starts grow. -/
namespace PV
structure Clash (ls low way high : List Lk) : Prop where
  rl : ∃ a, Ring ls a low
  rh : ∃ a, Ring ls a high
  tl : 0 < tok low
  th : tok high < 0
  less : below (askL high) (askL low) = true
  w : ∃ a ∈ outs low, ∃ b ∈ outs high, Path ls a way b
section
variable {n U : Nat} {ls : List Lk}
theorem ring_at {a b : Nat} {r : List Lk} (R : Ring ls a r) (h : b ∈ outs r) : ∃ r', Path ls b r' b ∧ r'.Perm r := by
  obtain ⟨l, hl, e⟩ := List.mem_map.mp h
  obtain ⟨s, t, rfl⟩ := List.append_of_mem hl
  obtain ⟨c, p1, p2⟩ := path_app.mp R.path
  have ec := p2.2.1
  rw [e] at ec
  subst ec
  exact ⟨(l :: t) ++ s, path_app.mpr ⟨a, p2, p1⟩, List.perm_append_comm⟩
theorem go_ge {w : Lk → Int} : ∀ (k : Nat) {f g : List Int}, potGo w ls k f = some g → ∀ i, gt f i ≤ gt g i
  | 0, f, g, h, i => by cases h
  | k + 1, f, g, h, i => by
    unfold potGo at h
    by_cases c : roundP w ls f = f
    · rw [if_pos c] at h; cases h; exact Int.le_refl _
    · rw [if_neg c] at h
      exact Int.le_trans (round_ge ls f i) (go_ge k h i)
theorem starts_nn {f : List Int} (h : startsL n U ls = some f) (i : Nat) : 0 ≤ gt f i := by
  have := go_ge _ h i
  have e : gt (List.replicate (n * U) 0) i = 0 := by
    unfold gt
    rw [List.getD_eq_getElem?_getD, List.getElem?_replicate]
    split <;> rfl
  omega
def farS (low way high : List Lk) : Int := sa low + sa way + sa high
def farR (low way high : List Lk) : Int := st low + st way + st high + (2 + max 0 ((askL low).1 / (askL low).2)) * farS low way high
def farGap (low high : List Lk) : Int := (askL low).1 * (askL high).2 - (askL high).1 * (askL low).2
def farL (low way high : List Lk) (most : Int) : Int := (most + 2 * farR low way high) * (askL low).2 * (askL high).2 / farGap low high + 2 * farS low way high + 16
theorem grow_arith {x1 y1 x2 y2 T1 t1 T2 t2 m q k0 tw Tw ts Ts ke V S ST W most : Int} (hy1 : 0 < y1) (hy2 : 0 < y2) (hx1 : 0 ≤ x1) (e1 : T1 * y1 = x1 * t1) (e2 : T2 * y2 = x2 * t2) (hk : ke = k0 + m * t1 + tw + q * t2 + ts) (hke : 0 ≤ ke) (hV : m * T1 + Tw + q * T2 + Ts ≤ V) (hS : k0 + tw + ts ≤ S) (hS0 : 0 ≤ S) (hST : -ST ≤ Tw + Ts) (hST0 : 0 ≤ ST) (hW : x1 ≤ y1 * W) (hW0 : 0 ≤ W) (hg : 0 < x1 * y2 - x2 * y1) (hQ : (most + 2 * (ST + W * S)) * y1 * y2 < q * (-t2) * (x1 * y2 - x2 * y1)) : most < V := by
  have hD : 0 < y1 * y2 := Int.mul_pos hy1 hy2
  have a1 : (m * T1 + Tw + q * T2 + Ts) * (y1 * y2) ≤ V * (y1 * y2) := Int.mul_le_mul_of_nonneg_right hV (Int.le_of_lt hD)
  have b1 : m * T1 * (y1 * y2) = x1 * y2 * (m * t1) := by
    have : m * T1 * (y1 * y2) = m * y2 * (T1 * y1) := by ac_rfl
    rw [this, e1]; ac_rfl
  have b2 : q * T2 * (y1 * y2) = x2 * y1 * (q * t2) := by
    have : q * T2 * (y1 * y2) = q * y1 * (T2 * y2) := by ac_rfl
    rw [this, e2]; ac_rfl
  have a2 : (-ST) * (y1 * y2) ≤ (Tw + Ts) * (y1 * y2) := Int.mul_le_mul_of_nonneg_right hST (Int.le_of_lt hD)
  have hxy : 0 ≤ x1 * y2 := Int.mul_nonneg hx1 (Int.le_of_lt hy2)
  have a3 : 0 ≤ x1 * y2 * ke := Int.mul_nonneg hxy hke
  have a4 : x1 * y2 * (k0 + tw + ts) ≤ x1 * y2 * S := Int.mul_le_mul_of_nonneg_left hS hxy
  have a5 : x1 * (y2 * S) ≤ y1 * W * (y2 * S) := Int.mul_le_mul_of_nonneg_right hW (Int.mul_nonneg (Int.le_of_lt hy2) hS0)
  have c1 : x1 * y2 * ke = x1 * y2 * (k0 + tw + ts) + x1 * y2 * (m * t1) + x1 * y2 * (q * t2) := by rw [hk]; simp only [Int.mul_add]; omega
  have c2 : q * (-t2) * (x1 * y2 - x2 * y1) = x2 * y1 * (q * t2) - x1 * y2 * (q * t2) := by
    rw [Int.mul_neg, Int.neg_mul, Int.mul_sub, Int.mul_comm (q * t2), Int.mul_comm (q * t2)]; omega
  have c3 : (m * T1 + Tw + q * T2 + Ts) * (y1 * y2) = m * T1 * (y1 * y2) + q * T2 * (y1 * y2) + (Tw + Ts) * (y1 * y2) := by simp only [Int.add_mul]; omega
  have c4 : (most + 2 * (ST + W * S)) * y1 * y2 = most * (y1 * y2) + ST * (y1 * y2) + ST * (y1 * y2) + W * S * (y1 * y2) + W * S * (y1 * y2) := by
    rw [Int.mul_assoc, Int.add_mul, Int.two_mul, Int.add_mul, Int.add_mul]; omega
  have c5 : y1 * W * (y2 * S) = W * S * (y1 * y2) := by ac_rfl
  have c6 : x1 * (y2 * S) = x1 * y2 * S := by ac_rfl
  have n1 : 0 ≤ W * S * (y1 * y2) := Int.mul_nonneg (Int.mul_nonneg hW0 hS0) (Int.le_of_lt hD)
  have n2 : 0 ≤ ST * (y1 * y2) := Int.mul_nonneg hST0 (Int.le_of_lt hD)
  have c7 : (-ST) * (y1 * y2) = -(ST * (y1 * y2)) := Int.neg_mul _ _
  have fin : most * (y1 * y2) < V * (y1 * y2) := by omega
  exact Int.lt_of_mul_lt_mul_right fin (Int.le_of_lt hD)
theorem grows {low way high : List Lk} (hin : InK n ls) (C : Clash ls low way high) (hx : 0 ≤ (askL low).1) (hl : ∀ l ∈ high, -2 ≤ l.2.2.1) {most : Int} (hm : 0 ≤ most) (hU : (U : Int) = farL low way high most) {f : List Int} (hs : startsL n U ls = some f) : ∃ e k, e < n ∧ k < 8 ∧ k < U ∧ most < gt f (e * U + k) := by
  obtain ⟨_, Rl⟩ := C.rl
  obtain ⟨_, Rh⟩ := C.rh
  obtain ⟨a, ha, b, hb, pw⟩ := C.w
  obtain ⟨lo, pl, permL⟩ := ring_at Rl ha
  obtain ⟨hi, ph, permH⟩ := ring_at Rh hb
  have tl := C.tl
  have th := C.th
  obtain ⟨c1, L1⟩ := ask_low (r := low) (by omega)
  obtain ⟨c2, L2⟩ := ask_low (r := high) (by omega)
  have eT1 : tks low * (askL low).2 = (askL low).1 * tok low := by rw [L1.e1, L1.e2]; ac_rfl
  have eT2 : tks high * (askL high).2 = (askL high).1 * tok high := by rw [L2.e1, L2.e2]; ac_rfl
  have hless : (askL high).1 * (askL low).2 < (askL low).1 * (askL high).2 := of_decide_eq_true C.less
  have hgap : 0 < farGap low high := by unfold farGap; omega
  have tokL : tok lo = tok low := tok_perm permL
  have tokH : tok hi = tok high := tok_perm permH
  have tksL : tks lo = tks low := tks_perm permL
  have tksH : tks hi = tks high := tks_perm permH
  have saL : sa lo = sa low := wt_perm permL
  have saH : sa hi = sa high := wt_perm permH
  have stH : st hi = st high := wt_perm permH
  have kL := tok_sa low
  have kH := tok_sa high
  have kW := tok_sa way
  have sL := tks_st low
  have sH := tks_st high
  have sW := tks_st way
  have hW0 : 0 ≤ 2 + max 0 ((askL low).1 / (askL low).2) := by omega
  have hS0 : 0 ≤ farS low way high := by unfold farS; omega
  have hR0 : 0 ≤ farR low way high := by
    unfold farR
    have := Int.mul_nonneg hW0 hS0
    omega
  have hN0 : 0 ≤ (most + 2 * farR low way high) * (askL low).2 * (askL high).2 := Int.mul_nonneg (Int.mul_nonneg (by omega) (Int.le_of_lt L1.pos)) (Int.le_of_lt L2.pos)
  have hQ0 := Int.ediv_nonneg hN0 (Int.le_of_lt hgap)
  have hQ1 := Int.lt_ediv_add_one_mul_self ((most + 2 * farR low way high) * (askL low).2 * (askL high).2) hgap
  unfold farL at hU
  obtain ⟨Q, hQ⟩ : ∃ Q, Q = (most + 2 * farR low way high) * (askL low).2 * (askL high).2 / farGap low high := ⟨_, rfl⟩
  rw [← hQ] at hU hQ0 hQ1
  obtain ⟨S, hS⟩ : ∃ S, S = farS low way high := ⟨_, rfl⟩
  rw [← hS] at hU hS0
  have hSe : S = sa low + sa way + sa high := hS
  -- rounds of the low ring
  have hd0 : 0 ≤ (U : Int) - 1 - S - sa low := by omega
  obtain ⟨m, hm1, hm2⟩ : ∃ m : Nat, (m : Int) * tok low ≤ (U : Int) - 1 - S - sa low ∧ (U : Int) - 1 - S - sa low < (m : Int) * tok low + tok low := by
    have h1 := Int.ediv_nonneg hd0 (Int.le_of_lt tl)
    have h2 := Int.ediv_mul_le ((U : Int) - 1 - S - sa low) (b := tok low) (by omega)
    have h3 := Int.lt_ediv_add_one_mul_self ((U : Int) - 1 - S - sa low) tl
    refine ⟨(((U : Int) - 1 - S - sa low) / tok low).toNat, ?_, ?_⟩
    · rw [Int.toNat_of_nonneg h1]; exact h2
    · rw [Int.toNat_of_nonneg h1]
      rw [Int.add_mul, Int.one_mul] at h3
      exact h3
  obtain ⟨r1, p1, w1⟩ := climb (U := U) pl (by omega) m (sa low) (by omega) (by rw [tokL, saL]; omega)
  rw [tokL] at p1
  rw [tksL] at w1
  obtain ⟨r2, p2, w2⟩ := roll_lift (U := U) way (sa low + m * tok low) pw fun s t e => by
    have k1 := tok_sa s
    have k2 := tok_sa t
    have k3 : sa way = sa s + sa t := by rw [e, sa_app]
    omega
  obtain ⟨q, s, t, e, r3, e3, p3, p4, w3, b1, b2⟩ := sink (U := U) ph (by omega) (fun l h => hl l (permH.mem_iff.mp h)) (sa low + m * tok low + tok way).toNat (sa low + m * tok low + tok way) (by omega) (by omega) (by rw [saH]; omega)
  rw [tokH] at p4 b1 b2
  rw [tksH] at w3
  have ks := tok_sa s
  have kt := tok_sa t
  have ss := tks_st s
  have sst := tks_st t
  have k3 : sa high = sa s + sa t := by rw [← saH, e3, sa_app]
  have k4 : st high = st s + st t := by rw [← stH, e3, st_app]
  have pall := roll_app (roll_app p1 p2) p4
  have hv := (starts_fix hin hs).2 pall
  rw [wt_app, wt_app, w1, w2, w3] at hv
  have h0 := starts_nn hs (a * U + (sa low).toNat)
  have he : e < n := by
    have hbn : b < n := outs_lt hin Rh.path b hb
    cases s with
    | nil => cases p3; exact hbn
    | cons x s => exact (path_lt hin p3 (by simp)).2
  refine ⟨e, (sa low + m * tok low + tok way + q * tok high + tok s).toNat, he, by omega, by omega, ?_⟩
  have hW : (askL low).1 ≤ (askL low).2 * (2 + max 0 ((askL low).1 / (askL low).2)) := by
    have h1 := Int.lt_ediv_add_one_mul_self (askL low).1 L1.pos
    have h2 : ((askL low).1 / (askL low).2 + 1) * (askL low).2 ≤ (2 + max 0 ((askL low).1 / (askL low).2)) * (askL low).2 := Int.mul_le_mul_of_nonneg_right (by omega) (Int.le_of_lt L1.pos)
    rw [Int.mul_comm (askL low).2]
    omega
  have hqt : Q + 1 ≤ q * (-tok high) := by rw [Int.mul_neg]; omega
  refine grow_arith (T1 := tks low) (t1 := tok low) (T2 := tks high) (t2 := tok high) (m := m) (q := q) (k0 := sa low) (tw := tok way) (Tw := tks way) (ts := tok s) (Ts := tks s) (S := S) (ST := st low + st way + st high) L1.pos L2.pos hx eT1 eT2 rfl b1 (by omega) (by omega) hS0 (by omega) (by omega) hW hW0 hgap ?_
  have hfr : farR low way high = st low + st way + st high + (2 + max 0 ((askL low).1 / (askL low).2)) * S := by rw [hS]; rfl
  rw [← hfr]
  exact Int.lt_of_lt_of_le hQ1 (Int.mul_le_mul_of_nonneg_right hqt (Int.le_of_lt hgap))
end
end PV

/-! The end: a law's contract, its guards known, where the caller stands. -/
namespace PV
open PySem PySem.Spec PyProof.Rows L2
theorem rep_nums {K : PySem.W.Frag} {H : Hp} : ∀ ns : List Int, RepL K H (ns.map V.int) (ns.map P.int)
  | [] => .nil
  | n :: ns => .cons (.int n) (rep_nums ns)
/-- the world of the script alone -/
theorem sp_law {K : PySem.W.Frag} {S : PSpec} {H : Hp} {a : Addr} {ns : List Int} {E : XK} (hO : Only H) (hS : SqL K H a (ns.map V.int)) (h : S [.sh (.scr (ns.map .int))] [] fun z _ => z = .sh (.bl true)) : spOf K S [.ref a] H (fun v _ => v = .bl true) E := by
  have W : Wd K [] H H [] := ⟨rfl, fun b u e => Std.of e, fun j b c e => by simp at e, fun i j b c d e => by simp at e, fun b e => by simp at e⟩
  have r := rep_nums (K := K) (H := H) ns
  refine ⟨[], H, [], [.sh (.scr (ns.map .int))], fun z _ => z = .sh (.bl true), W, .cons (show Rep K H (.ref a) (.scr (ns.map .int)) from .scr hS r.length (pd_get r)) .nil, h, fun v z μ' ad' Hb' H' hz _ _ rv => ?_⟩
  subst hz
  exact Rep.bl_inv rv
theorem law_callG {P : Program} {w : World} {K : PySem.W.Frag} {mg mb : Str → Option Value} {k : Nat} {fa a : Addr} {x : Str} {S : PSpec} {s₁ : Shared} {vs : List Value} {ns : List Int} (KX : K.In s₁.heap) (hns : s₁.heap.Ns mainGlobals mg) (hb : s₁.heap.Ns builtinsNs mb) (hbb : ∀ x : Str, x ≠ "__name__" → mb x = bootBuiltins x)
    (hlim : s₁.heap.NoLimit) (hg : s₁.gens = #[]) (ha : s₁.heap.get? a = some { cls := .type "list", data := .seq vs.toArray }) (hi : IntsAre vs ns) (hl : ns.length ≤ sizeLine) (hr : Room k callerA) (hm : mg x = some (.ref fa))
    (C : ∀ base : Heap, K.In base → base.Ns mainGlobals mg → Ct true P w K mg base k x S) (hS : S [.sh (.scr (ns.map .int))] [] fun z _ => z = .sh (.bl true)) :
    codeAny (model P w) callerA (.call (.ref fa) ⟨[.ref a], []⟩) (fun r s' => r = .ok (.ret (.bool true)) ∧ OldK s₁.heap s'.heap ∧ s'.os = s₁.os ∧ AllBare s'.gens) s₁ := by
  have rv := vals_ints hi
  have lenV := hi.length
  have core : ∀ H : Hp, Only H → SqL K H a (ns.map V.int) → HOk P w H s₁.heap → (∀ b, H b ≠ none → b = a) → (H a ≠ none → K.lookup a = none) →
      codeAny (model P w) callerA (.call (.ref fa) ⟨[.ref a], []⟩) (fun r s' => r = .ok (.ret (.bool true)) ∧ OldK s₁.heap s'.heap ∧ s'.os = s₁.os ∧ AllBare s'.gens) s₁ := by
    intro H hO hq hok hA hK
    have base_of : ∀ {b : Addr} {o : Obj}, s₁.heap.get? b = some o → H b = none → (hidT s₁.heap H).get? b = some o := fun e n => hidT_get e n
    have noA : ∀ {b : Addr} {o : Obj} {es : Array DictEntry} {ep : Nat}, s₁.heap.get? b = some o → o.data = .dict es ep → H b = none := fun {b o es ep} e d => by
      cases q : H b with
      | none => rfl
      | some u =>
        obtain rfl : b = a := hA b (by rw [q]; simp)
        rw [ha] at e
        cases e
        cases (show Data.seq vs.toArray _ = Data.dict es ep from d)
    have nsK : ∀ {b : Addr} {m : Str → Option Value}, s₁.heap.Ns b m → (hidT s₁.heap H).Ns b m := fun {b m} ⟨o, es, ep, e, d, r⟩ => ⟨o, es, ep, base_of e (noA e d), d, r⟩
    have hKb : K.In (hidT s₁.heap H) := fun b o e => base_of (KX b o e) (by
      cases q : H b with
      | none => rfl
      | some u =>
        obtain rfl : b = a := hA b (by rw [q]; simp)
        rw [hK (by rw [q]; simp)] at e
        cases e)
    have hM : Mod K mg (hidT s₁.heap H) := ⟨hKb, nsK hns, ⟨mb, nsK hb, hbb⟩, let ⟨mc, h1, h2⟩ := hlim; ⟨mc, nsK h1, h2⟩⟩
    have e0 : Env0 P w K mg (hidT s₁.heap H) callerA [] s₁ H := ⟨rfl, hM, fun b o e => of_hidT e, Nat.le_of_eq (hidT_size _ _), trivial, fun b hb => absurd (show b ∈ ([] : List Addr) from hb) (by simp), hok, .of_eq hg⟩
    obtain ⟨f, fd, ps, h1, _, h3, h4⟩ := (C _ hKb (nsK hns)).ok
    rw [hm] at h1
    cases h1
    have sp := sp_law (S := S) (E := fun _ _ _ => False) hO hq hS
    have b1 := h3 s₁ [.ref a] KX (by rw [List.append_nil]; exact h4.num sp)
    rw [List.append_nil] at b1
    refine codeAny_mono (h4.go (A := callerA) (outer := []) (vs := [.ref a]) (us := [.ref a]) ⟨hr, fun _ => rfl⟩ e0 b1 (.cons rfl .nil) sp) fun r s' h => ?_
    cases r with
    | error e => exact (show False from h).elim
    | ok fl =>
      cases fl with
      | ret u =>
        obtain ⟨v, H', os, bare, un, hok', r', q⟩ := h
        obtain rfl : v = .bl true := q
        obtain rfl : u = Value.bool true := r'
        refine ⟨rfl, OldK.of_keep fun b o e => ?_, os, bare⟩
        cases q : H b with
        | none => exact un.keep b o e q (by intro z; exact absurd (show b ∈ ([] : List Addr) from z) (by simp)) (by simp)
        | some u =>
          rcases hO b with z | ⟨ob, xs, z⟩
          · rw [q] at z
            cases z
          · obtain ⟨e1, _⟩ := hok b _ z
            obtain ⟨e2, _⟩ := hok' b _ (un.frzs b ob _ z)
            rw [e] at e1
            cases e1
            exact e2
      | _ => exact (show False from h).elim
  cases hk : K.lookup a with
  | some o =>
    have e := KX a o hk
    rw [ha] at e
    cases e
    exact core (fun _ => none) (fun _ => .inl rfl) (.inr ⟨_, vs.toArray, _, hk, rfl, rfl, rfl, by rw [List.size_toArray, lenV]; exact hl, by simpa using rv⟩) (fun b u z => nomatch (show (none : Option HO) = some u from z)) (fun b z => absurd rfl z) fun z => absurd rfl z
  | none =>
    let o0 : Obj := { cls := .type "list", data := .seq vs.toArray }
    refine core (fun b => if b = a then some (.frz o0 (.lst (ns.map V.int))) else none) (fun b => ?_) (.inl (.inr ⟨o0, if_pos rfl⟩)) (fun b u z => ?_) (fun b z => ?_) fun _ => hk
    · by_cases h : b = a
      · exact .inr ⟨_, _, if_pos h⟩
      · exact .inl (if_neg h)
    · by_cases h : b = a
      · cases (if_pos h).symm.trans z
        subst h
        exact ⟨ha, by rw [List.length_map]; exact hl, vs, _, rv, ha⟩
      · cases (if_neg h).symm.trans z
    · by_cases h : b = a
      · exact h
      · exact absurd (if_neg h) z
/-- a law's row, from its contract over every base -/
theorem walk_ofG {l : PySem.W.OpenLaw} {n k : Nat} {q : Program} {loose : List Str} {XP : (Str → Option Value) → Heap → Prop} {YP : World → Heap → Prop} {d : DefRec} {S : PSpec} (hn : l.most = some n) (hn2 : n ≤ sizeLine) (hdf : d.params.defaults = []) (hr : Room k callerA)
    (F : ∀ (w : World) (mg : Str → Option Value) (fa : Addr) (h : Heap), YP w h → h.Ns mainGlobals mg → mg d.name = some (.ref fa) → ∃ K : PySem.W.Frag, K.In h ∧ ∀ base : Heap, K.In base → base.Ns mainGlobals mg → Ct true l.prog w K mg base k d.name S)
    (hS : ∀ ns : List Int, ns.length ≤ n → S [.sh (.scr (ns.map .int))] [] fun z _ => z = .sh (.bl true)) : PySem.W.WalkO q loose XP YP l.row.toRowW d [] (fun f vs => PySem.call f vs) := by
  refine Att.attach_call hn hdf fun w s₀ s₁ mg mb fa o pm cd doc a vs ns G Y ho hd hcd hmg hobj hints hlen hg => ?_
  obtain ⟨K, KX, hC⟩ := F w mg fa _ Y G.T.g hmg
  exact law_callG KX G.T.g G.T.b G.T.builtins G.T.nolimit hg hobj hints (Nat.le_trans hlen hn2) hr hmg hC (hS ns hlen)
end PV

/-! A head with one more Bool: what the module's other names stand for. -/
namespace PV
open PySem PySem.Spec PyProof.Rows L2
def obsM (n : Nat) (fa : List He.Fa) (fn : List He.DefD) (ex : PySem.W.Frag → Bool) (g : Addr → Option Obj) : He.AlD × Bool := (He.obsDG n fa fn g, ex (He.frG g (He.asD g n)))
def hookM (n : Nat) (fa : List He.Fa) (fn : List He.DefD) (ex : PySem.W.Frag → Bool) : PySem.W.Hook where
  α := He.AlD × Bool
  obs := fun s => obsM n fa fn ex s.heap.get?
  val := fun _ => (He.valD fn, true)
  says := fun _ h => ∃ K : PySem.W.Frag, K.In h ∧ He.SaysD fa fn K ∧ ex K = true
  of := fun _ _ e => ⟨_, He.frG_in, congrArg (fun z : He.AlD × Bool => z.1) e, congrArg (fun z : He.AlD × Bool => z.2) e⟩
  keeps := fun _ _ _ ⟨K, hK, c⟩ k => ⟨K, PySem.W.Frag.In.keeps hK k, c⟩
theorem obsM_eq {n : Nat} {fa : List He.Fa} {fn : List He.DefD} {ex : PySem.W.Frag → Bool} {g : Addr → Option Obj} {s : Shared} (h : ∀ a, g a = s.heap.get? a) : obsM n fa fn ex g = (hookM n fa fn ex).obs s := by
  have e : g = s.heap.get? := funext h
  rw [e] <;> rfl
/-- the module's gcd is math's -/
def exGcd (K : PySem.W.Frag) : Bool := He.eqO (PySem.W.nsIn K mainGlobals "gcd") (some (some (.builtin "math.gcd")))
theorem gcd_ok {K : PySem.W.Frag} {h : Heap} {mg : Str → Option Value} (X : K.In h) (G : h.Ns mainGlobals mg) (c : exGcd K = true) : mg "gcd" = some (.builtin "math.gcd") := PySem.W.mg_of X G (He.eqO_ok c)
end PV

/-! Dicts of int keys: stores, walks; name += e. -/
namespace PV
open PySem PySem.Spec PyProof.Rows L2
section
variable {X : Cx} {tg a e o : Expr} {ρ : Rho} {μ : Mu} {pos p2 : Pos}
/-- d[k] = e, d a dict of plain keys -/
theorem tsp_dputK {value : Expr} {pos' : Pos} {D : Out} (hu : X.A.units + 1 < cLine)
    (h : TEP X value ρ μ fun y μ1 => TEP X o ρ μ1 fun d μ2 => TEP X a ρ μ2 fun k μ3 => ∃ (j : Nat) (kvs : List (Key × E)) (kk : Key), d = .pt j ∧ k = .sh (kP kk) ∧ μ3[j]? = some (some (.dK kvs)) ∧ kvs.length < 100000 ∧ D.nx ρ (μ3.set j (some (.dK (dput kvs kk y)))))
    (hs : swapsWith value (some (.Subscript o a pos')) pos.line X.env = pure false := by rfl) : TSP X (.Assign [.Subscript o a pos'] value pos) ρ μ D := fun ad Hb H σ W N D' g => by
  refine ps_go (ps_dput hu pe_self pe_self pe_self hs) (h ad Hb H σ W N _ fun v y μ1 ad1 Hb1 H1 q1 s1 W1 r1 => q1 ad1 Hb1 H1 σ W1 (N.step s1) _ fun w d μ2 ad2 Hb2 H2 q2 s2 W2 r2 => q2 ad2 Hb2 H2 σ W2 ((N.step s1).step s2) _ ?_)
  rintro u k μ3 ad3 Hb3 H3 ⟨j, kvs, kk, rfl, rfl, hj, hl, q⟩ s3 W3 r3
  obtain ⟨a, ha, rfl⟩ := RepE.step s3 r2
  obtain ⟨_, ws, hv, r⟩ := W3.off j a _ ha hj
  obtain rfl := rep_key r3
  obtain ⟨W4, s4⟩ := W3.put (d := .dK (dput kvs kk y)) (o := .dK (putK ws kk v)) ha hj ⟨_, upd_same, pd_dput r kk (RepE.step (s2.trans s3) r1)⟩
  refine ⟨a, _, rfl, .inl ⟨ws, kk, hv, rfl, Nat.lt_of_lt_of_le (by rw [r.length]; exact hl) (by decide), rfl⟩, ?_⟩
  exact g.nx _ _ _ _ _ _ q (((s1.trans s2).trans s3).trans s4) W4 (N.step (((s1.trans s2).trans s3).trans s4))
/-- name += e, both ints -/
theorem tsp_augI (i : Nat) {n : Str} {u v : Int} {D : Out} (nd : X.N.Nodup) (hx : ρ[i]? = some (some (.sh (.int u)))) (h : EV X e ρ μ (.sh (.int v))) (q : D.nx (ρ.set i (some (.sh (.int (u + v))))) μ) (hi : X.N[i]? = some n := by rfl) (hl : Loc X.env.scope n := by exact .inl rfl) (hf : X.fn n = true ∨ X.env.scope.names.lookup n = some .local := by exact .inl rfl) :
    TSP X (.AugAssign (.Name n p2) .Add e pos) ρ μ D := fun ad Hb H σ W N D' g => by
  obtain ⟨x, h1, h2⟩ := N.2 i _ hx
  obtain rfl := Rep.int_inv h2
  refine ps_go (ps_aug (ti := rI0 fun i j => .int (i + j)) nd hi hl pe_self (fun pins s σ H x y v u Q I r1 r2 hq => iop_add pins s σ H x y v u Q I r1 r2 hq) hf) ⟨_, h1, ?_⟩
  refine h (fun y μ1 => y = .sh (.int v) ∧ μ1 = μ) ⟨rfl, rfl⟩ ad Hb H σ W N _ ?_
  rintro w y μ1 ad1 Hb1 H1 ⟨rfl, rfl⟩ s1 W1 r1
  obtain rfl := Rep.int_inv r1
  refine ⟨u, v, rfl, rfl, ?_⟩
  exact g.nx _ _ _ _ _ _ q s1 W1 ((N.step s1).set i (.int (u + v)))
end
/-! ### for k in d, d a shared dict of plain keys -/
/-- the thing at d locked, from here on -/
def LkK (R : Addr → Obj → List (Key × V) → Hp → Prop) : V → Hp → Prop := fun x H => ∃ d kvs, x = .ref d ∧ ((∃ o, H d = some (.frz o (.dK kvs)) ∧ R d o kvs H) ∨ (H d = some (.dK kvs) ∧ ∀ o, R d o kvs (upd H d (.frz o (.dK kvs)))))
theorem pi_keysLK {X : Cx} {tg e : Expr} {td : TE} (he : PE X e td) : PI X tg e (fun σ H R => td σ H (LkK fun d o kvs H2 => R (Itk d o kvs) H2)) := .mk fun pins s σ H R I h => by
  refine thn (he.run pins s σ H _ I h) ?_
  rintro u s1 ⟨x, H1, I1, rx, q⟩
  obtain ⟨d, o, kvs, H2, rfl, I2, hd, q⟩ : ∃ d o kvs H2, x = .ref d ∧ Inv X pins σ H2 s1 ∧ H2 d = some (.frz o (.dK kvs)) ∧ R (Itk d o kvs) H2 := by
    obtain ⟨d, kvs, rfl, ⟨o, hd, q⟩ | ⟨hd, q⟩⟩ := q
    · exact ⟨d, o, kvs, H1, rfl, I1, hd, q⟩
    · obtain ⟨o, I2⟩ := I1.lock hd trivial
      exact ⟨d, o, kvs, _, rfl, I2, upd_same, q o⟩
  obtain rfl : u = .ref d := rx
  obtain ⟨hs, hgd, hx, es, ep, vs, hdt, hsz, kv, hm⟩ := I2.frzK hd
  refine iter_keys hs hgd hx hdt (pi_one (tk := s1.toks) I2 _ (turn_keys _ hdt) ⟨_, Heap.get?_push_size _ rfl, rfl, ?_⟩ q)
  rw [hsz] <;> rfl
theorem Wd.lockK {K : PySem.W.Frag} {ad : List Addr} {Hb H : Hp} {μ : Mu} (W : Wd K ad Hb H μ) {d : Addr} {ks : List (Key × V)} (hb : Hb d = some (.dK ks)) (e : H d = some (.dK ks)) (o : Obj) : Wd K ad Hb (upd H d (.frz o (.dK ks))) μ ∧ Step ad Hb H ad Hb (upd H d (.frz o (.dK ks))) := by
  refine ⟨⟨W.len, fun a u h => ?_, fun j a c ha hc => ?_, W.nd, fun a ha => upd_trk (W.trk a ha)⟩, ⟨Ex.refl _, ⟨[], by simp⟩, fun _ z => .inl z, fun a u _ h => ?_, fun _ _ _ _ _ n => n, fun a u q _ h => ?_⟩⟩
  · by_cases c : a = d
    · subst c
      obtain rfl : HO.dK ks = u := Option.some.inj (hb.symm.trans h)
      exact .inr ⟨o, upd_same⟩
    · exact (W.inc a u h).keep (upd_ne c)
  · obtain ⟨h1, h2⟩ := W.off j a c ha hc
    have ne : a ≠ d := by
      rintro rfl
      rw [h1] at hb
      cases hb
    exact ⟨h1, h2.keep (upd_ne ne) fun _ _ r => r⟩
  · by_cases c : a = d
    · subst c
      obtain rfl : HO.dK ks = u := Option.some.inj (e.symm.trans h)
      exact .inr ⟨o, rfl, hb, upd_same⟩
    · exact .inl ((upd_ne c).trans h)
  · have ne : a ≠ d := by
      rintro rfl
      rw [e] at h
      cases h
    exact (upd_ne ne).trans h
theorem ei_keysK {X : Cx} {tg e : Expr} {ρ : Rho} {μ : Mu} {kvs : List (Key × P)} (h : EV X e ρ μ (.sh (.dK kvs))) : EI X tg e ρ μ (kvs.map fun q => .sh (kP q.1)) := fun R q ad Hb H σ W N R' g => by
  refine pi_go (pi_keysLK pe_self) (h (fun y μ1 => y = .sh (.dK kvs) ∧ μ1 = μ) ⟨rfl, rfl⟩ ad Hb H σ W N _ ?_)
  rintro v x μ1 ad1 Hb1 H1 ⟨rfl, rfl⟩ s1 W1 r1
  obtain ⟨d, ks, rfl, hb, r⟩ := Rep.dK_inv r1
  have hl : ks.length = kvs.length := r.length
  have go : ∀ o H2, H2 d = some (.frz o (.dK ks)) → Step ad1 Hb1 H1 ad1 Hb1 H2 → Wd X.K ad1 Hb1 H2 μ1 → R' (Itk d o ks) H2 := fun o H2 hd s2 W2 => by
    refine g _ _ (fun _ => True) _ _ _ _ q (s1.trans s2) W2 ⟨fun i ad3 Hb3 H3 μ3 hi s3 W3 _ => ?_, fun ad3 Hb3 H3 μ3 s3 W3 _ => ?_, fun i ad3 Hb3 H3 μ3 x H4 hi s3 W3 _ y => ?_⟩
    · exact ⟨s3.bs d _ o hb hd, by rw [List.length_map] at hi; omega⟩
    · exact ⟨s3.bs d _ o hb hd, by rw [List.length_map]; omega⟩
    · obtain ⟨rfl, k, v, hk, rfl⟩ := y
      obtain ⟨z, hz, hz2⟩ := pd_right r i _ hk
      refine ⟨Hb3, .sh (kP k), Step.refl _ _ _, W3, ?_, ?_⟩
      · rw [List.getElem?_map, hz]
        have : z.1 = k := hz2.1.symm
        simp [this]
      · cases k with
        | inl i => exact .int i
        | inr i => exact .str i
  rcases W1.inc d _ hb with z | ⟨o, z⟩
  · exact ⟨d, ks, rfl, .inr ⟨z, fun o => go o _ upd_same (W1.lockK hb z o).2 (W1.lockK hb z o).1⟩⟩
  · exact ⟨d, ks, rfl, .inl ⟨o, z, go o H1 z (Step.refl _ _ _) W1⟩⟩
end PV

/-! Tuples that hold lists in cells: made, walked; isinstance of lists in cells. -/
namespace PV
open PySem PySem.Spec PyProof.Rows L2
section
variable {X : Cx} {tg a b e : Expr} {es : List Expr} {ρ : Rho} {μ : Mu} {Q : E → Mu → Prop} {pos p2 : Pos}
theorem pd_items {K : PySem.W.Frag} {ad : List Addr} {H : Hp} : ∀ {vs : List V} {xs : List (P ⊕ Nat)}, RepEs K ad H vs (xs.map iE) → Paired (RepI K ad H) vs xs
  | [], [], _ => .nil
  | _, x :: xs, r => by
    cases r with
    | cons r t => exact .cons (repI_E.mpr r) (pd_items t)
  | _ :: _, [], r => by cases r
theorem pd_itemsE {K : PySem.W.Frag} {ad : List Addr} {H : Hp} : ∀ {vs : List V} {xs : List (P ⊕ Nat)}, Paired (RepI K ad H) vs xs → RepEs K ad H vs (xs.map iE)
  | _, _, .nil => .nil
  | _, _, .cons r t => .cons (repI_E.mp r) (pd_itemsE t)
/-- (a, b, ..), some of them cells -/
theorem tep_tupE {k} (h : TAP X es ρ μ fun zs μ1 => ∃ xs : List (P ⊕ Nat), zs = xs.map iE ∧ xs.length ≤ 100000 ∧ Q (.tp xs) μ1) : TEP X (.Tuple es k pos) ρ μ Q := fun ad Hb H σ W N Q' g => by
  refine pe_go (pe_tup pa_self) (h ad Hb H σ W N _ ?_)
  rintro vs zs μ1 ad1 Hb1 H1 ⟨xs, rfl, l, q⟩ s1 W1 r
  refine ⟨Nat.le_trans (by rw [r.length, List.length_map]; exact l) (by decide), fun p hp => ?_⟩
  obtain ⟨W2, s2⟩ := W1.alloc (o := .tup vs) hp
  exact g _ (.tp xs) _ _ _ _ q (s1.trans s2) W2 ⟨p, vs, rfl, upd_same, pd_items (RepEs.step s2 r)⟩
/-- for x in t, t a tuple that holds cells -/
theorem ei_tp {xs : List (P ⊕ Nat)} (h : EV X e ρ μ (.tp xs)) : EI X tg e ρ μ (xs.map iE) := fun R q ad Hb H σ W N R' g => by
  refine pi_go (pi_tup pe_self) (h (fun y μ1 => y = .tp xs ∧ μ1 = μ) ⟨rfl, rfl⟩ ad Hb H σ W N _ ?_)
  rintro v x μ1 ad1 Hb1 H1 ⟨rfl, rfl⟩ s1 W1 ⟨a, vs, rfl, hv, r⟩
  have hl : (xs.map iE).length = vs.length := by rw [List.length_map, r.length]
  have w := walk_tup (K := X.K) (a := a) (xs := vs)
  rw [← hl] at w
  refine ⟨a, rfl, ⟨vs, .inl (.inl (W1.tup hv))⟩, g _ (xs.map iE) _ _ _ _ _ q s1 W1 (pwalk_at (Gh := fun H => SqT X.K H a vs) ?_ (pd_itemsE r) fun ad2 Hb2 H2 μ2 s W2 => .inl (.inl (W2.tup (s.ex _ _ hv))))⟩
  exact w
/-- isinstance(x, C), x a list in a cell -/
theorem ev_isiC {j : Nat} {zs : List E} {C : String} {r : Bool} (hm : X.mg "isinstance" = none) (h1 : EV X a ρ μ (.pt j)) (hj : μ[j]? = some (some (.lst zs))) (h2 : EV X b ρ μ (.sh (.ty C))) (hk : PySem.W.kitOne X.K (.type "list") (.type C) = some r) (hg : Gl X "isinstance" := by rfl)
    (hs : starEach [a, b] X.env = (false, eval a X.env) :: starEach [b] X.env := by rfl) (hs2 : starEach [b] X.env = (false, eval b X.env) :: starEach [] X.env := by rfl) : EV X (.Call (.Name "isinstance" p2) [a, b] [] pos) ρ μ (.sh (.bl r)) :=
  ev_callB call_iz hg hm bo_isinstance (ea_cons h1 (ea_cons h2 ea_nil hs2) hs) (fun Q q ad Hb H vs W r0 Q' g => by
    obtain ⟨v, w, rfl, r1, r2⟩ := vals2E r0
    obtain ⟨ad0, ha, rfl⟩ := r1
    cases r2
    obtain ⟨_, us, hv, _⟩ := W.off j ad0 _ ha hj
    exact ⟨_, C, .type "list", r, rfl, .inl (.base (.lst hv)), hk, g.now W (x := .sh (.bl r)) (.bl _) q⟩) (by decide) (by decide) hs (by rw [hs2]; rfl)
end
end PV

set_option maxHeartbeats 0
/-! The walk: led_to. -/
namespace PV
open PySem PySem.Spec PyProof.Rows L2
/-- the dict of some events -/
def trD (l : List Nat) : List (Key × P) := l.map fun (e : Nat) => (.inl (e : Int), .bl true)
def trE (l : List Nat) : List (Key × PV.E) := l.map fun (e : Nat) => (.inl (e : Int), .sh (.bl true))
theorem trE_eq (l : List Nat) : (trD l).map (fun q => (q.1, PV.E.sh q.2)) = trE l := by unfold trD trE; rw [List.map_map]; rfl
theorem trE_get (l : List Nat) (e : Nat) : (dget (trE l) (.inl (e : Int))).isSome = decide (e ∈ l) := by
  unfold dget trE
  induction l with
  | nil => rfl
  | cons a l ih =>
    rw [List.map_cons, List.find?_cons]
    by_cases h : a = e
    · subst h; simp
    · have : decide ((Sum.inl (a : Int) : Key) = .inl (e : Int)) = false := by
        rw [decide_eq_false_iff_not]
        intro k; injection k with k; exact h (by omega)
      simp only [this]
      rw [ih]
      have h2 : (e = a) = False := eq_false fun k => h k.symm
      simp [h2]
theorem dput_newL {κ α : Type} [DecidableEq κ] (l : List (κ × α)) (k : κ) (v : α) (h : ∀ q ∈ l, q.1 ≠ k) : dput l k v = l ++ [(k, v)] := by
  unfold dput
  have : l.any (fun q => decide (q.1 = k)) = false := by
    rw [List.any_eq_false]
    intro q hq
    simp [h q hq]
  simp [this]
theorem trE_put (l : List Nat) (e : Nat) (h : e ∉ l) : dput (trE l) (.inl (e : Int)) (.sh (.bl true)) = trE (l ++ [e]) := by
  rw [dput_newL]
  · unfold trE; rw [List.map_append]; rfl
  · intro q hq
    obtain ⟨a, ha, rfl⟩ := List.mem_map.mp hq
    intro k
    injection k with k
    exact h (by rw [show e = a by omega]; exact ha)
theorem trD_fold : ∀ (l m : List Nat), (m ++ l).Nodup → l.foldl (fun d (a : Nat) => dput d (Sum.inl (a : Int) : Key) (P.bl true)) (trD m) = trD (m ++ l)
  | [], m, _ => by rw [List.append_nil]; rfl
  | a :: l, m, nd => by
    have h := List.nodup_append.mp nd
    rw [List.foldl_cons, dput_newL, show trD m ++ [(Sum.inl (a : Int), P.bl true)] = trD (m ++ [a]) by unfold trD; rw [List.map_append]; rfl]
    · rw [trD_fold l (m ++ [a]) (by rw [List.append_assoc]; exact nd), List.append_assoc]; rfl
    · intro q hq
      obtain ⟨b, hb, rfl⟩ := List.mem_map.mp hq
      intro k
      injection k with k
      exact h.2.2 b hb a List.mem_cons_self (by omega)
section
variable {g : Bool} {Pr : Program} {w : World} {K : PySem.W.Frag} {mg : Str → Option Value} {base : Heap} {f : Addr} {fd : FuncData} {C : Addr}
theorem sc_led_to : FnScope ["links", "events", "found", "waiting", "here", "link", "event"] ["links", "events"] (defScope s_led_to) := ⟨rfl, rfl, rfl, by decide +kernel, rfl, by decide +kernel, by decide +kernel⟩
def F_led_to (zs : List P) (y : P) : Prop := ∃ (n : Nat) (ls : List Lk) (ev : List Nat), zs = [rgP ls, .lst (natsP ev)] ∧ InK n ls ∧ n ≤ 1000 ∧ ls.length ≤ 1000 ∧ ev.Nodup ∧ (∀ x ∈ ev, x < n) ∧ y = .dK (trD (ledTo n ls ev))
theorem c_led_to (F : FnP K "led_to" "led_to" s_led_to f fd) (hm : mg "led_to" = some (.ref f)) (B : Bl mg) : Ct g Pr w K mg base 1 "led_to" (SF F_led_to) := by
  refine ct_pure F hm sc_led_to (fun _ _ _ _ _ _ us hl => match us, hl with | [_, _], _ => rfl) (by rintro _ _ ⟨n, ls, ev, rfl, _⟩; rfl) fun cdv A outer s H E hr zs y hF => ?_
  obtain ⟨n, ls, ev, rfl, hin, hn, hll, hnd, hlt, rfl⟩ := hF
  have nd := sc_led_to.nd
  have hu := hr.un
  have hel := nat_nd_len hnd hlt
  let R : Option PV.E → Option PV.E → Rho := fun a b => [some (.sh (rgP ls)), some (.sh (.lst (natsP ev))), some (.pt 0), some (.pt 1), a, b, none]
  let M : List Nat × List Nat → Mu := fun s => [some (.dK (trE s.1)), some (.lst (s.2.map fun (e : Nat) => .sh (.int (e : Nat))))]
  refine tss_cons (tsp_par2A 2 3 nd (tap_cons (tep_dcCK ev (fun e => .int (e : Nat)) (fun _ => true) (fun e => .inl (e : Int)) (fun _ => .bl true) (fun e => [some (.sh (rgP ls)), some (.sh (.lst (natsP ev))), none, none, none, none, some (.sh (.int (e : Nat)))]) [("event", 6)] [6] (Nat.lt_of_succ_lt hu) rfl nd (blkOk_by (by kernel_rfl)) (ei_nats (ev_name 1)) (by omega) (fun a _ => tgb_name 6 nd (by decide) rfl rfl) (fun a _ => ttsb0) (fun a _ _ s H C cl fp => ev_name 6) (fun a _ _ s H C cl fp => ev_bl)
    (tap_cons (tep_listC B.list ((ev_name 1) _ ⟨natsP ev, .inl rfl, tap_nil ⟨_, _, rfl, ?_⟩⟩))))))
  have e0 : ((ev.filter fun _ => true).foldl (fun d (a : Nat) => dput d (Sum.inl (a : Int) : Key) (P.bl true)) []) = trD ev := by
    rw [List.filter_eq_self.mpr (fun _ _ => rfl)]
    exact trD_fold ev [] (by simpa using hnd)
  rw [e0, trE_eq]
  refine tss_cons (tsp_whileP (fun m ρ2 μ2 => ∃ s a b, ρ2 = R a b ∧ μ2 = M s ∧ LedA n ls ev s ∧ LedC ls s ∧ m ≤ 2 * n + 1 ∧ s.2.length + 2 * n ≤ m + 2 * s.1.length ∧ ledTo n ls ev = ledGo ls m s) (2 * n + 1) ⟨(ev, ev), none, none, rfl, ?_, ⟨hnd, hlt, fun x hx => hx, fun x hx => ⟨x, hx, [], rfl⟩, fun a ha => ha⟩, fun x hx hn => absurd hx hn, Nat.le_refl _, by simp only; omega, rfl⟩ ?_)
  · show _ = M (ev, ev)
    simp only [M, natsP, List.map_map]
    rfl
  · rintro m ρ2 μ2 ⟨⟨f1, w1⟩, a, b, rfl, rfl, A, Cc, hm5, hme, hgo⟩
    refine (ET.is (y := decide (w1 ≠ [])) (et_gt (ev_lenC B.len (ev_name 3) (rfl : (M (f1, w1))[1]? = _)) ev_int) (by rw [List.length_map]; cases w1 <;> simp)) _ ?_
    by_cases hw0 : w1 = []
    · subst hw0
      rw [if_neg (by simp)]
      have e1 : ledTo n ls ev = f1 := by
        rw [hgo]
        cases m <;> rfl
      rw [e1]
      exact tss_one (tsp_retV (ev_name 2) (Frz.dK (zs := trE f1) rfl (by unfold trE trD; rw [List.map_map, List.map_map]; rfl) fun i z x h1 h2 => by
        rw [← trE_eq, List.getElem?_map, h2] at h1
        cases h1
        exact .sh _))
    rw [if_pos (by simpa using hw0)]
    obtain ⟨w2, h, rfl⟩ : ∃ w2 h, w1 = w2 ++ [h] := by
      rcases List.eq_nil_or_concat w1 with z | ⟨w2, h, z⟩
      · exact absurd z hw0
      · exact ⟨w2, h, by rw [z, List.concat_eq_append]⟩
    have hlast : (f1, w2 ++ [h]).2.getLast? = some h := by simp
    have hdrop : (f1, w2 ++ [h]).2.dropLast = w2 := by simp
    obtain ⟨A1, C1, m1, g1⟩ := led_step hin A Cc hlast
    rw [hdrop] at A1 C1 m1 g1
    obtain ⟨m0, rfl⟩ : ∃ m0, m = m0 + 1 := by
      have h1 := nat_nd_len A.nd A.lt
      simp only [List.length_append, List.length_singleton] at hme h1
      exact ⟨m - 1, by omega⟩
    have hgo2 : ledTo n ls ev = ledGo ls m0 (ls.foldl (ledIn h) (f1, w2)) := by
      rw [hgo]
      conv => lhs; unfold ledGo
      simp only [hlast, List.dropLast_concat]
    refine tss_cons (tsp_setP 4 nd (tep_pop (y := .sh (.int (h : Nat))) (ev_name 3) (rfl : (M (f1, w2 ++ [h]))[1]? = _) (by rw [List.map_append, List.length_append]; simp) ?_))
    have eM : (M (f1, w2 ++ [h])).set 1 (some (.lst ((w2 ++ [h]).map fun (e : Nat) => PV.E.sh (.int (e : Nat))).dropLast)) = M (f1, w2) := by
      rw [List.map_append]; simp [M]
    rw [eM]
    have hA0 : LedA n ls ev (f1, w2) := ⟨A.nd, A.lt, fun x hx => A.sub x (List.mem_append_left _ hx), A.rch, A.st⟩
    have hhf : h ∈ f1 := A.sub h (by simp)
    refine tss_one (tsp_forL ls lkP [5] (fun i ρ3 μ3 => ∃ c, ρ3 = R (some (.sh (.int (h : Nat)))) c ∧ μ3 = M ((ls.take i).foldl (ledIn h) (f1, w2))) (ei_list (ev_name 0)) ⟨b, rfl, rfl⟩ ?_ ?_ (by rw [List.map_map]; rfl))
    · rintro i l ρ3 μ3 hl ⟨c, rfl, rfl⟩
      refine tgp_name 5 ?_ (by decide) nd rfl (.inl rfl) (.inl rfl)
      have htk : ls.take (i + 1) = ls.take i ++ [l] := by rw [List.take_add_one, hl]; rfl
      have hlm := List.mem_of_getElem? hl
      obtain ⟨A2, k1, k2, k3, k4, k5, k6⟩ := led_fold hin (ls.take i) (fun x hx => List.mem_of_mem_take hx) hA0 hhf
      rw [htk, List.foldl_append]
      show TSs _ _ _ _ _
      generalize hs : (ls.take i).foldl (ledIn h) (f1, w2) = s at *
      have hs1 := nat_nd_len A2.nd A2.lt
      have hf1 := nat_nd_len A.nd A.lt
      simp only [List.length_append, List.length_singleton] at hme hf1
      simp only at k5
      have hw1 : s.2.length ≤ 10000 := by omega
      refine tss_one (tsp_ifE (d := decide (l.1 = h ∧ l.2.1 ∉ s.1)) (ET.is (et_w (ew_and (et_eqI (ev_ixT (ev_name 5) ev_int rfl) (ev_name 4)) fun _ => ew_and1 (et_dnotIn hu (ev_ixT (ev_name 5) ev_int rfl) (ev_name 2) (DG.ptK (k := .inl (l.2.1 : Int)) (kvs := trE s.1) rfl)))) (by rw [trE_get, dec_nat]; by_cases q1 : l.1 = h <;> by_cases q2 : l.2.1 ∈ s.1 <;> simp [q1, q2])) (fun hc => ?_) fun hc => ?_)
      · have hc := of_decide_eq_true hc
        refine tss_cons (tsp_dputK hu (ev_bl _ ((ev_name 2) _ ((ev_ixT (ev_name 5) ev_int rfl) _ ⟨0, trE s.1, .inl (l.2.1 : Int), rfl, rfl, rfl, ?_, ?_⟩))))
        · unfold trE; rw [List.length_map]; omega
        rw [trE_put _ _ hc.2]
        refine tss_one (tsp_expr (tep_append ((ev_name 3) _ ⟨1, _, rfl, rfl, (ev_ixT (ev_name 5) ev_int rfl) _ ⟨s.2.map fun (e : Nat) => PV.E.sh (.int (e : Nat)), rfl, ?_, ?_⟩⟩)))
        · rw [List.length_map]; omega
        · refine ⟨_, rfl, ?_⟩
          have : [l].foldl (ledIn h) s = (s.1 ++ [l.2.1], s.2 ++ [l.2.1]) := by show ledIn h s l = _; unfold ledIn; rw [if_pos hc]
          rw [this]
          simp [M]
      · have hc := of_decide_eq_false hc
        refine tss_nil ⟨_, rfl, ?_⟩
        have : [l].foldl (ledIn h) s = s := by show ledIn h s l = _; unfold ledIn; rw [if_neg hc]
        rw [this]
    · rintro ρ3 μ3 ⟨c, rfl, rfl⟩
      rw [List.take_length]
      refine ⟨m0, by omega, _, _, _, rfl, rfl, A1, C1, by omega, ?_, hgo2⟩
      simp only [List.length_append, List.length_singleton] at hme m1 ⊢
      omega
end
end PV

set_option maxHeartbeats 4000000
/-! name = [e for ..] on one line, the list a new cell. -/
namespace PV
open PySem PySem.Spec PyProof.Rows L2
section
variable {X : Cx} {tg iter elt : Expr} {ρ : Rho} {scope : Scope} {pos : Pos} {items : List PV.E}
theorem tsp_setL0C (i : Nat) {α : Type} (l : List α) (f : α → P) (r : α → Rho) (g : α → P) (js : List Nat) (own : List (Str × Nat)) {y : Str} {py spos : Pos} {μ : Mu} {D : Out} (nd : X.N.Nodup) (ok : BlkOk X.N X.env.scope scope own) (hi : EI X tg iter ρ μ items) (hl : l.length ≤ 100000)
    (ht : ∀ a ∈ l, TgB X scope tg js (.sh (f a)) (wipeR ρ (own.map (·.2))) (r a) μ) (he : ∀ a ∈ l, EVB X scope elt (r a) μ (.sh (g a))) (q : D.nx (ρ.set i (some (.pt μ.length))) (μ ++ [some (.lst ((l.map g).map .sh))]))
    (hz : items = l.map (fun a => .sh (f a)) := by first | rfl | (rw [List.map_map]; rfl) | simp) (hjs : ∀ j ∈ js, j ∈ own.map (·.2) := by decide) (hc : X.calm = true := by rfl) (hy : X.N[i]? = some y := by rfl) (hyl : X.env.scope.names.lookup y = some .local := by rfl)
    (hsw : swapsWith (.ListComp elt [⟨tg, iter, [], 0⟩] scope pos) (some (.Name y py)) spos.line X.env = pure true := by rfl) (hs : ∀ x, foldedSetIterable iter X.env x = pure x := by intro _; rfl) : TSP X (.Assign [.Name y py] (.ListComp elt [⟨tg, iter, [], 0⟩] scope pos) spos) ρ μ D := by
  have e : l.filter (fun _ => true) = l := List.filter_eq_self.mpr fun _ _ => rfl
  exact tsp_setLc i own js hc nd hy hyl ok hjs (lc_inv (p := fun _ => true) (g := g) (Fin := fun acc μ2 => (∃ zs : List P, acc = zs.map .sh ∧ D.nx (ρ.set i (some (.sh (.lst zs)))) μ2) ∨ D.nx (ρ.set i (some (.pt μ2.length))) (μ2 ++ [some (.lst acc)])) (hi.is hz) hl ht (fun a ha => ttsb0) (fun a ha h Q q s H C cl fp => he a ha s H C cl fp Q q) (.inr (by rw [e]; exact q))) hsw hs
end
end PV

set_option maxHeartbeats 0
/-! The walk: lower_rings. -/
namespace PV
open PySem PySem.Spec PyProof.Rows L2
def orP : OR → P
  | none => .non
  | some r => rgP r
theorem orP_isN (o : OR) : (match PV.E.sh (orP o) with | .sh .non => true | _ => false) = o.isNone := by cases o <;> rfl
section
variable {g : Bool} {Pr : Program} {w : World} {K : PySem.W.Frag} {mg : Str → Option Value} {base : Heap} {f : Addr} {fd : FuncData} {C : Addr}
theorem sc_lower_rings : FnScope ["many", "links", "event", "found", "ring", "link"] ["many", "links"] (defScope s_lower_rings) := ⟨rfl, rfl, rfl, by decide +kernel, rfl, by decide +kernel, by decide +kernel⟩
def F_lower_rings (zs : List P) (y : P) : Prop := ∃ (n : Nat) (ls : List Lk), zs = [.int (n : Nat), rgP ls] ∧ LkOk n ls ∧ n ≤ 1000 ∧ y = .lst ((lowL n ls).map orP)
theorem c_lower_rings (F : FnP K "lower_rings" "lower_rings" s_lower_rings f fd) (hm : mg "lower_rings" = some (.ref f)) (B : Bl mg) (c1 : Ct g Pr w K mg base 2 "rings_of" (SF F_rings_of)) (c2 : Ct g Pr w K mg base 1 "sums_of" (SF F_sums_of)) (c3 : Ct g Pr w K mg base 1 "led_to" (SF F_led_to)) (c4 : Ct g Pr w K mg base 1 "is_below" (SF F_is_below)) (c5 : Ct g Pr w K mg base 2 "asked" (SF F_asked)) : Ct g Pr w K mg base 3 "lower_rings" (SF F_lower_rings) := by
  refine ct_pure F hm sc_lower_rings (fun _ _ _ _ _ _ us hl => match us, hl with | [_, _], _ => rfl) (by rintro _ _ ⟨n, ls, rfl, _⟩; rfl) fun cdv A outer s H E hr zs y hF => ?_
  obtain ⟨n, ls, rfl, L, hn, rfl⟩ := hF
  have nd := sc_lower_rings.nd
  have hr1 := hr.mono (show 1 ≤ 2 by decide)
  let R : Option PV.E → Option PV.E → Rho := fun a b => [some (.sh (.int (n : Nat))), some (.sh (rgP ls)), a, some (.pt 0), b, none]
  let M : List OR → Mu := fun fo => [some (.lst (fo.map fun o => .sh (orP o)))]
  refine tss_cons (tsp_setL0C 3 (List.range n) (fun e => .int (e : Nat)) (fun e => [some (.sh (.int (n : Nat))), some (.sh (rgP ls)), some (.sh (.int (e : Nat))), none, none, none]) (fun _ => .non) [2] [("event", 2)] nd (blkOk_by (by kernel_rfl)) (ei_range1 B.range (ev_name 0) (by omega)) (by rw [List.length_range]; omega) (fun a _ => tgb_name 2 nd (by decide) rfl rfl) (fun e _ s H C cl fp => ev_non) ?_)
  have hin := L.lok.1
  have hrok := rings_rok L
  let Good : List OR → Prop := fun fo => fo.length = n ∧ ∀ e q, og fo e = some q → Rok q ∧ 0 < tok q
  have e0 : (([some (Cell.lst (((List.range n).map fun _ => P.non).map PV.E.sh))] : Mu)) = M (List.replicate n none) := by
    show _ = [some (Cell.lst ((List.replicate n none).map fun o => PV.E.sh (orP o)))]
    rw [List.map_replicate, List.map_const', List.map_replicate]
    simp [orP]
  have g0 : Good (List.replicate n none) := ⟨List.length_replicate, fun e q h => by
    unfold og at h
    rw [List.getD_eq_getElem?_getD, List.getElem?_replicate] at h
    split at h <;> cases h⟩
  refine tss_cons (tsp_forL (ringsOf n ls) rgP [4] (fun i ρ2 μ2 => ∃ a b fo, ρ2 = R a b ∧ μ2 = M fo ∧ Good fo ∧ fo = ((ringsOf n ls).take i).foldl (lowStep n ls) (List.replicate n none)) ((ei_list (ev_call c1 (hr.mono (by decide)) (eas_cons (ev_name 1) eas_nil) ⟨n, ls, rfl, L.lok, rfl⟩)).is (by rfl)) ⟨none, none, _, rfl, e0, g0, rfl⟩ ?_ ?_ (by rw [List.map_map]; rfl))
  · rintro i r ρ2 μ2 hri ⟨a, b, fo, rfl, rfl, G, hfo⟩
    refine tgp_name 4 ?_ (by decide) nd rfl (.inl rfl) (.inl rfl)
    have htk : (ringsOf n ls).take (i + 1) = (ringsOf n ls).take i ++ [r] := by rw [List.take_add_one, hri]; rfl
    have hrm := List.mem_of_getElem? hri
    have hrr := hrok r hrm
    obtain ⟨x0, Rg⟩ := rings_sound hrm
    have hlen : r.length ≤ 1000 := by
      have := nat_nd_len Rg.nd (outs_lt hin Rg.path)
      unfold outs at this
      rw [List.length_map] at this
      omega
    rw [htk, List.foldl_append, ← hfo]
    refine tss_one (tsp_ifE (d := decide (0 < tok r)) (et_gt (ev_ixT (xs := [.int (tks r), .int (tok r)]) (ev_call c2 hr1 (eas_cons (ev_name 4) eas_nil) ⟨r, rgP r, rfl, .inl rfl, hlen, rfl⟩) ev_int rfl) ev_int) (fun hc => ?_) fun hc => ?_)
    · have hc := of_decide_eq_true hc
      have eS : [r].foldl (lowStep n ls) fo = (ledTo n ls (outs r)).foldl (lowIn r) fo := by show lowStep n ls fo r = _; unfold lowStep; rw [if_pos hc]
      rw [eS]
      obtain ⟨l1, l2, l3⟩ := led_spec hin Rg.nd (outs_lt hin Rg.path)
      refine tss_one (tsp_forL (ledTo n ls (outs r)) (fun e => .int (e : Nat)) [2] (fun k ρ3 μ3 => ∃ a f3, ρ3 = R a (some (.sh (rgP r))) ∧ μ3 = M f3 ∧ Good f3 ∧ f3 = ((ledTo n ls (outs r)).take k).foldl (lowIn r) fo) (ei_keysK (ev_call c3 hr1 (eas_cons (ev_name 1) (eas_cons (EV.is (ev_lc0 r lkP (fun l => [some (.sh (.int (n : Nat))), some (.sh (rgP ls)), a, some (.pt 0), some (.sh (rgP r)), some (.sh (lkP l))]) (fun l => .int (l.1 : Nat)) [5] [("link", 5)] rfl nd (blkOk_by (by kernel_rfl)) (ei_list (ev_name 4)) (Nat.le_trans hlen (by decide)) (fun a _ => tgb_name 5 nd (by decide) rfl rfl) (fun l _ s H C cl fp => ev_ixT (ev_name 5) ev_int rfl)) (y := .sh (.lst (natsP (outs r)))) (by unfold natsP outs; rw [List.map_map]; rfl)) eas_nil)) ⟨n, ls, outs r, rfl, hin, hn, by have := L.lok.2; omega, Rg.nd, outs_lt hin Rg.path, rfl⟩)) ⟨_, fo, rfl, rfl, G, rfl⟩ ?_ ?_ (by unfold trD; rw [List.map_map]; rfl))
      · rintro k e ρ3 μ3 hk ⟨a3, f3, rfl, rfl, G3, hf3⟩
        refine tgp_name 2 ?_ (by decide) nd rfl (.inl rfl) (.inl rfl)
        have hk2 : (ledTo n ls (outs r)).take (k + 1) = (ledTo n ls (outs r)).take k ++ [e] := by rw [List.take_add_one, hk]; rfl
        have hen : e < n := l2 e (List.mem_of_getElem? hk)
        rw [hk2, List.foldl_append, ← hf3]
        have hat : (f3.map fun o => PV.E.sh (orP o))[e]? = some (.sh (orP (og f3 e))) := by
          unfold og
          rw [List.getElem?_map, List.getElem?_eq_getElem (by rw [G3.1]; exact hen), List.getD_eq_getElem?_getD, List.getElem?_eq_getElem (by rw [G3.1]; exact hen)]
          rfl
        refine tss_one (tsp_ifE (d := takes (og f3 e) r) ?_ (fun ht => ?_) fun ht => ?_)
        · cases ho : og f3 e with
          | none => exact et_w (ew_or (p := true) (r := true) (ET.is (et_isN (x := .sh (orP none)) (ev_ixC (ev_name 3) (ev_name 2) rfl (atI_of e rfl (by rw [hat, ho])))) rfl) fun h => nomatch h)
          | some q =>
            obtain ⟨q1, q2⟩ := G3.2 e q ho
            exact et_w (ew_or (p := false) (ET.is (et_isN (x := .sh (orP (some q))) (ev_ixC (ev_name 3) (ev_name 2) rfl (atI_of e rfl (by rw [hat, ho])))) rfl) fun _ => ew_or1 (et_val (ev_call c4 hr1 (eas_cons (ev_call c5 (hr.mono (by decide)) (eas_cons (ev_ixC (x := .sh (rgP q)) (ev_name 3) (ev_name 2) rfl (atI_of e rfl (by rw [hat, ho]; rfl))) eas_nil) ⟨q, rfl, q1, by omega, rfl⟩) (eas_cons (ev_call c5 (hr.mono (by decide)) (eas_cons (ev_name 4) eas_nil) ⟨r, rfl, hrr, by omega, rfl⟩) eas_nil)) ⟨_, _, rfl, q1.ask (by omega), hrr.ask (by omega), rfl⟩)))
        · refine tss_one (tsp_seti ((ev_name 4) _ ((ev_name 3) _ ((ev_name 2) _ ⟨0, _, e, rfl, rfl, rfl, by rw [List.length_map, G3.1]; exact hen, ?_⟩))))
          have eL : [e].foldl (lowIn r) f3 = f3.set e (some r) := by show lowIn r f3 e = _; unfold lowIn; rw [if_pos ht]
          refine ⟨_, f3.set e (some r), rfl, ?_, ⟨by rw [List.length_set]; exact G3.1, fun x q hq => ?_⟩, eL.symm⟩
          · show [some (Cell.lst _)] = [some (Cell.lst _)]
            rw [List.map_set]
            rfl
          · rw [og_set _ _ _ _ (by rw [G3.1]; exact hen)] at hq
            by_cases hxe : e = x
            · rw [if_pos hxe] at hq; cases hq; exact ⟨hrr, hc⟩
            · rw [if_neg hxe] at hq; exact G3.2 x q hq
        · have eL : [e].foldl (lowIn r) f3 = f3 := by show lowIn r f3 e = _; unfold lowIn; rw [if_neg (by rw [ht]; decide)]
          exact tss_nil ⟨_, f3, rfl, rfl, G3, eL.symm⟩
      · rintro ρ3 μ3 ⟨a3, f3, rfl, rfl, G3, hf3⟩
        rw [List.take_length] at hf3
        exact ⟨_, _, f3, rfl, rfl, G3, hf3⟩
    · have hc := of_decide_eq_false hc
      have eS : [r].foldl (lowStep n ls) fo = fo := by show lowStep n ls fo r = _; unfold lowStep; rw [if_neg hc]
      rw [eS]
      exact tss_nil ⟨_, _, fo, rfl, rfl, G, rfl⟩
  · rintro ρ2 μ2 ⟨a, b, fo, rfl, rfl, G, hfo⟩
    rw [List.take_length] at hfo
    refine tss_one (tsp_retV (ev_name 3) (Frz.lstS ?_))
    rw [List.map_map, hfo]
    rfl
end
end PV

set_option maxHeartbeats 4000000
/-! Plain: the told clash. -/
namespace PV
def wayTo (n : Nat) (ls : List Lk) (r : List Lk) : List Lk := (wayL n ls (outs (lowQ n ls (firstEv r))) (outs r)).getD []
def clashL (n : Nat) (ls : List Lk) : Option (List Lk × Option (List Lk × List Lk)) :=
  match (ringsOf n ls).find? zeroUp with
  | some r => some (r, none)
  | none => match (ringsOf n ls).find? (tooLow n ls) with
    | some r => some (lowQ n ls (firstEv r), some (wayTo n ls r, r))
    | none => none
section
variable {n : Nat} {ls : List Lk}
theorem clash_none : clashL n ls = none ↔ (∀ r ∈ ringsOf n ls, zeroUp r = false) ∧ ∀ r ∈ ringsOf n ls, tooLow n ls r = false := by
  unfold clashL
  cases h1 : (ringsOf n ls).find? zeroUp with
  | some r =>
    simp only [reduceCtorEq, false_iff]
    intro h
    have := h.1 r (List.mem_of_find?_eq_some h1)
    rw [List.find?_some h1] at this
    cases this
  | none =>
    have a1 := List.find?_eq_none.mp h1
    cases h2 : (ringsOf n ls).find? (tooLow n ls) with
    | some r =>
      simp only [reduceCtorEq, false_iff]
      intro h
      have := h.2 r (List.mem_of_find?_eq_some h2)
      rw [List.find?_some h2] at this
      cases this
    | none =>
      have a2 := List.find?_eq_none.mp h2
      simp only [true_iff]
      exact ⟨fun r hr => by simpa using a1 r hr, fun r hr => by simpa using a2 r hr⟩
theorem clash_one {r : List Lk} (h : clashL n ls = some (r, none)) : r ∈ ringsOf n ls ∧ tok r = 0 ∧ 0 < tks r := by
  unfold clashL at h
  cases h1 : (ringsOf n ls).find? zeroUp with
  | some q =>
    rw [h1] at h
    cases h
    have := List.find?_some h1
    unfold zeroUp at this
    rw [Bool.and_eq_true, decide_eq_true_eq, decide_eq_true_eq] at this
    exact ⟨List.mem_of_find?_eq_some h1, this⟩
  | none =>
    rw [h1] at h
    cases h2 : (ringsOf n ls).find? (tooLow n ls) with
    | some q => rw [h2] at h; cases h
    | none => rw [h2] at h; cases h
theorem low_clash (hin : InK n ls) (ho : HasOrd n ls) {r : List Lk} (hr : r ∈ ringsOf n ls) (ht : tooLow n ls r = true) : Clash ls (lowQ n ls (firstEv r)) (wayTo n ls r) r ∧ wayL n ls (outs (lowQ n ls (firstEv r))) (outs r) = some (wayTo n ls r) ∧ (wayTo n ls r).length < n ∧ lowQ n ls (firstEv r) ∈ ringsOf n ls ∧ 0 ≤ (askL (lowQ n ls (firstEv r))).1 ∧ firstEv r < n := by
  obtain ⟨f, R⟩ := rings_sound hr
  have hf := ring_first R
  have hfn := (path_lt hin R.path R.ne).1
  rw [hf]
  obtain ⟨q1, q2, q3, ⟨x, hx, p, pp⟩, q5⟩ := lowQ_spec hin ho hfn
  obtain ⟨g, Rl⟩ := rings_sound q2
  have hff : f ∈ outs r := by
    cases r with
    | nil => exact absurd rfl R.ne
    | cons l t => exact List.mem_cons.mpr (.inl R.path.2.1.symm)
  obtain ⟨w, hw, hlen, a, ha, b, hb, pw⟩ := way_spec (ends := outs r) hin Rl.nd (outs_lt hin Rl.path) ⟨x, hx, p, f, pp, hff⟩
  have hwt : wayTo n ls r = w := by unfold wayTo; rw [hf, hw]; rfl
  unfold tooLow at ht
  rw [hf, Bool.and_eq_true, decide_eq_true_eq] at ht
  rw [hwt]
  exact ⟨⟨⟨g, Rl⟩, ⟨f, R⟩, q3, ht.1, ht.2, a, ha, b, hb, pw⟩, hw, hlen, q2, ownT_nn hin ho hfn, hfn⟩
theorem clash_two (hin : InK n ls) (ho : HasOrd n ls) {lo way hi : List Lk} (h : clashL n ls = some (lo, some (way, hi))) : Clash ls lo way hi ∧ way.length < n ∧ lo ∈ ringsOf n ls ∧ hi ∈ ringsOf n ls ∧ 0 ≤ (askL lo).1 := by
  unfold clashL at h
  cases h1 : (ringsOf n ls).find? zeroUp with
  | some q => rw [h1] at h; cases h
  | none =>
    rw [h1] at h
    cases h2 : (ringsOf n ls).find? (tooLow n ls) with
    | none => rw [h2] at h; cases h
    | some q =>
      rw [h2] at h
      cases h
      obtain ⟨c1, c2, c3, c4, c5, _⟩ := low_clash hin ho (List.mem_of_find?_eq_some h2) (List.find?_some h2)
      exact ⟨c1, c3, c4, List.mem_of_find?_eq_some h2, c5⟩
/-- no distances: no clash -/
theorem clash_free (hin : InK n ls) (ht : ∀ a r, Ring ls a r → 0 < tok r) : clashL n ls = none := clash_none.mpr ⟨fun r hr => by
  obtain ⟨a, R⟩ := rings_sound hr
  have := ht a r R
  unfold zeroUp
  rw [show decide (tok r = 0) = false from decide_eq_false (by omega)]
  rfl, fun r hr => by
  obtain ⟨a, R⟩ := rings_sound hr
  have := ht a r R
  unfold tooLow
  rw [show decide (tok r < 0) = false from decide_eq_false (by omega)]
  rfl⟩
end
end PV

set_option maxHeartbeats 0
/-! The walk: multiple_of. -/
namespace PV
open PySem PySem.Spec PyProof.Rows L2
section
variable {g : Bool} {Pr : Program} {w : World} {K : PySem.W.Frag} {mg : Str → Option Value} {base : Heap} {f : Addr} {fd : FuncData} {C : Addr}
theorem sc_multiple_of : FnScope ["one", "other"] ["one", "other"] (defScope s_multiple_of) := ⟨rfl, rfl, rfl, by decide +kernel, rfl, by decide +kernel, by decide +kernel⟩
def F_multiple_of (zs : List P) (y : P) : Prop := ∃ a b : Nat, zs = [.int a, .int b] ∧ 0 < a ∧ 0 < b ∧ b ≤ 1000000 ∧ y = .int (Nat.lcm a b : Nat)
theorem c_multiple_of (F : FnP K "multiple_of" "multiple_of" s_multiple_of f fd) (hm : mg "multiple_of" = some (.ref f)) (hgc : mg "gcd" = some (.builtin "math.gcd")) : Ct g Pr w K mg base 1 "multiple_of" (SF F_multiple_of) := by
  refine ct_pure F hm sc_multiple_of (fun _ _ _ _ _ _ us hl => match us, hl with | [_, _], _ => rfl) (by rintro _ _ ⟨a, b, rfl, _⟩; rfl) fun cdv A outer s H E hr zs y hF => ?_
  obtain ⟨a, b, rfl, h0, h1, h2, rfl⟩ := hF
  have nd := sc_multiple_of.nd
  have hg : 0 < Nat.gcd a b := Nat.gcd_pos_of_pos_right a h1
  have hle : Nat.gcd a b ≤ b := Nat.gcd_le_right a h1
  have eg : gcdI (a : Int) (b : Int) = ((Nat.gcd a b : Nat) : Int) := rfl
  refine tss_one (tsp_retV (EV.is (ev_fdivN (i := (a : Int) * b) (j := gcdI a b) (ev_mul (ev_name 0) (ev_name 1) (.inr ⟨by omega, by omega⟩)) (ev_gcd hgc (ev_name 0) (ev_name 1)) ⟨by rw [eg]; omega, by rw [eg]; omega⟩) (y := .sh (.int (Nat.lcm a b : Nat))) ?_) (.sh _))
  rw [eg]
  congr 2
  rw [← Int.natCast_mul]
  rw [Int.fdiv_eq_ediv_of_nonneg _ (by omega)]
  rfl
end
end PV

/-! The walk: way_between. -/
namespace PV
open PySem PySem.Spec PyProof.Rows L2
def wyE (s : WS) : List (Key × PV.E) := s.map fun p => (.inl (p.1 : Int), .sh (rgP p.2))
theorem key_ne {a b : Nat} (h : a ≠ b) : (Sum.inl (a : Int) : Key) ≠ .inl (b : Int) := fun k => by injection k with k; omega
theorem wy_some (s : WS) (e : Nat) : (dget (wyE s) (.inl (e : Int))).isSome = decide (e ∈ keysW s) := by
  unfold dget wyE keysW
  induction s with
  | nil => rfl
  | cons p s ih =>
    rw [List.map_cons, List.find?_cons, List.map_cons]
    by_cases h : p.1 = e
    · subst h; simp
    · have : decide ((Sum.inl (p.1 : Int) : Key) = .inl (e : Int)) = false := decide_eq_false (key_ne h)
      simp only [this]
      rw [ih]
      have h2 : (e = p.1) = False := eq_false fun k => h k.symm
      simp [h2]
theorem wy_get {s : WS} (nd : (keysW s).Nodup) {p : Nat × List Lk} (h : p ∈ s) : dget (wyE s) (.inl (p.1 : Int)) = some (.sh (rgP p.2)) := by
  unfold dget wyE keysW at *
  induction s with
  | nil => cases h
  | cons q s ih =>
    rw [List.map_cons] at nd
    have n2 := List.nodup_cons.mp nd
    rw [List.map_cons, List.find?_cons]
    by_cases hq : q.1 = p.1
    · have : q = p := by
        rcases List.mem_cons.mp h with h | h
        · exact h.symm
        · exact absurd (List.mem_map.mpr ⟨p, h, hq.symm⟩) n2.1
      subst this
      simp
    · have : decide ((Sum.inl (q.1 : Int) : Key) = .inl (p.1 : Int)) = false := decide_eq_false (key_ne hq)
      simp only [this]
      rcases List.mem_cons.mp h with h | h
      · exact absurd (by rw [h]) hq
      · exact ih n2.2 h
theorem wy_put (s : WS) (e : Nat) (w : List Lk) (h : e ∉ keysW s) : dput (wyE s) (.inl (e : Int)) (.sh (rgP w)) = wyE (s ++ [(e, w)]) := by
  rw [dput_newL]
  · unfold wyE; rw [List.map_append]; rfl
  · intro q hq
    obtain ⟨a, ha, rfl⟩ := List.mem_map.mp hq
    exact key_ne fun k => h (k ▸ List.mem_map.mpr ⟨a, ha, rfl⟩)
def wyD (l : List Nat) : List (Key × P) := l.map fun (e : Nat) => (.inl (e : Int), .lst [])
theorem wyD_fold : ∀ (l m : List Nat), (m ++ l).Nodup → l.foldl (fun d (a : Nat) => dput d (Sum.inl (a : Int) : Key) (P.lst [])) (wyD m) = wyD (m ++ l)
  | [], m, _ => by rw [List.append_nil]; rfl
  | a :: l, m, nd => by
    have h := List.nodup_append.mp nd
    rw [List.foldl_cons, dput_newL, show wyD m ++ [(Sum.inl (a : Int), P.lst [])] = wyD (m ++ [a]) by unfold wyD; rw [List.map_append]; rfl]
    · rw [wyD_fold l (m ++ [a]) (by rw [List.append_assoc]; exact nd), List.append_assoc]; rfl
    · intro q hq
      obtain ⟨b, hb, rfl⟩ := List.mem_map.mp hq
      exact key_ne fun k => h.2.2 b hb a List.mem_cons_self k
section
variable {g : Bool} {Pr : Program} {w : World} {K : PySem.W.Frag} {mg : Str → Option Value} {base : Heap} {f : Addr} {fd : FuncData} {C : Addr}
theorem sc_way_between : FnScope ["links", "begins", "ends", "ways", "waiting", "at", "here", "link", "event"] ["links", "begins", "ends"] (defScope s_way_between) := ⟨rfl, rfl, rfl, by decide +kernel, rfl, by decide +kernel, by decide +kernel⟩
def F_way_between (zs : List P) (y : P) : Prop := ∃ (n : Nat) (ls : List Lk) (bs es : List Nat), zs = [rgP ls, .lst (natsP bs), .lst (natsP es)] ∧ InK n ls ∧ n ≤ 1000 ∧ ls.length ≤ 1000 ∧ bs.Nodup ∧ (∀ x ∈ bs, x < n) ∧ y = orP (wayL n ls bs es)
theorem c_way_between (F : FnP K "way_between" "way_between" s_way_between f fd) (hm : mg "way_between" = some (.ref f)) (B : Bl mg) : Ct g Pr w K mg base 1 "way_between" (SF F_way_between) := by
  refine ct_pure F hm sc_way_between (fun _ _ _ _ _ _ us hl => match us, hl with | [_, _, _], _ => rfl) (by rintro _ _ ⟨n, ls, bs, es, rfl, _⟩; rfl) fun cdv A outer s H E hr zs y hF => ?_
  obtain ⟨n, ls, bs, es, rfl, hin, hn, hll, hnd, hlt, rfl⟩ := hF
  have nd := sc_way_between.nd
  have hu := hr.un
  have hel := nat_nd_len hnd hlt
  let R : Nat → Option PV.E → Option PV.E → Rho := fun i a b => [some (.sh (rgP ls)), some (.sh (.lst (natsP bs))), some (.sh (.lst (natsP es))), some (.pt 0), some (.pt 1), some (.sh (.int (i : Nat))), a, b, none]
  let M : WS → Mu := fun s => [some (.dK (wyE s)), some (.lst ((keysW s).map fun (e : Nat) => .sh (.int (e : Nat))))]
  refine tss_cons (tsp_par3A 3 4 5 nd (tap_cons (tep_dcCK bs (fun e => .int (e : Nat)) (fun _ => true) (fun e => .inl (e : Int)) (fun _ => .lst []) (fun e => [some (.sh (rgP ls)), some (.sh (.lst (natsP bs))), some (.sh (.lst (natsP es))), none, none, none, none, none, some (.sh (.int (e : Nat)))]) [("event", 8)] [8] (Nat.lt_of_succ_lt hu) rfl nd (blkOk_by (by kernel_rfl)) (ei_nats (ev_name 1)) (by omega) (fun a _ => tgb_name 8 nd (by decide) rfl rfl) (fun a _ => ttsb0) (fun a _ _ s H C cl fp => ev_name 8) (fun a _ _ s H C cl fp => ev_lst (ys := []) eas_nil (Nat.le_of_ble_eq_true rfl))
    (tap_cons (tep_listC B.list ((ev_name 1) _ ⟨natsP bs, .inl rfl, tap_consV ev_int (tap_nil ⟨_, _, _, rfl, ?_⟩)⟩))))))
  have e0 : ((bs.filter fun _ => true).foldl (fun d (a : Nat) => dput d (Sum.inl (a : Int) : Key) (P.lst [])) []) = wyD bs := by
    rw [List.filter_eq_self.mpr (fun _ _ => rfl)]
    exact wyD_fold bs [] (by simpa using hnd)
  rw [e0]
  have e1 : (wyD bs).map (fun q => (q.1, PV.E.sh q.2)) = wyE (bs.map fun e => (e, [])) := by unfold wyD wyE; rw [List.map_map, List.map_map]; rfl
  rw [e1]
  refine tss_cons (tsp_whileP (fun m ρ2 μ2 => ∃ (s : WS) (i : Nat) (a b : Option PV.E), ρ2 = R i a b ∧ μ2 = M s ∧ WayA n ls bs s ∧ i ≤ s.length ∧ i + m = n + 1 ∧ wayL n ls bs es = wayGo ls es m i s) (n + 1) ⟨bs.map fun e => (e, []), 0, none, none, rfl, ?_, way_start hnd hlt, Nat.zero_le _, by omega, rfl⟩ ?_)
  · show _ = M (bs.map fun e => (e, []))
    simp only [M, natsP, keysW, List.map_map]
    rfl
  · rintro m ρ2 μ2 ⟨s, i, a, b, rfl, rfl, A, hi, him, hgo⟩
    refine (ET.is (y := decide (i < s.length)) (et_lt (ev_name 5) (ev_lenC B.len (ev_name 4) (rfl : (M s)[1]? = _))) (by rw [List.length_map]; unfold keysW; rw [List.length_map]; exact dec_lt _ _)) _ ?_
    by_cases hil : i < s.length
    · rw [if_pos (by simpa using hil)]
      obtain ⟨p, hp⟩ : ∃ p, s[i]? = some p := ⟨_, List.getElem?_eq_getElem hil⟩
      obtain ⟨m0, rfl⟩ : ∃ m0, m = m0 + 1 := ⟨m - 1, by have := A.len; omega⟩
      have hgo2 : wayL n ls bs es = if p.1 ∈ es then some p.2 else wayGo ls es m0 (i + 1) (ls.foldl (wayIn p.1 p.2) s) := by
        rw [hgo]
        conv => lhs; unfold wayGo
        simp only [hp]
      have hps := List.mem_of_getElem? hp
      refine tss_cons (tsp_setV 6 nd (x := .sh (.int (p.1 : Nat))) (ev_ixC (ev_name 4) (ev_name 5) rfl (atI_of i rfl (by show ((keysW s).map _)[i]? = _; unfold keysW; rw [List.map_map, List.getElem?_map, hp]; rfl))) ?_)
      refine tss_cons (tsp_augI 5 nd rfl ev_int ?_)
      refine tss_cons (tsp_ifE (d := decide (p.1 ∈ es)) (et_inN (ev_name 6) (ev_name 2)) (fun hc => ?_) fun hc => ?_)
      · have hc := of_decide_eq_true hc
        rw [hgo2, if_pos hc]
        exact tss_one (tsp_retV (ev_dget hu (ev_name 3) (ev_name 6) (DG.ptK (k := .inl (p.1 : Int)) (kvs := wyE s) rfl |> fun d => by rw [wy_get A.nd hps] at d; exact d)) (.sh _))
      · have hc := of_decide_eq_false hc
        rw [if_neg hc] at hgo2
        refine tss_nil ?_
        refine tss_one (tsp_forL ls lkP [7] (fun k ρ3 μ3 => ∃ c, ρ3 = R (i + 1) (some (.sh (.int (p.1 : Nat)))) c ∧ μ3 = M ((ls.take k).foldl (wayIn p.1 p.2) s)) (ei_list (ev_name 0)) ⟨b, rfl, rfl⟩ ?_ ?_ (by rw [List.map_map]; rfl))
        · rintro k l ρ3 μ3 hl ⟨c, rfl, rfl⟩
          refine tgp_name 7 ?_ (by decide) nd rfl (.inl rfl) (.inl rfl)
          have htk : ls.take (k + 1) = ls.take k ++ [l] := by rw [List.take_add_one, hl]; rfl
          have hlm := List.mem_of_getElem? hl
          obtain ⟨A2, ⟨t2, k2⟩, k3⟩ := way_fold (i := i) hin (ls.take k) (fun x hx => List.mem_of_mem_take hx) A hp
          rw [htk, List.foldl_append]
          generalize hs : (ls.take k).foldl (wayIn p.1 p.2) s = s2 at *
          have hs2 := A2.len
          have hp2 : p ∈ s2 := by rw [k2]; exact List.mem_append_left _ hps
          have hpl := (A.way i p hp).1
          refine tss_one (tsp_ifE (d := decide (l.1 = p.1 ∧ l.2.1 ∉ keysW s2)) (ET.is (et_w (ew_and (et_eqI (ev_ixT (ev_name 7) ev_int rfl) (ev_name 6)) fun _ => ew_and1 (et_dnotIn hu (ev_ixT (ev_name 7) ev_int rfl) (ev_name 3) (DG.ptK (k := .inl (l.2.1 : Int)) (kvs := wyE s2) rfl)))) (by rw [wy_some, dec_nat]; by_cases q1 : l.1 = p.1 <;> by_cases q2 : l.2.1 ∈ keysW s2 <;> simp [q1, q2])) (fun hc => ?_) fun hc => ?_)
          · have hc := of_decide_eq_true hc
            have eW : [l].foldl (wayIn p.1 p.2) s2 = s2 ++ [(l.2.1, p.2 ++ [l])] := by show wayIn p.1 p.2 s2 l = _; unfold wayIn; rw [if_pos hc]
            refine tss_cons (tsp_dputK hu ((EV.is (ev_lst (ys := p.2.map lkP ++ [lkP l]) (eas_star (zs := p.2.map lkP) (ev_dget hu (ev_name 3) (ev_name 6) (by have d := DG.ptK (μ := M s2) (k := .inl (p.1 : Int)) (kvs := wyE s2) (j := 0) rfl; rw [wy_get A2.nd hp2] at d; exact d)) (eas_cons (ev_name 7) eas_nil)) (by rw [List.length_append, List.length_map, List.length_singleton]; omega)) (y := .sh (rgP (p.2 ++ [l]))) (by unfold rgP; rw [List.map_append]; rfl)) _ ((ev_name 3) _ ((ev_ixT (ev_name 7) ev_int rfl) _ ⟨0, wyE s2, .inl (l.2.1 : Int), rfl, rfl, rfl, ?_, ?_⟩))))
            · unfold wyE; rw [List.length_map]; omega
            rw [wy_put _ _ _ hc.2]
            refine tss_one (tsp_expr (tep_append ((ev_name 4) _ ⟨1, _, rfl, rfl, (ev_ixT (ev_name 7) ev_int rfl) _ ⟨(keysW s2).map fun (e : Nat) => PV.E.sh (.int (e : Nat)), rfl, ?_, ?_⟩⟩)))
            · unfold keysW; rw [List.length_map, List.length_map]; omega
            · refine ⟨_, rfl, ?_⟩
              rw [eW]
              simp [M, keysW]
          · have hc := of_decide_eq_false hc
            have eW : [l].foldl (wayIn p.1 p.2) s2 = s2 := by show wayIn p.1 p.2 s2 l = _; unfold wayIn; rw [if_neg hc]
            exact tss_nil ⟨_, rfl, by rw [eW]⟩
        · rintro ρ3 μ3 ⟨c, rfl, rfl⟩
          rw [List.take_length]
          obtain ⟨A1, ⟨t, e2⟩, _⟩ := way_fold (i := i) hin ls (fun l hl => hl) A hp
          exact ⟨m0, by omega, _, i + 1, _, _, rfl, rfl, A1, by rw [e2, List.length_append]; omega, by omega, hgo2⟩
    · rw [if_neg (by simpa using hil)]
      have e2 : wayL n ls bs es = none := by
        rw [hgo]
        cases m with
        | zero => rfl
        | succ m => unfold wayGo; rw [List.getElem?_eq_none (by omega)]
      rw [e2]
      exact tss_one (tsp_retV ev_non (.sh _))
end
end PV

set_option maxHeartbeats 4000000
/-! [*xs, ..] where xs is a list in a cell of shared items. -/
namespace PV
open PySem PySem.Spec PyProof.Rows L2
section
variable {X : Cx} {e : Expr} {es : List Expr} {ρ : Rho} {μ : Mu} {p2 : Pos}
theorem tap_starC {Q : List E → Mu → Prop} {j : Nat} {zs : List P} (h : EV X e ρ μ (.pt j)) (hj : μ[j]? = some (some (.lst (zs.map .sh)))) (t : TAP X es ρ μ fun ys μ2 => Q (zs.map .sh ++ ys) μ2) (hs : starEach (.Starred e p2 :: es) X.env = (true, eval e X.env) :: starEach es X.env := by rfl) : TAP X (.Starred e p2 :: es) ρ μ Q := fun ad Hb H σ W N Q' g => by
  refine pa_go (StX.pa_star pe_self pa_self hs) (h (fun y μ1 => y = .pt j ∧ μ1 = μ) ⟨rfl, rfl⟩ ad Hb H σ W N _ ?_)
  rintro v x μ1 ad1 Hb1 H1 ⟨rfl, rfl⟩ s1 W1 ⟨a, ha, rfl⟩
  obtain ⟨_, vs, hv, r⟩ := W1.off j a _ ha hj
  refine ⟨a, vs, rfl, .inr (.inl (.inl hv)), t ad1 Hb1 H1 σ W1 (N.step s1) _ fun ws ys μ2 ad2 Hb2 H2 q s2 W2 r2 => ?_⟩
  exact g _ _ _ _ _ _ q (s1.trans s2) W2 (pd_app (RepEs.step s2 r) r2)
end
end PV

set_option maxHeartbeats 0
/-! way_between: the ways are cells. -/
namespace PV
open PySem PySem.Spec PyProof.Rows L2
def ixW (b i : Nat) : Nat := if i < b then i else i + 2
def wcC (p : Nat × List Lk) : Option Cell := some (.lst ((p.2.map lkP).map .sh))
def wyK (b : Nat) (s : WS) : List (Key × PV.E) := s.zipIdx.map fun q => (.inl (q.1.1 : Int), .pt (ixW b q.2))
def waitC (s : WS) : Cell := .lst ((keysW s).map fun (e : Nat) => .sh (.int (e : Nat)))
def MW (b : Nat) (s : WS) : Mu := (s.take b).map wcC ++ some (.dK (wyK b s)) :: some (waitC s) :: (s.drop b).map wcC
theorem MW_len (b : Nat) (s : WS) (h : b ≤ s.length) : (MW b s).length = s.length + 2 := by
  unfold MW
  simp only [List.length_append, List.length_map, List.length_take, List.length_cons, List.length_drop]
  omega
theorem MW_d (b : Nat) (s : WS) (h : b ≤ s.length) : (MW b s)[b]? = some (some (.dK (wyK b s))) := by
  unfold MW
  rw [List.getElem?_append_right (by simp; omega)]
  simp [Nat.min_eq_left h]
theorem MW_w (b : Nat) (s : WS) (h : b ≤ s.length) : (MW b s)[b + 1]? = some (some (waitC s)) := by
  unfold MW
  rw [List.getElem?_append_right (by simp; omega)]
  simp [Nat.min_eq_left h]
theorem MW_i (b : Nat) (s : WS) (h : b ≤ s.length) {i : Nat} {p : Nat × List Lk} (hp : s[i]? = some p) : (MW b s)[ixW b i]? = some (wcC p) := by
  unfold MW ixW
  by_cases hi : i < b
  · rw [if_pos hi, List.getElem?_append_left (by simp; omega), List.getElem?_map, List.getElem?_take, if_pos hi, hp]; rfl
  · rw [if_neg hi, List.getElem?_append_right (by simp; omega)]
    have e : i + 2 - ((s.take b).map wcC).length = (i - b) + 1 + 1 := by simp [Nat.min_eq_left h]; omega
    rw [e, List.getElem?_cons_succ, List.getElem?_cons_succ, List.getElem?_map, List.getElem?_drop, show b + (i - b) = i by omega, hp]; rfl
theorem MW_app (b : Nat) (s : WS) (q : Nat × List Lk) (h : b ≤ s.length) : MW b (s ++ [q]) = ((MW b s ++ [wcC q]).set b (some (.dK (wyK b (s ++ [q]))))).set (b + 1) (some (waitC (s ++ [q]))) := by
  unfold MW
  have hl : ((s.take b).map wcC).length = b := by simp [Nat.min_eq_left h]
  rw [List.take_append_of_le_length h, List.drop_append_of_le_length h, List.append_assoc, List.set_append_right _ _ (by omega), hl, Nat.sub_self, List.cons_append, List.cons_append, List.set_cons_zero, List.set_append_right _ _ (by omega), hl, show b + 1 - b = 1 by omega, List.set_cons_succ, List.set_cons_zero, List.map_append]
  rfl
theorem wyK_app (b : Nat) (s : WS) (q : Nat × List Lk) : wyK b (s ++ [q]) = wyK b s ++ [(.inl (q.1 : Int), .pt (ixW b s.length))] := by
  unfold wyK
  rw [List.zipIdx_append, List.map_append]
  simp
theorem wyK_mem {b : Nat} {s : WS} {q : Key × PV.E} (h : q ∈ wyK b s) : ∃ i p, s[i]? = some p ∧ q = (.inl (p.1 : Int), .pt (ixW b i)) := by
  unfold wyK at h
  obtain ⟨x, hx, rfl⟩ := List.mem_map.mp h
  exact ⟨x.2, x.1, List.mem_zipIdx_iff_getElem?.mp hx, rfl⟩
theorem wyK_of {b : Nat} {s : WS} {i : Nat} {p : Nat × List Lk} (h : s[i]? = some p) : (Sum.inl (p.1 : Int), PV.E.pt (ixW b i)) ∈ wyK b s := List.mem_map.mpr ⟨(p, i), List.mem_zipIdx_iff_getElem?.mpr h, rfl⟩
theorem wyK_some (b : Nat) (s : WS) (e : Nat) : (dget (wyK b s) (.inl (e : Int))).isSome = decide (e ∈ keysW s) := by
  unfold dget
  rw [Option.isSome_map]
  by_cases h : e ∈ keysW s
  · obtain ⟨p, hp, rfl⟩ := List.mem_map.mp h
    obtain ⟨i, hi⟩ := List.getElem?_of_mem hp
    rw [decide_eq_true h, List.find?_isSome]
    exact ⟨_, wyK_of hi, by simp⟩
  · rw [decide_eq_false h]
    rw [Bool.eq_false_iff]
    intro hc
    obtain ⟨q, hq, e1⟩ := List.find?_isSome.mp hc
    obtain ⟨i, p, hp, rfl⟩ := wyK_mem hq
    have e2 := of_decide_eq_true e1
    injection e2 with e2
    exact h (List.mem_map.mpr ⟨p, List.mem_of_getElem? hp, by omega⟩)
theorem wyK_get {b : Nat} {s : WS} (nd : (keysW s).Nodup) {i : Nat} {p : Nat × List Lk} (h : s[i]? = some p) : dget (wyK b s) (.inl (p.1 : Int)) = some (.pt (ixW b i)) := by
  have h1 := wyK_some b s p.1
  rw [decide_eq_true (show p.1 ∈ keysW s from List.mem_map.mpr ⟨p, List.mem_of_getElem? h, rfl⟩)] at h1
  unfold dget at h1 ⊢
  rw [Option.isSome_map] at h1
  obtain ⟨q, hq⟩ := Option.isSome_iff_exists.mp h1
  have hm := List.mem_of_find?_eq_some hq
  have he : q.1 = Sum.inl (p.1 : Int) := of_decide_eq_true (p := q.1 = Sum.inl (p.1 : Int)) (List.find?_some (p := fun kv : Key × PV.E => decide (kv.1 = Sum.inl (p.1 : Int))) hq)
  obtain ⟨i2, p2, hp2, rfl⟩ := wyK_mem hm
  injection he with he
  have hi : i2 = i := by
    have k1 : (keysW s)[i2]? = some p.1 := by unfold keysW; rw [List.getElem?_map, hp2]; simp; omega
    have k2 : (keysW s)[i]? = some p.1 := by unfold keysW; rw [List.getElem?_map, h]; rfl
    have l2 := (List.getElem?_eq_some_iff.mp k2).1
    exact (List.getElem?_inj (List.getElem?_eq_some_iff.mp k1).1 nd).mp (k1.trans k2.symm)
  rw [hq, hi]
  rfl
theorem wyK_put {b : Nat} {s : WS} {e : Nat} (w : List Lk) (h : e ∉ keysW s) : dput (wyK b s) (.inl (e : Int)) (.pt (ixW b s.length)) = wyK b (s ++ [(e, w)]) := by
  rw [dput_newL, wyK_app]
  intro q hq
  obtain ⟨i, p, hp, rfl⟩ := wyK_mem hq
  exact key_ne fun k => h (k ▸ List.mem_map.mpr ⟨p, List.mem_of_getElem? hp, rfl⟩)
end PV

/-! The walk: way_between, its way a new cell. -/
namespace PV
open PySem PySem.Spec PyProof.Rows L2
def wayC (w : List Lk) : Cell := .lst ((w.map lkP).map .sh)
section
variable {g : Bool} {Pr : Program} {w : World} {K : PySem.W.Frag} {mg : Str → Option Value} {base : Heap} {f : Addr} {fd : FuncData} {C : Addr}
def F_wayC (zs : List P) (c : Option Cell) : Prop := ∃ (n : Nat) (ls : List Lk) (bs es : List Nat), zs = [rgP ls, .lst (natsP bs), .lst (natsP es)] ∧ InK n ls ∧ n ≤ 1000 ∧ ls.length ≤ 1000 ∧ bs.Nodup ∧ (∀ x ∈ bs, x < n) ∧ c = (wayL n ls bs es).map wayC
theorem c_wayC (F : FnP K "way_between" "way_between" s_way_between f fd) (hm : mg "way_between" = some (.ref f)) (B : Bl mg) : Ct g Pr w K mg base 1 "way_between" (SO F_wayC) := by
  refine ct_own F hm sc_way_between (fun _ _ _ _ _ _ us hl => match us, hl with | [_, _, _], _ => rfl) (by rintro _ _ ⟨n, ls, bs, es, rfl, _⟩; rfl) fun cdv A outer s H E hr zs y hF => ?_
  obtain ⟨n, ls, bs, es, rfl, hin, hn, hll, hnd, hlt, rfl⟩ := hF
  have nd := sc_way_between.nd
  have hu := hr.un
  have hel := nat_nd_len hnd hlt
  let R : Nat → Option PV.E → Option PV.E → Rho := fun i a b => [some (.sh (rgP ls)), some (.sh (.lst (natsP bs))), some (.sh (.lst (natsP es))), some (.pt bs.length), some (.pt (bs.length + 1)), some (.sh (.int (i : Nat))), a, b, none]
  let W : Nat → WS := fun i => (bs.take i).map fun e => (e, [])
  refine tss_cons (tsp_par3A 3 4 5 nd (tap_cons (tep_dcK [("event", 8)] [8] (Nat.lt_of_succ_lt hu) rfl nd (blkOk_by (by kernel_rfl)) (by decide) ((ei_nats (ev_name 1)) _ ⟨fun i acc μ2 => acc = wyK bs.length (W i) ∧ μ2 = (W i).map wcC, ⟨rfl, rfl⟩, fun _ _ _ _ _ => trivial, ?_, ?_⟩))))
  · rintro i x acc μ2 hx ⟨rfl, rfl⟩
    rw [List.getElem?_map] at hx
    cases e : bs[i]? with
    | none => rw [e] at hx; cases hx
    | some a =>
      rw [e] at hx
      cases hx
      have hib := (List.getElem?_eq_some_iff.mp e).1
      have hW1 : W (i + 1) = W i ++ [(a, [])] := by
        show (bs.take (i + 1)).map _ = _
        rw [List.take_add_one, e, List.map_append]
        rfl
      have hWl : (W i).length = i := by show ((bs.take i).map _).length = i; simp; omega
      have hkW : keysW (W i) = bs.take i := by show ((bs.take i).map _).map _ = _; rw [List.map_map]; exact List.map_id _
      have hne : a ∉ keysW (W i) := by
        rw [hkW]
        intro hm
        obtain ⟨j, hj⟩ := List.getElem?_of_mem hm
        rw [List.getElem?_take] at hj
        split at hj
        · rename_i hji
          have := (List.getElem?_inj (by omega) hnd).mp (hj.trans e.symm)
          omega
        · cases hj
      refine tgb_name 8 nd (by decide) rfl rfl _ (ttsb0 _ ?_)
      rw [if_pos rfl]
      intro s H C cl fp
      refine (ev_name 8) _ ?_
      intro s H C cl fp
      refine tep_lstC (tap_nil ⟨by decide, .inl (a : Int), rfl, ?_, ?_, ?_⟩)
      · unfold wyK; rw [List.length_map, List.length_zipIdx, hWl]; omega
      · have hp := wyK_put (b := bs.length) (s := W i) [] hne
        rw [hW1, ← hp, List.length_map, hWl]
        congr 2
        unfold ixW
        rw [if_pos hib]
      · rw [hW1, List.map_append]; rfl
  · rintro acc μ2 ⟨rfl, rfl⟩
    refine .inr ?_
    rw [List.length_map]
    refine tap_cons (tep_listC B.list ((ev_name 1) _ ⟨natsP bs, .inl rfl, tap_consV ev_int (tap_nil ⟨_, _, _, rfl, ?_⟩)⟩))
    have hWe : W bs.length = bs.map fun e => (e, []) := by show (bs.take bs.length).map _ = _; rw [List.take_length]
    have hlW : (W bs.length).length = bs.length := by rw [hWe, List.length_map]
    have hM0 : ((W bs.length).map wcC ++ [some (Cell.dK (wyK bs.length (W bs.length)))] ++ [some (Cell.lst ((natsP bs).map PV.E.sh))] : Mu) = MW bs.length (bs.map fun e => (e, [])) := by
      rw [hWe]
      unfold MW waitC keysW natsP
      rw [List.take_of_length_le (by rw [List.length_map]; exact Nat.le_refl _), List.drop_of_length_le (by rw [List.length_map]; exact Nat.le_refl _), List.map_map, List.map_map]
      simp
    have hA0 := way_start (n := n) (ls := ls) hnd hlt
    refine tss_cons (tsp_whileP (fun m ρ2 μ2 => ∃ (s : WS) (i : Nat) (a b : Option PV.E), ρ2 = R i a b ∧ μ2 = MW bs.length s ∧ bs.length ≤ s.length ∧ WayA n ls bs s ∧ i ≤ s.length ∧ i + m = n + 1 ∧ wayL n ls bs es = wayGo ls es m i s) (n + 1) ⟨bs.map fun e => (e, []), 0, none, none, by rw [List.length_append, List.length_map, hlW]; rfl, hM0, by rw [List.length_map]; exact Nat.le_refl _, hA0, Nat.zero_le _, by omega, rfl⟩ ?_)
    rintro m ρ2 μ2 ⟨s, i, a, b, rfl, rfl, hbs, A, hi, him, hgo⟩
    refine (ET.is (y := decide (i < s.length)) (et_lt (ev_name 5) (ev_lenC B.len (ev_name 4) (MW_w _ s hbs))) (by rw [List.length_map]; unfold keysW; rw [List.length_map]; exact dec_lt _ _)) _ ?_
    by_cases hil : i < s.length
    · rw [if_pos (by simpa using hil)]
      obtain ⟨p, hp⟩ : ∃ p, s[i]? = some p := ⟨_, List.getElem?_eq_getElem hil⟩
      obtain ⟨m0, rfl⟩ : ∃ m0, m = m0 + 1 := ⟨m - 1, by have := A.len; omega⟩
      have hgo2 : wayL n ls bs es = if p.1 ∈ es then some p.2 else wayGo ls es m0 (i + 1) (ls.foldl (wayIn p.1 p.2) s) := by
        rw [hgo]
        conv => lhs; unfold wayGo
        simp only [hp]
      have hps := List.mem_of_getElem? hp
      refine tss_cons (tsp_setV 6 nd (x := .sh (.int (p.1 : Nat))) (ev_ixC (ev_name 4) (ev_name 5) (MW_w _ s hbs) (atI_of i rfl (by show ((keysW s).map _)[i]? = _; unfold keysW; rw [List.map_map, List.getElem?_map, hp]; rfl))) ?_)
      refine tss_cons (tsp_augI 5 nd rfl ev_int ?_)
      refine tss_cons (tsp_ifE (d := decide (p.1 ∈ es)) (et_inN (ev_name 6) (ev_name 2)) (fun hc => ?_) fun hc => ?_)
      · have hc := of_decide_eq_true hc
        rw [hgo2, if_pos hc]
        have hd := DG.ptK (k := .inl (p.1 : Int)) (MW_d bs.length s hbs)
        rw [wyK_get A.nd hp] at hd
        exact tss_one (tsp_retV (ev_dget hu (ev_name 3) (ev_name 6) hd) (.inr ⟨_, _, rfl, rfl, MW_i _ s hbs hp, ⟨_, rfl⟩⟩))
      · have hc := of_decide_eq_false hc
        rw [if_neg hc] at hgo2
        refine tss_nil ?_
        refine tss_one (tsp_forL ls lkP [7] (fun k ρ3 μ3 => ∃ c, ρ3 = R (i + 1) (some (.sh (.int (p.1 : Nat)))) c ∧ μ3 = MW bs.length ((ls.take k).foldl (wayIn p.1 p.2) s)) (ei_list (ev_name 0)) ⟨b, rfl, rfl⟩ ?_ ?_ (by rw [List.map_map]; rfl))
        · rintro k l ρ3 μ3 hl ⟨c, rfl, rfl⟩
          refine tgp_name 7 ?_ (by decide) nd rfl (.inl rfl) (.inl rfl)
          have htk : ls.take (k + 1) = ls.take k ++ [l] := by rw [List.take_add_one, hl]; rfl
          have hlm := List.mem_of_getElem? hl
          obtain ⟨A2, ⟨t2, k2⟩, k3⟩ := way_fold (i := i) hin (ls.take k) (fun x hx => List.mem_of_mem_take hx) A hp
          rw [htk, List.foldl_append]
          generalize hs : (ls.take k).foldl (wayIn p.1 p.2) s = s2 at *
          have hs2 := A2.len
          have hp2 : s2[i]? = some p := by rw [k2, List.getElem?_append_left hil]; exact hp
          have hbs2 : bs.length ≤ s2.length := by rw [k2, List.length_append]; omega
          have hpl := (A.way i p hp).1
          have hd := DG.ptK (k := .inl (p.1 : Int)) (MW_d bs.length s2 hbs2)
          rw [wyK_get A2.nd hp2] at hd
          have hx := DG.ptK (k := .inl (l.2.1 : Int)) (MW_d bs.length s2 hbs2)
          refine tss_one (tsp_ifE (d := decide (l.1 = p.1 ∧ l.2.1 ∉ keysW s2)) (ET.is (et_w (ew_and (et_eqI (ev_ixT (ev_name 7) ev_int rfl) (ev_name 6)) fun _ => ew_and1 (et_dnotIn hu (ev_ixT (ev_name 7) ev_int rfl) (ev_name 3) hx))) (by rw [wyK_some, dec_nat]; by_cases q1 : l.1 = p.1 <;> by_cases q2 : l.2.1 ∈ keysW s2 <;> simp [q1, q2])) (fun hc => ?_) fun hc => ?_)
          · have hc := of_decide_eq_true hc
            have eW : [l].foldl (wayIn p.1 p.2) s2 = s2 ++ [(l.2.1, p.2 ++ [l])] := by show wayIn p.1 p.2 s2 l = _; unfold wayIn; rw [if_pos hc]
            have hml := MW_len bs.length s2 hbs2
            have eput := wyK_put (b := bs.length) (p.2 ++ [l]) hc.2
            refine tss_cons (tsp_dputK hu (tep_lstC (tap_starC (ev_dget hu (ev_name 3) (ev_name 6) hd) (MW_i _ s2 hbs2 hp2) (tap_consV (ev_name 7) (tap_nil ⟨by simp; omega, (ev_name 3) _ ((ev_ixT (ev_name 7) ev_int rfl) _ ⟨bs.length, wyK bs.length s2, .inl (l.2.1 : Int), rfl, rfl, ?_, ?_, ?_⟩)⟩)))))
            · rw [List.getElem?_append_left (by rw [hml]; omega)]; exact MW_d _ _ hbs2
            · unfold wyK; rw [List.length_map, List.length_zipIdx]; omega
            have eix : (MW bs.length s2).length = ixW bs.length s2.length := by rw [hml]; unfold ixW; rw [if_neg (by omega)]
            rw [eix, eput]
            have hw : ((MW bs.length s2 ++ [some (Cell.lst (p.2.map lkP |>.map PV.E.sh |> fun z => z ++ [PV.E.sh (lkP l)]))]).set bs.length (some (.dK (wyK bs.length (s2 ++ [(l.2.1, p.2 ++ [l])])))))[bs.length + 1]? = some (some (waitC s2)) := by
              rw [List.getElem?_set_ne (by omega), List.getElem?_append_left (by rw [hml]; omega)]
              exact MW_w _ _ hbs2
            refine tss_one (tsp_expr (tep_append ((ev_name 4) _ ⟨bs.length + 1, _, rfl, hw, (ev_ixT (ev_name 7) ev_int rfl) _ ⟨_, hw, ?_, ?_⟩⟩)))
            · unfold keysW; rw [List.length_map, List.length_map]; omega
            · refine ⟨_, rfl, ?_⟩
              rw [eW, MW_app _ _ _ hbs2]
              unfold wcC waitC
              simp [keysW]
          · have hc := of_decide_eq_false hc
            have eW : [l].foldl (wayIn p.1 p.2) s2 = s2 := by show wayIn p.1 p.2 s2 l = _; unfold wayIn; rw [if_neg hc]
            exact tss_nil ⟨_, rfl, by rw [eW]⟩
        · rintro ρ3 μ3 ⟨c, rfl, rfl⟩
          rw [List.take_length]
          obtain ⟨A1, ⟨t, e2⟩, _⟩ := way_fold (i := i) hin ls (fun l hl => hl) A hp
          exact ⟨m0, by omega, _, i + 1, _, _, rfl, rfl, by rw [e2, List.length_append]; omega, A1, by rw [e2, List.length_append]; omega, by omega, hgo2⟩
    · rw [if_neg (by simpa using hil)]
      have e2 : wayL n ls bs es = none := by
        rw [hgo]
        cases m with
        | zero => rfl
        | succ m => unfold wayGo; rw [List.getElem?_eq_none (by omega)]
      rw [e2]
      exact tss_one (tsp_retV ev_non (.inl ⟨rfl, rfl⟩))
end
end PV

/-! The walk: clash_of. -/
namespace PV
open PySem PySem.Spec PyProof.Rows L2
abbrev ClR := Option (List Lk × Option (List Lk × List Lk))
/-- a told clash as a value over new cells -/
def clQ (c : ClR) (μ : Mu) (Q : PV.E → Mu → Prop) : Prop := match c with
  | none => Q (.sh .non) μ
  | some (r, none) => Q (.tp [.inr μ.length, .inl .non, .inl .non]) (μ ++ [some (wayC r)])
  | some (lo, some (way, hi)) => Q (.tp [.inr (μ.length + 1), .inr μ.length, .inr (μ.length + 2)]) (μ ++ [some (wayC way), some (wayC lo), some (wayC hi)])
section
variable {g : Bool} {Pr : Program} {w : World} {K : PySem.W.Frag} {mg : Str → Option Value} {base : Heap} {f : Addr} {fd : FuncData} {C : Addr}
theorem sc_clash_of : FnScope ["links", "lowers", "rings", "ring", "ticks", "tokens", "lower", "way", "link"] ["links", "lowers"] (defScope s_clash_of) := ⟨rfl, rfl, rfl, by decide +kernel, rfl, by decide +kernel, by decide +kernel⟩
def S_clash_of : PSpec := fun xs μ Q => ∃ (n : Nat) (ls : List Lk), xs = [.sh (rgP ls), .sh (.lst ((lowL n ls).map orP))] ∧ LkOk n ls ∧ HasOrd n ls ∧ clQ (clashL n ls) μ Q
theorem c_clash_of (F : FnP K "clash_of" "clash_of" s_clash_of f fd) (hm : mg "clash_of" = some (.ref f)) (B : Bl mg) (c1 : Ct g Pr w K mg base 2 "rings_of" (SF F_rings_of)) (c2 : Ct g Pr w K mg base 1 "sums_of" (SF F_sums_of)) (c3 : Ct g Pr w K mg base 1 "way_between" (SO F_wayC)) (c4 : Ct g Pr w K mg base 1 "is_below" (SF F_is_below)) (c5 : Ct g Pr w K mg base 2 "asked" (SF F_asked)) : Ct g Pr w K mg base 3 "clash_of" S_clash_of := by
  refine ct_of F hm sc_clash_of (fun _ _ _ _ _ _ us hl => match us, hl with | [_, _], _ => rfl) (by rintro _ _ _ ⟨n, ls, rfl, _⟩; rfl) fun cdv A outer s H E hr xs μ Q hS => ?_
  obtain ⟨n, ls, rfl, L, ho, hQ⟩ := hS
  have nd := sc_clash_of.nd
  have hin := L.lok.1
  have hrok := rings_rok L
  have hr1 := hr.mono (show 1 ≤ 2 by decide)
  let R : Option PV.E → Option PV.E → Option PV.E → Option PV.E → Option PV.E → Rho := fun a b c d e => [some (.sh (rgP ls)), some (.sh (.lst ((lowL n ls).map orP))), some (.sh (rgsP (ringsOf n ls))), a, b, c, d, e, none]
  have hfind : ∀ (p : List Lk → Bool) (i : Nat) (r : List Lk), (ringsOf n ls)[i]? = some r → ((ringsOf n ls).take i).find? p = none → p r = true → (ringsOf n ls).find? p = some r := fun p i r hi hno hp => by
    have htk : (ringsOf n ls).take (i + 1) = (ringsOf n ls).take i ++ [r] := by rw [List.take_add_one, hi]; rfl
    rw [← List.take_append_drop (i + 1) (ringsOf n ls), htk, List.find?_append, List.find?_append, hno]
    simp [hp]
  have hnext : ∀ (p : List Lk → Bool) (i : Nat) (r : List Lk), (ringsOf n ls)[i]? = some r → ((ringsOf n ls).take i).find? p = none → p r = false → ((ringsOf n ls).take (i + 1)).find? p = none := fun p i r hi hno hp => by
    rw [List.take_add_one, hi, List.find?_append, hno]
    simp [hp]
  refine tss_cons (tsp_setV 2 nd (ev_call c1 (hr.mono (by decide)) (eas_cons (ev_name 0) eas_nil) ⟨n, ls, rfl, L.lok, rfl⟩) ?_)
  refine tss_cons (tsp_forL (ringsOf n ls) rgP [3] (fun i ρ2 μ2 => μ2 = μ ∧ ((ringsOf n ls).take i).find? zeroUp = none ∧ ∃ a b c, ρ2 = R a b c none none) (ei_list (ev_name 2)) ⟨rfl, rfl, none, none, none, rfl⟩ ?_ ?_ (by rw [List.map_map]; rfl))
  · rintro i r ρ2 μ2 hi ⟨rfl, hno, a, b, c, rfl⟩
    have hr0 := hrok r (List.mem_of_getElem? hi)
    refine tgp_name 3 ?_ (by decide) nd rfl (.inl rfl) (.inl rfl)
    refine tss_cons (tsp_asgA [4, 5] (ev_call c2 hr1 (eas_cons (ev_name 3) eas_nil) ⟨r, _, rfl, .inl rfl, hr0.len, rfl⟩) (tgp_names ["ticks", "tokens"] [4, 5] nd (.inr rfl) rfl ?_))
    refine tss_one (tsp_ifE (d := zeroUp r) (et_w (ew_and (et_eqI (ev_name 5) ev_int) fun _ => ew_and1 (et_gt (ev_name 4) ev_int))) (fun h => ?_) fun h => ?_)
    · have e : clashL n ls = some (r, none) := by unfold clashL; rw [hfind _ i r hi hno h]
      rw [e] at hQ
      exact tss_one (tsp_ret (tep_tupE (tap_cons (tep_listC B.list ((ev_name 3) _ ⟨r.map lkP, .inl rfl, tap_consV ev_non (tap_consV ev_non (tap_nil ⟨[.inr _, .inl .non, .inl .non], rfl, Nat.le_of_ble_eq_true rfl, hQ⟩))⟩)))))
    · exact tss_nil ⟨rfl, hnext _ i r hi hno h, _, _, _, rfl⟩
  · rintro ρ2 μ2 ⟨rfl, hno, a, b, c, rfl⟩
    rw [List.take_length] at hno
    refine tss_cons (tsp_forL (ringsOf n ls) rgP [3] (fun i ρ3 μ3 => μ3 = μ2 ∧ ((ringsOf n ls).take i).find? (tooLow n ls) = none ∧ ∃ a b c d, ρ3 = R a b c d none) (ei_list (ev_name 2)) ⟨rfl, rfl, _, _, _, none, rfl⟩ ?_ ?_ (by rw [List.map_map]; rfl))
    · rintro i r ρ3 μ3 hi ⟨rfl, hno2, a, b, c, d, rfl⟩
      have hrm := List.mem_of_getElem? hi
      have hr0 := hrok r hrm
      obtain ⟨f0, Rg⟩ := rings_sound hrm
      have hf := ring_first Rg
      have hfn := (path_lt hin Rg.path Rg.ne).1
      obtain ⟨q1, q2, q3, q4, q5⟩ := lowQ_spec hin ho hfn
      refine tgp_name 3 ?_ (by decide) nd rfl (.inl rfl) (.inl rfl)
      obtain ⟨l0, t0, hr00⟩ : ∃ l0 t0, r = l0 :: t0 := by
        cases r with
        | nil => exact absurd rfl Rg.ne
        | cons l t => exact ⟨l, t, rfl⟩
      have hl0 : l0.1 = f0 := by have := Rg.path; rw [hr00] at this; exact this.2.1
      have hlow : ((lowL n ls).map orP)[f0]? = some (rgP (lowQ n ls f0)) := by
        have hlen := (low_spec2 hin).1
        unfold og at q1
        rw [List.getD_eq_getElem?_getD, List.getElem?_eq_getElem (by rw [hlen]; exact hfn)] at q1
        rw [List.getElem?_map, List.getElem?_eq_getElem (by rw [hlen]; exact hfn)]
        simp only [Option.getD_some] at q1
        rw [q1]; rfl
      have e0 : (r.map lkP)[0]? = some (lkP l0) := by rw [hr00]; rfl
      refine tss_cons (tsp_setV 6 nd (x := .sh (rgP (lowQ n ls f0))) (ev_ixL (xs := (lowL n ls).map orP) (ev_name 1) (EV.is (ev_ixT (xs := (lkI l0).map .int) (ev_ixL (xs := r.map lkP) (ev_name 3) ev_int (atI_of 0 rfl e0)) ev_int rfl) (y := .sh (.int (f0 : Nat))) (by rw [← hl0])) (atI_of f0 rfl hlow)) ?_)
      have hlo := hrok _ q2
      have etl : tooLow n ls r = (decide (tok r < 0) && below (askL r) (askL (lowQ n ls f0))) := by unfold tooLow; rw [hf]
      refine tss_one (tsp_ifE (d := tooLow n ls r) (ET.is (et_w (ew_and (et_lt (ev_ixT (xs := [.int (tks r), .int (tok r)]) (ev_call c2 hr1 (eas_cons (ev_name 3) eas_nil) ⟨r, _, rfl, .inl rfl, hr0.len, rfl⟩) ev_int rfl) ev_int) fun h => ew_and1 (et_val (ev_call c4 hr1 (eas_cons (ev_call c5 (hr.mono (by decide)) (eas_cons (ev_name 3) eas_nil) ⟨r, rfl, hr0, by have := of_decide_eq_true h; omega, rfl⟩) (eas_cons (ev_call c5 (hr.mono (by decide)) (eas_cons (ev_name 6) eas_nil) ⟨_, rfl, hlo, by omega, rfl⟩) eas_nil)) ⟨_, _, rfl, hr0.ask (by have := of_decide_eq_true h; omega), hlo.ask (by omega), rfl⟩)))) etl.symm) (fun h => ?_) fun h => ?_)
      · obtain ⟨k1, k2, k3, k4, k5, k6⟩ := low_clash hin ho hrm h
        rw [hf] at k1 k2
        have e : clashL n ls = some (lowQ n ls f0, some (wayTo n ls r, r)) := by unfold clashL; rw [hno, hfind _ i r hi hno2 h, ← hf]
        rw [e] at hQ
        obtain ⟨g0, Rl⟩ := rings_sound q2
        have n5 := L.n5
        have outsE : ∀ (q : List Lk), (q.map fun l => P.int ((l.1 : Nat) : Int)) = natsP (outs q) := fun q => by unfold natsP outs; rw [List.map_map]; rfl
        refine tss_cons (tsp_setP 7 nd (tep_callO (d := some (wayC (wayTo n ls r))) c3 hr1 (zs := [rgP ls, .lst (natsP (outs (lowQ n ls f0))), .lst (natsP (outs r))]) (eas_cons (ev_name 0) (eas_cons (EV.is (ev_lc0 (lowQ n ls f0) lkP (fun l => [some (.sh (rgP ls)), some (.sh (.lst ((lowL n ls).map orP))), some (.sh (rgsP (ringsOf n ls))), some (.sh (rgP r)), b, c, some (.sh (rgP (lowQ n ls f0))), none, some (.sh (lkP l))]) (fun l => .int (l.1 : Nat)) [8] [("link", 8)] rfl nd (blkOk_by (by kernel_rfl)) (ei_list (ev_name 6)) (Nat.le_trans hlo.len (by decide)) (fun a _ => tgb_name 8 nd (by decide) rfl rfl) (fun l _ s H C cl fp => ev_ixT (ev_name 8) ev_int rfl)) (y := .sh (.lst (natsP (outs (lowQ n ls f0))))) (by rw [outsE]))
          (eas_cons (EV.is (ev_lc0 r lkP (fun l => [some (.sh (rgP ls)), some (.sh (.lst ((lowL n ls).map orP))), some (.sh (rgsP (ringsOf n ls))), some (.sh (rgP r)), b, c, some (.sh (rgP (lowQ n ls f0))), none, some (.sh (lkP l))]) (fun l => .int (l.1 : Nat)) [8] [("link", 8)] rfl nd (blkOk_by (by kernel_rfl)) (ei_list (ev_name 3)) (Nat.le_trans hr0.len (by decide)) (fun a _ => tgb_name 8 nd (by decide) rfl rfl) (fun l _ s H C cl fp => ev_ixT (ev_name 8) ev_int rfl)) (y := .sh (.lst (natsP (outs r)))) (by rw [outsE])) eas_nil))) ⟨n, ls, outs (lowQ n ls f0), outs r, rfl, hin, by omega, by have := L.lok.2; omega, Rl.nd, outs_lt hin Rl.path, by rw [k2]; rfl⟩ (fun z => by cases z) fun c hc => ?_))
        cases hc
        refine tss_one (tsp_ret (tep_tupE (tap_cons (tep_listC B.list ((ev_name 6) _ ⟨(lowQ n ls f0).map lkP, .inl rfl, tap_consV (ev_name 7) (tap_cons (tep_listC B.list ((ev_name 3) _ ⟨r.map lkP, .inl rfl, tap_nil ⟨[.inr _, .inr _, .inr _], rfl, Nat.le_of_ble_eq_true rfl, ?_⟩⟩)))⟩)))))
        unfold clQ at hQ
        simp only [List.length_append, List.length_singleton, List.append_assoc, List.cons_append, List.nil_append]
        exact hQ
      · exact tss_nil ⟨rfl, hnext _ i r hi hno2 h, _, _, _, _, rfl⟩
    · rintro ρ3 μ3 ⟨rfl, hno2, a, b, c, d, rfl⟩
      rw [List.take_length] at hno2
      have e : clashL n ls = none := by unfold clashL; rw [hno, hno2]
      rw [e] at hQ
      exact tss_one (tsp_ret (tep_non hQ))
end
end PV

/-! The walk: own_clash, own_periods. -/
namespace PV
open PySem PySem.Spec PyProof.Rows L2
theorem with_ord {n : Nat} {as ds : List Arc} : HasOrd n (withLk n as ds) := fun e he => by
  unfold withLk
  refine sortL_mem.mpr ?_
  unfold allLk netLk
  refine List.mem_append_left _ (List.mem_map.mpr ⟨(e, e, 1, 0), List.mem_append_right _ ?_, rfl⟩)
  unfold selfArcs
  exact List.mem_map.mpr ⟨e, List.mem_range.mpr he, rfl⟩
theorem lowL_eq {n : Nat} {ls : List Lk} (hin : InK n ls) (ho : HasOrd n ls) : lowL n ls = (List.range n).map fun e => some (lowQ n ls e) := by
  have hl := (low_spec2 hin).1
  refine List.ext_getElem? fun e => ?_
  by_cases he : e < n
  · have h := (lowQ_spec hin ho he).1
    unfold og at h
    rw [List.getD_eq_getElem?_getD, List.getElem?_eq_getElem (by rw [hl]; exact he)] at h
    rw [List.getElem?_eq_getElem (by rw [hl]; exact he), List.getElem?_map, List.getElem?_range he]
    simp only [Option.getD_some] at h
    rw [h]; rfl
  · rw [List.getElem?_eq_none (by omega), List.getElem?_eq_none (by simp; omega)]
theorem clQ_isN {c : ClR} {μ : Mu} {Q : PV.E → Mu → Prop} (h : ∀ e μ', isN e = c.isNone → Q e μ') : clQ c μ Q := by
  rcases c with _ | ⟨r, _ | ⟨w, hi⟩⟩
  · exact h _ _ rfl
  · exact h _ _ rfl
  · exact h _ _ rfl
section
variable {X : Cx} {a : Expr} {ρ : Rho} {μ : Mu} {pos p2 : Pos}
theorem ttp_notN {j} {Q : Bool → Mu → Prop} (h : TEP X a ρ μ fun x μ1 => Q (!isN x) μ1) : TTP X (.Compare a [.IsNot] [.Constant .none j p2] pos) ρ μ Q := fun ad Hb H σ W N Q' g => by
  refine pt_go (pt_cmp (pc_notN pe_self) (by rfl)) (h ad Hb H σ W N _ ?_)
  intro v y μ1 ad1 Hb1 H1 q s W1 r
  rw [isN_rep r]
  exact ⟨_, rfl, g _ _ _ _ _ q s W1⟩
end
def ownPerP (n : Nat) (ls : List Lk) : P := match clashL n ls with
  | some _ => .non
  | none => .lst ((List.range n).map fun e => frP (ownT n ls e))
section
variable {g : Bool} {Pr : Program} {w : World} {K : PySem.W.Frag} {mg : Str → Option Value} {base : Heap} {f : Addr} {fd : FuncData} {C : Addr}
theorem sc_own_clash : FnScope ["net", "distances", "links"] ["net", "distances"] (defScope s_own_clash) := ⟨rfl, rfl, rfl, by decide +kernel, rfl, by decide +kernel, by decide +kernel⟩
def S_own_clash (K : PySem.W.Frag) : PSpec := fun xs μ Q => ∃ C n as ord ls x ds, xs = [.sh (netP C n as ord ls), .sh x] ∧ NetD K C n as ord ls ∧ LArcs x ds ∧ DisOk n ds ∧ clQ (clashL n (withLk n as ds)) μ Q
theorem c_own_clash (F : FnP K "own_clash" "own_clash" s_own_clash f fd) (hm : mg "own_clash" = some (.ref f)) (c1 : Ct g Pr w K mg base 5 "links_with" (SF (F_links_with K))) (c2 : Ct g Pr w K mg base 3 "lower_rings" (SF F_lower_rings)) (c3 : Ct g Pr w K mg base 3 "clash_of" S_clash_of) :
    Ct g Pr w K mg base 6 "own_clash" (S_own_clash K) := by
  refine ct_of F hm sc_own_clash (fun _ _ _ _ _ _ us hl => match us, hl with | [_, _], _ => rfl) (by rintro _ _ _ ⟨C, n, as, ord, ls, x, ds, rfl, _⟩; rfl) fun cdv A outer s H E hr xs μ Q hS => ?_
  obtain ⟨C, n, as, ord, ls, x, ds, rfl, N, hx, D, hQ⟩ := hS
  have nd := sc_own_clash.nd
  have L := with_lkok N D
  have hn5 := N.n5
  refine tss_cons (tsp_setV 2 nd (ev_call c1 (hr.mono (by decide)) (eas_cons (ev_name 0) (eas_cons (ev_name 1) eas_nil)) ⟨C, n, as, ord, ls, x, ds, rfl, N, hx, D, rfl⟩) ?_)
  exact tss_one (tsp_ret (tep_call c3 (hr.mono (by decide)) (tap_consV (ev_name 2) (tap_consV (ev_call c2 (hr.mono (by decide)) (eas_cons (ev_attr (ev_name 0) N.cls.cls N.cls.many rfl) (eas_cons (ev_name 2) eas_nil)) ⟨n, withLk n as ds, rfl, L, by omega, rfl⟩) (tap_nil ⟨n, withLk n as ds, rfl, L, with_ord, hQ⟩)))))
theorem sc_own_periods : FnScope ["net", "distances", "links", "lowers", "ring"] ["net", "distances"] (defScope s_own_periods) := ⟨rfl, rfl, rfl, by decide +kernel, rfl, by decide +kernel, by decide +kernel⟩
def F_own_periods (K : PySem.W.Frag) (zs : List P) (y : P) : Prop := ∃ C n as ord ls x ds, zs = [netP C n as ord ls, x] ∧ NetD K C n as ord ls ∧ LArcs x ds ∧ DisOk n ds ∧ y = ownPerP n (withLk n as ds)
theorem c_own_periods (F : FnP K "own_periods" "own_periods" s_own_periods f fd) (hm : mg "own_periods" = some (.ref f)) (c1 : Ct g Pr w K mg base 5 "links_with" (SF (F_links_with K))) (c2 : Ct g Pr w K mg base 3 "lower_rings" (SF F_lower_rings)) (c3 : Ct g Pr w K mg base 3 "clash_of" S_clash_of) (c4 : Ct g Pr w K mg base 2 "asked" (SF F_asked)) :
    Ct g Pr w K mg base 6 "own_periods" (SF (F_own_periods K)) := by
  refine ct_pure F hm sc_own_periods (fun _ _ _ _ _ _ us hl => match us, hl with | [_, _], _ => rfl) (by rintro _ _ ⟨C, n, as, ord, ls, x, ds, rfl, _⟩; rfl) fun cdv A outer s H E hr zs y hF => ?_
  obtain ⟨C, n, as, ord, ls, x, ds, rfl, N, hx, D, rfl⟩ := hF
  have nd := sc_own_periods.nd
  have L := with_lkok N D
  have hn5 := N.n5
  have ho : HasOrd n (withLk n as ds) := with_ord
  have hin := L.lok.inn
  refine tss_cons (tsp_setV 2 nd (ev_call c1 (hr.mono (by decide)) (eas_cons (ev_name 0) (eas_cons (ev_name 1) eas_nil)) ⟨C, n, as, ord, ls, x, ds, rfl, N, hx, D, rfl⟩) ?_)
  unfold ownPerP
  generalize hW : withLk n as ds = W at *
  refine tss_cons (tsp_setV 3 nd (ev_call c2 (hr.mono (by decide)) (eas_cons (ev_attr (ev_name 0) N.cls.cls N.cls.many rfl) (eas_cons (ev_name 2) eas_nil)) ⟨n, W, rfl, L, by omega, rfl⟩) ?_)
  have key : ∀ μ', clashL n W = none → TSs (cxB Pr w K mg base ["net", "distances", "links", "lowers", "ring"] "own_periods" s_own_periods f cdv A outer s H E) ((defBody s_own_periods).drop 3) [some (.sh (netP C n as ord ls)), some (.sh x), some (.sh (rgP W)), some (.sh (.lst ((lowL n W).map orP))), none] μ' { nx := fun _ _ => P.lst ((List.range n).map fun e => frP (ownT n W e)) = .non, rt := fun z μ' => Frz μ' z (P.lst ((List.range n).map fun e => frP (ownT n W e))) } := fun μ' hc => by
    refine tss_one (tsp_retV (ev_lc0 (List.range n) (fun e => rgP (lowQ n W e)) (fun e => [some (.sh (netP C n as ord ls)), some (.sh x), some (.sh (rgP W)), some (.sh (.lst ((lowL n W).map orP))), some (.sh (rgP (lowQ n W e)))]) (fun e => frP (ownT n W e)) [4] [("ring", 4)] rfl nd (blkOk_by (by kernel_rfl)) (EI.is (ei_list (ev_name 3)) (by rw [lowL_eq hin ho, List.map_map, List.map_map])) (by rw [List.length_range]; omega) (fun a _ => tgb_name 4 nd (by decide) rfl rfl) (fun e he s H C cl fp => ?_)) (.sh _))
    have hen := List.mem_range.mp he
    obtain ⟨_, q2, q3, _⟩ := lowQ_spec hin ho hen
    exact ev_call c4 (hr.mono (by decide)) (eas_cons (ev_name 4) eas_nil) ⟨lowQ n W e, rfl, rings_rok L _ q2, by omega, rfl⟩
  refine tss_cons (tsp_if (ttp_notN (tep_call c3 (hr.mono (by decide)) (tap_consV (ev_name 2) (tap_consV (ev_name 3) (tap_nil ⟨n, W, rfl, L, ho, ?_⟩))))))
  refine clQ_isN fun e μ' he => ?_
  rw [he]
  cases hc : clashL n W with
  | none =>
    rw [if_neg (by decide)]
    exact tss_nil (key _ hc)
  | some c =>
    rw [if_pos (by rfl)]
    exact tss_one (tsp_retV ev_non (.sh _))
end
end PV

/-! The walk: own_plan. -/
namespace PV
open PySem PySem.Spec PyProof.Rows L2
def botK (n : Nat) (ls : List Lk) (k : Nat) : Nat := (List.range k).foldl (fun b e => Nat.lcm b (ownT n ls e).2.toNat) 1
theorem botK_succ (n : Nat) (ls : List Lk) (k : Nat) : botK n ls (k + 1) = Nat.lcm (botK n ls k) (ownT n ls k).2.toNat := by
  unfold botK
  rw [List.range_succ, List.foldl_append]
  rfl
def FewTok (ls : List Lk) : Prop := ∀ l ∈ ls, l.2.2.1 ≤ 2
theorem tok_few : ∀ {r : List Lk}, (∀ l ∈ r, l.2.2.1 ≤ 2) → tok r ≤ 2 * (r.length : Int)
  | [], _ => by simp [tok, wt]
  | l :: r, h => by
    have h1 := h l List.mem_cons_self
    have h2 := tok_few fun k hk => h k (List.mem_cons_of_mem _ hk)
    unfold tok at h2 ⊢
    rw [wt_cons, List.length_cons]
    omega
section
variable {n : Nat} {ls : List Lk}
theorem own_den (hin : InK n ls) (ho : HasOrd n ls) (h5 : n ≤ 5) (hf : FewTok ls) {e : Nat} (he : e < n) : 0 < (ownT n ls e).2 ∧ (ownT n ls e).2 ≤ 10 ∧ (ownT n ls e).2.toNat ∣ 2520 := by
  obtain ⟨_, q2, q3, _⟩ := lowQ_spec hin ho he
  obtain ⟨f, R⟩ := rings_sound q2
  have hl : (lowQ n ls e).length ≤ n := by
    have := nat_nd_len R.nd (outs_lt hin R.path)
    unfold outs at this
    rwa [List.length_map] at this
  have ht := tok_few (r := lowQ n ls e) fun l hl => hf l (path_mem R.path l hl)
  obtain ⟨c, L⟩ := ask_low (r := lowQ n ls e) (by omega)
  have hu := low_ub L
  have hp := L.pos
  have h1 : 0 < (ownT n ls e).2 := hp
  have h2 : (ownT n ls e).2 ≤ 10 := by unfold ownT; omega
  refine ⟨h1, h2, ?_⟩
  generalize (ownT n ls e).2 = v at h1 h2
  have : v = 1 ∨ v = 2 ∨ v = 3 ∨ v = 4 ∨ v = 5 ∨ v = 6 ∨ v = 7 ∨ v = 8 ∨ v = 9 ∨ v = 10 := by omega
  rcases this with rfl | rfl | rfl | rfl | rfl | rfl | rfl | rfl | rfl | rfl <;> decide
theorem botK_ok (hin : InK n ls) (ho : HasOrd n ls) (h5 : n ≤ 5) (hf : FewTok ls) : ∀ k, k ≤ n → botK n ls k ∣ 2520 ∧ ∀ e, e < k → (ownT n ls e).2 ∣ (botK n ls k : Int)
  | 0, _ => ⟨⟨2520, rfl⟩, fun e he => absurd he (by omega)⟩
  | k + 1, hk => by
    obtain ⟨h1, h2⟩ := botK_ok hin ho h5 hf k (by omega)
    obtain ⟨d1, d2, d3⟩ := own_den hin ho h5 hf (show k < n by omega)
    rw [botK_succ]
    refine ⟨Nat.lcm_dvd h1 d3, fun e he => ?_⟩
    rcases Nat.lt_or_ge e k with h | h
    · exact Int.dvd_trans (h2 e h) (Int.natCast_dvd_natCast.mpr (Nat.dvd_lcm_left _ _))
    · have : e = k := by omega
      subst this
      have h3 := Int.natCast_dvd_natCast.mpr (Nat.dvd_lcm_right (botK n ls e) (ownT n ls e).2.toNat)
      rwa [Int.toNat_of_nonneg (by omega)] at h3
theorem botK_bd (hin : InK n ls) (ho : HasOrd n ls) (h5 : n ≤ 5) (hf : FewTok ls) {k : Nat} (hk : k ≤ n) : 0 < botK n ls k ∧ botK n ls k ≤ 2520 :=
  have h := (botK_ok hin ho h5 hf k hk).1
  ⟨Nat.pos_of_dvd_of_pos h (by decide), Nat.le_of_dvd (by decide) h⟩
end
def ownHt (n : Nat) (ls : List Lk) : List Int := (potOf n ls (wOwn n ls (botK n ls n))).getD []
def ownRow (n : Nat) (ls : List Lk) (e : Nat) : P := .tup [frP (lowP (gt (ownHt n ls) e) (botK n ls n)), frP (ownT n ls e)]
def ownPlanP (n : Nat) (ls : List Lk) : P := match clashL n ls with
  | some _ => .non
  | none => .lst ((List.range n).map (ownRow n ls))
theorem ownPer_isN (n : Nat) (ls : List Lk) : isN (.sh (ownPerP n ls)) = (clashL n ls).isSome := by unfold ownPerP; cases clashL n ls <;> rfl
theorem ownPlan_isN (n : Nat) (ls : List Lk) : isN (.sh (ownPlanP n ls)) = (clashL n ls).isSome := by unfold ownPlanP; cases clashL n ls <;> rfl
section
variable {g : Bool} {Pr : Program} {w : World} {K : PySem.W.Frag} {mg : Str → Option Value} {base : Heap} {f : Addr} {fd : FuncData} {C : Addr}
theorem sc_own_plan : FnScope ["net", "distances", "rates", "links", "bottom", "rate", "tops", "weights", "a", "b", "t", "d", "first", "begins", "begin"] ["net", "distances"] (defScope s_own_plan) := ⟨rfl, rfl, rfl, by decide +kernel, rfl, by decide +kernel, by decide +kernel⟩
def F_own_plan (K : PySem.W.Frag) (zs : List P) (y : P) : Prop := ∃ C n as ord ls x ds, zs = [netP C n as ord ls, x] ∧ NetD K C n as ord ls ∧ LArcs x ds ∧ DisOk n ds ∧ FewTok (withLk n as ds) ∧ y = ownPlanP n (withLk n as ds)
theorem c_own_plan (F : FnP K "own_plan" "own_plan" s_own_plan f fd) (hm : mg "own_plan" = some (.ref f)) (B : Bl mg) (c1 : Ct g Pr w K mg base 6 "own_periods" (SF (F_own_periods K))) (c2 : Ct g Pr w K mg base 5 "links_with" (SF (F_links_with K))) (c3 : Ct g Pr w K mg base 1 "multiple_of" (SF F_multiple_of)) (c4 : Ct g Pr w K mg base 1 "potentials" (SF F_potentials)) (c5 : Ct g Pr w K mg base 1 "lowest" (SF F_lowest)) :
    Ct g Pr w K mg base 7 "own_plan" (SF (F_own_plan K)) := by
  refine ct_pure F hm sc_own_plan (fun _ _ _ _ _ _ us hl => match us, hl with | [_, _], _ => rfl) (by rintro _ _ ⟨C, n, as, ord, ls, x, ds, rfl, _⟩; rfl) fun cdv A outer s H E hr zs y hF => ?_
  obtain ⟨C, n, as, ord, ls, x, ds, rfl, N, hx, D, hf, rfl⟩ := hF
  have nd := sc_own_plan.nd
  have L := with_lkok N D
  have hn5 := N.n5
  have ho : HasOrd n (withLk n as ds) := with_ord
  have hin := L.lok.inn
  have hr1 := hr.mono (j := 1) (by decide)
  refine tss_cons (tsp_par2A 2 3 nd (tap_consV (ev_call c1 (hr.mono (by decide)) (eas_cons (ev_name 0) (eas_cons (ev_name 1) eas_nil)) ⟨C, n, as, ord, ls, x, ds, rfl, N, hx, D, rfl⟩) (tap_consV (ev_call c2 (hr.mono (by decide)) (eas_cons (ev_name 0) (eas_cons (ev_name 1) eas_nil)) ⟨C, n, as, ord, ls, x, ds, rfl, N, hx, D, rfl⟩) (tap_nil ⟨_, _, rfl, ?_⟩))))
  have hll := L.lok.len
  have hsm := L.small
  generalize hW : withLk n as ds = W at *
  refine tss_cons (tsp_ifE (d := (clashL n W).isSome) (ET.is (et_isN (x := .sh (ownPerP n W)) (ev_name 2)) (ownPer_isN n W)) (fun h => ?_) fun h => tss_nil ?_)
  · have e : ownPlanP n W = .non := by unfold ownPlanP; cases hc : clashL n W with | none => rw [hc] at h; cases h | some c => rfl
    rw [e]
    exact tss_one (tsp_retV ev_non (.sh _))
  have hc : clashL n W = none := by cases hc : clashL n W with | none => rfl | some c => rw [hc] at h; cases h
  have e1 : ownPerP n W = .lst ((List.range n).map fun e => frP (ownT n W e)) := by unfold ownPerP; rw [hc]
  have e2 : ownPlanP n W = .lst ((List.range n).map (ownRow n W)) := by unfold ownPlanP; rw [hc]
  obtain ⟨k1, k2⟩ := clash_none.mp hc
  rw [e1, e2]
  let R : Nat → Option PV.E → Option PV.E → Option PV.E → Option PV.E → Option PV.E → Option PV.E → Option PV.E → Option PV.E → Rho := fun bo ra to we a b t d fi => [some (.sh (netP C n as ord ls)), some (.sh x), some (.sh (.lst ((List.range n).map fun e => frP (ownT n W e)))), some (.sh (rgP W)), some (.sh (.int (bo : Nat))), ra, to, we, a, b, t, d, fi, none, none]
  refine tss_cons (tsp_setV 4 nd (x := .sh (.int ((1 : Nat) : Int))) ev_int ?_)
  refine tss_cons (tsp_forL (List.range n) (fun e => frP (ownT n W e)) [5] (fun i ρ2 μ2 => μ2 = [] ∧ ∃ ra, ρ2 = R (botK n W i) ra none none none none none none none) (ei_list (ev_name 2)) ⟨rfl, none, rfl⟩ ?_ ?_ (by rw [List.map_map]; rfl))
  · rintro i e ρ2 μ2 hi ⟨rfl, ra, rfl⟩
    obtain ⟨hi2, rfl⟩ := List.getElem?_eq_some_iff.mp hi
    rw [List.length_range] at hi2
    rw [List.getElem_range]
    refine tgp_name 5 ?_ (by decide) nd rfl (.inl rfl) (.inl rfl)
    obtain ⟨d1, d2, d3⟩ := own_den hin ho hn5 hf hi2
    have hb := botK_bd hin ho hn5 hf (k := i) (by omega)
    refine tss_one (tsp_setV 4 nd (x := .sh (.int (botK n W (i + 1) : Nat))) (ev_call c3 hr1 (eas_cons (ev_name 4) (eas_cons (EV.is (ev_ixT (xs := [.int (ownT n W i).1, .int (ownT n W i).2]) (ev_name 5) ev_int rfl) (y := .sh (.int ((ownT n W i).2.toNat : Nat))) (by rw [Int.toNat_of_nonneg (by omega)])) eas_nil)) ⟨botK n W i, (ownT n W i).2.toNat, rfl, hb.1, by omega, by omega, by rw [botK_succ]⟩) ⟨rfl, _, rfl⟩)
  rintro ρ2 μ2 ⟨rfl, ra, rfl⟩
  rw [List.length_range]
  have hb := botK_bd hin ho hn5 hf (k := n) (by omega)
  generalize hB : botK n W n = Bo at hb
  have hdv : ∀ e, e < n → (ownT n W e).2 ∣ (Bo : Int) := by rw [← hB]; exact (botK_ok hin ho hn5 hf n (by omega)).2
  -- tops, weights
  let topsP : P := .lst ((List.range n).map fun e => .int (topE n W Bo e))
  refine tss_cons (tsp_par2A 6 7 nd (tap_consV (ev_lc0 (List.range n) (fun e => frP (ownT n W e)) (fun e => R Bo (some (.sh (frP (ownT n W e)))) none none none none none none none) (fun e => .int (topE n W Bo e)) [5] [("rate", 5)] rfl nd (blkOk_by (by kernel_rfl)) (EI.is (ei_list (ev_name 2)) (by rw [List.map_map])) (by rw [List.length_range]; omega) (fun a _ => tgb_name 5 nd (by decide) rfl rfl) (fun e he s H C cl fp => ?_)) (tap_cons (tep_lstC (tap_nil ⟨by decide, tap_nil ⟨_, _, rfl, ?_⟩⟩)))))
  · obtain ⟨d1, d2, d3⟩ := own_den hin ho hn5 hf (List.mem_range.mp he)
    exact ev_fdiv (ev_mul (ev_ixT (xs := [.int (ownT n W e).1, .int (ownT n W e).2]) (ev_name 5) ev_int rfl) (ev_name 4) (.inr ⟨by omega, by omega⟩)) (ev_ixT (xs := [.int (ownT n W e).1, .int (ownT n W e).2]) (ev_name 5) ev_int rfl) ⟨d1, by omega⟩
  let wts : Nat → List P := fun i => (W.take i).map fun l => .int (wOwn n W Bo l)
  refine tss_cons (tsp_forL W lkP [8, 9, 10, 11] (fun i ρ3 μ3 => μ3 = [some (.lst ((wts i).map .sh))] ∧ ∃ a b t d fi, ρ3 = R Bo ra (some (.sh topsP)) (some (.pt 0)) a b t d fi) (ei_list (ev_name 3)) ⟨rfl, none, none, none, none, none, rfl⟩ ?_ ?_ (by rw [List.map_map]; rfl))
  · rintro i l ρ3 μ3 hi ⟨rfl, a, b, t, d, fi, rfl⟩
    have hlm := List.mem_of_getElem? hi
    have hil := (List.getElem?_eq_some_iff.mp hi).1
    obtain ⟨s1, s2⟩ := hsm l hlm
    obtain ⟨i1, i2⟩ := hin l hlm
    refine tgp_names ["a", "b", "t", "d"] [8, 9, 10, 11] nd (.inr rfl) rfl ?_
    refine tss_cons (tsp_setV 12 nd (x := .sh (.int (max 0 l.2.2.1))) (ev_max2 rfl B.max ev_int (ev_name 10)) ?_)
    have at1 : ∀ e, e < n → atI ((List.range n).map fun e => P.int (topE n W Bo e)) ((e : Nat) : Int) = some (.int (topE n W Bo e)) := fun e he => atI_of e rfl (by rw [List.getElem?_map, List.getElem?_range he]; rfl)
    refine tss_one (tsp_expr (tep_append ((ev_name 7) _ ⟨0, _, rfl, rfl, (ev_sub (ev_add (ev_mul (ev_name 11) (ev_name 4) (.inr ⟨by omega, by omega⟩)) (ev_mul (ev_ixL (ev_name 6) (ev_name 8) (at1 l.1 i1)) (ev_sub (ev_name 12) (ev_name 10)) (.inr ⟨by omega, by omega⟩))) (ev_mul (ev_ixL (ev_name 6) (ev_name 9) (at1 l.2.1 i2)) (ev_name 12) (.inr ⟨by omega, by omega⟩))) _ ⟨_, rfl, ?_, ?_⟩⟩)))
    · simp only [wts, List.length_map, List.length_take]; omega
    · refine ⟨?_, _, _, _, _, _, rfl⟩
      show [some (Cell.lst _)] = _
      have : wts (i + 1) = wts i ++ [.int (wOwn n W Bo l)] := by
        simp only [wts]
        rw [List.take_add_one, hi, List.map_append]
        rfl
      rw [this, List.map_append]
      rfl
  rintro ρ3 μ3 ⟨rfl, a, b, t, d, fi, rfl⟩
  simp only [wts, List.take_length]
  refine tss_share 0 (zs := W.map fun l => .int (wOwn n W Bo l)) (R := R Bo ra (some (.sh topsP)) (some (.sh (.lst (W.map fun l => .int (wOwn n W Bo l))))) a b t d fi) rfl rfl ?_ ?_
  · intro i2 x2' hx2
    match i2, hx2 with
    | 0, h => exact .inl h
    | 1, h => exact .inl h
    | 2, h => exact .inl h
    | 3, h => exact .inl h
    | 4, h => exact .inl h
    | 5, h => exact .inl h
    | 6, h => exact .inl h
    | 7, h => cases h; exact .inr ⟨rfl, rfl⟩
    | i2 + 8, h => exact .inl h
  obtain ⟨gg, hg⟩ := own_pot (B := (Bo : Int)) hin ho k1 k2 (by omega) hdv
  obtain ⟨g1, g2⟩ := go_fix (n := n) _ (by simp) hg
  have eH : ownHt n W = gg := by unfold ownHt; rw [hB, hg]; rfl
  refine tss_cons (tsp_setV 13 nd (x := .sh (.lst (gg.map .int))) (EV.is (ev_call c4 hr1 (eas_cons (ev_attr (ev_name 0) N.cls.cls N.cls.many rfl) (eas_cons (ev_name 3) (eas_cons (ev_name 7) eas_nil))) ⟨n, W, wOwn n W Bo, by rw [List.map_map]; rfl, hin, by omega, by omega, rfl⟩) (by rw [hg]; rfl)) ?_)
  refine tss_one (tsp_retV (ev_lc0 (List.range n) (fun e => .tup [.int (gt gg e), frP (ownT n W e)]) (fun e => [some (.sh (netP C n as ord ls)), some (.sh x), some (.sh (.lst ((List.range n).map fun e => frP (ownT n W e)))), some (.sh (rgP W)), some (.sh (.int (Bo : Nat))), some (.sh (frP (ownT n W e))), some (.sh topsP), some (.sh (.lst (W.map fun l => .int (wOwn n W Bo l)))), a, b, t, d, fi, some (.sh (.lst (gg.map .int))), some (.sh (.int (gt gg e)))]) (ownRow n W) [14, 5] [("begin", 14), ("rate", 5)] rfl nd (blkOk_by (by kernel_rfl)) (EI.is (ei_zip B.zip (ev_name 13) (ev_name 2)) ?_) (by rw [List.length_range]; omega) (fun a _ => tgb_tup ["begin", "rate"] [14, 5] nd (.inr rfl)) (fun e he s H C cl fp => ?_)) (.sh _))
  · rw [List.length_map, List.length_map, List.length_range, g1, Nat.min_self]
    refine List.map_congr_left fun e he => ?_
    have he := List.mem_range.mp he
    have t1 : (gg.map P.int).getD e .non = .int (gt gg e) := by
      unfold gt
      rw [List.getD_eq_getElem?_getD, List.getD_eq_getElem?_getD, List.getElem?_map, List.getElem?_eq_getElem (by omega)]
      rfl
    have t2 : ((List.range n).map fun e => frP (ownT n W e)).getD e .non = frP (ownT n W e) := by
      rw [List.getD_eq_getElem?_getD, List.getElem?_map, List.getElem?_range he]
      rfl
    rw [t1, t2]
  · unfold ownRow
    rw [eH, hB]
    exact ev_tup (ys := [frP (lowP (gt gg e) Bo), frP (ownT n W e)]) (eas_cons (ev_call c5 hr1 (eas_cons (ev_name 14) (eas_cons (ev_name 4) eas_nil)) ⟨gt gg e, (Bo : Int), rfl, by omega, by omega, by omega, rfl⟩) (eas_cons (ev_name 5) eas_nil)) (Nat.le_of_ble_eq_true rfl)
end
end PV

namespace PV
open PySem PySem.Spec PyProof.Rows L2
theorem walk_zipT {K : PySem.W.Frag} {a b : Addr} {xs ys : List V} {n : Nat} (hn : n = min xs.length ys.length) : Walk (RZ.ItzT K a b) n (fun H => SqT K H a xs ∧ SqT K H b ys) (YPair (fun i => xs[i]?) (fun i => ys[i]?)) := by
  subst hn
  refine ⟨fun i _ hi q => ?_, fun _ q => ⟨xs, ys, q.1, q.2, by omega⟩, fun i H v H' _ q y => ?_⟩
  · have h1 : i < xs.length := by omega
    have h2 : i < ys.length := by omega
    exact ⟨xs, ys, xs[i], ys[i], q.1, q.2, by simp [h1], by simp [h2]⟩
  · obtain ⟨T, x, z, h1, h2, h3, h4, h5⟩ := y
    exact ⟨T, x, z, h1, h2, h3, h4 xs q.1, h5 ys q.2⟩
section
variable {X : Cx} {tg a b c e iter : Expr} {es : List Expr} {ρ : Rho} {μ : Mu} {pos tpos p2 : Pos} {xs ys : List P}
theorem sqT_of {K : PySem.W.Frag} {ad : List Addr} {Hb H : Hp} {μ : Mu} (W : Wd K ad Hb H μ) {p : Addr} {vs : List V} (h : Hb p = some (.tup vs)) : SqT K H p vs := .inl (.inl (W.tup h))
theorem ei_zipT {elts : List Expr} {kk : Nat} (hm : X.mg "zip" = none) (ha : EV X a ρ μ (.sh (.tup xs))) (hb : EV X b ρ μ (.sh (.tup ys))) (hg : Gl X "zip" := by rfl) (hs : starEach [a, b] X.env = (false, eval a X.env) :: starEach [b] X.env := by rfl) (hs2 : starEach [b] X.env = (false, eval b X.env) :: starEach [] X.env := by rfl) :
    EI X (.Tuple elts kk tpos) (.Call (.Name "zip" p2) [a, b] [] pos) ρ μ ((List.range (min xs.length ys.length)).map fun i => .sh (.tup [xs.getD i .non, ys.getD i .non])) := fun R q ad Hb H σ W N R' g => by
  refine pi_go (RZ.pi_zipA hg hm pa_self hs (by rw [hs2]; rfl)) ((ea_cons ha (ea_cons hb ea_nil hs2) hs) (fun zs μ1 => zs = [.sh (.tup xs), .sh (.tup ys)] ∧ μ1 = μ) ⟨rfl, rfl⟩ ad Hb H σ W N _ ?_)
  rintro vs zs μ1 ad1 Hb1 H1 ⟨rfl, rfl⟩ s1 W1 r0
  obtain ⟨v, w, rfl, r1, r2⟩ := vals2E r0
  obtain ⟨a, vs, rfl, hq, t1⟩ := Rep.tup_inv r1
  obtain ⟨b, ws, rfl, hq2, t2⟩ := Rep.tup_inv r2
  have w := walk_zipT (K := X.K) (a := a) (b := b) (xs := vs) (ys := ws) (n := min xs.length ys.length) (by rw [t1.length, t2.length])
  refine ⟨a, b, vs, ws, rfl, .inr ⟨sqT_of W1 hq, sqT_of W1 hq2, g _ _ _ _ _ _ _ q s1 W1 (pwalk_pair (K := X.K) (f' := fun i => xs.getD i .non) (g' := fun i => ys.getD i .non) w (fun ad2 Hb2 H2 μ2 s W => ⟨sqT_of W (s.ex _ _ hq), sqT_of W (s.ex _ _ hq2)⟩) (fun i v hi h => ?_) fun i v hi h => ?_)⟩⟩
  · obtain ⟨z, h1, h2⟩ := pd_right t1 i v h
    rw [List.getD_eq_getElem?_getD, h1]
    exact h2
  · obtain ⟨z, h1, h2⟩ := pd_right t2 i v h
    rw [List.getD_eq_getElem?_getD, h1]
    exact h2
theorem zip_self (xs : List P) : ((List.range (min xs.length xs.length)).map fun i => PV.E.sh (.tup [xs.getD i .non, xs.getD i .non])) = xs.map fun a => .sh (.tup [a, a]) := by
  rw [Nat.min_self]
  refine List.ext_getElem? fun i => ?_
  rw [List.getElem?_map, List.getElem?_map]
  by_cases h : i < xs.length
  · rw [List.getElem?_range h, List.getElem?_eq_getElem h, Option.map_some, Option.map_some, List.getD_eq_getElem?_getD, List.getElem?_eq_getElem h]
    rfl
  · rw [List.getElem?_eq_none (by simpa using h), List.getElem?_eq_none (by simpa using h)]
    rfl
theorem ei_zipS {elts : List Expr} {kk : Nat} {x : P} (hx : Sq x xs) (hm : X.mg "zip" = none) (ha : EV X a ρ μ (.sh x)) (hb : EV X b ρ μ (.sh x)) (hg : Gl X "zip" := by rfl) (hs : starEach [a, b] X.env = (false, eval a X.env) :: starEach [b] X.env := by rfl) (hs2 : starEach [b] X.env = (false, eval b X.env) :: starEach [] X.env := by rfl) :
    EI X (.Tuple elts kk tpos) (.Call (.Name "zip" p2) [a, b] [] pos) ρ μ (xs.map fun a => .sh (.tup [a, a])) := by
  rcases hx with rfl | rfl
  · exact (ei_zip hm ha hb hg hs hs2).is (zip_self xs)
  · exact (ei_zipT hm ha hb hg hs hs2).is (zip_self xs)
theorem et_neB {i j : Bool} (ha : EV X a ρ μ (.sh (.bl i))) (hb : EV X b ρ μ (.sh (.bl j))) : ET X (.Compare a [.NotEq] [b] pos) ρ μ (!decide (i = j)) := et_cmp op_ne (nomark _) ha hb fun Q q ad Hb H v w W r1 r2 Q' k => by
  obtain rfl := Rep.bl_inv r1
  obtain rfl := Rep.bl_inv r2
  refine ⟨rfl, ?_⟩
  rw [dec_bl, Bool.beq_eq_decide_eq]
  exact k.now W (x := .sh (.bl (!decide (i = j)))) (.bl _) q
theorem ev_eqNN (ha : EV X a ρ μ (.sh .non)) (hb : EV X b ρ μ (.sh .non)) : EV X (.Compare a [.Eq] [b] pos) ρ μ (.sh (.bl true)) := ev_cmp op_eq (nomark _) ha hb fun Q q ad Hb H v w W r1 r2 Q' k => by
  obtain rfl := Rep.non_inv r1
  obtain rfl := Rep.non_inv r2
  refine ⟨rfl, ?_⟩
  rw [decide_eq_true rfl]
  exact k.now W (x := .sh (.bl true)) (.bl _) q
end
/-- data of lists, tuples, ints, bools, None, dicts of pairs to ints -/
inductive Shape : Nat → P → Prop
  | non (n : Nat) : Shape n .non
  | bl (n : Nat) (b : Bool) : Shape n (.bl b)
  | int (n : Nat) (i : Int) : Shape n (.int i)
  | sq {n : Nat} {x : P} {xs : List P} (hx : Sq x xs) (l : xs.length ≤ 90000) (e : ∀ a ∈ xs, Shape n a) : Shape (n + 1) x
  | dT {n : Nat} (d : DD) (l : d.length ≤ 90000) : Shape (n + 4) (.dT (ddP d))
def F_same (d : Nat) (zs : List P) (y : P) : Prop := ∃ x, zs = [x, x] ∧ Shape d x ∧ y = .bl true
theorem shape_items (d : DD) (l : d.length ≤ 90000) (n : Nat) : Shape (n + 3) (.lst ((ddP d).map fun q => .tup [keyP q.1, q.2])) := by
  refine .sq (.inl rfl) (by unfold ddP; rw [List.length_map, List.length_map]; exact l) fun a ha => ?_
  obtain ⟨q, hq, rfl⟩ := List.mem_map.mp ha
  unfold ddP at hq
  obtain ⟨r, _, rfl⟩ := List.mem_map.mp hq
  refine .sq (.inr rfl) (Nat.le_of_ble_eq_true rfl) fun b hb => ?_
  simp only [List.mem_cons, List.not_mem_nil, or_false] at hb
  rcases hb with rfl | rfl
  · refine .sq (xs := [.int (r.1.1 : Nat), .int (r.1.2 : Nat)]) (.inr rfl) (Nat.le_of_ble_eq_true rfl) fun c hc => ?_
    simp only [List.mem_cons, List.not_mem_nil, or_false] at hc
    rcases hc with rfl | rfl <;> exact .int _ _
  · exact .int _ _
end PV

/-! repr of rows of small numbers; a new instance from drawn values. -/
namespace PV
open PySem PySem.Spec PyProof.Rows L2
theorem textFrom_ub {B : Nat} : ∀ (ts : List Str) (k : Nat) (acc : Str), (∀ t ∈ ts, t.length ≤ B) → (textFrom k acc ts).length ≤ acc.length + ts.length * (B + 2)
  | [], k, acc, _ => by show acc.length ≤ _; omega
  | t :: r, k, acc, h => by
    have h1 := textFrom_ub (B := B) r (k + 1) (acc ++ (if k > 0 then ", " else "" : String) ++ t) fun u hu => h u (List.mem_cons_of_mem _ hu)
    have e : (acc ++ (if k > 0 then ", " else "" : String) ++ t).length = acc.length + (if k > 0 then 2 else 0) + t.length := by
      rw [strLen_append, strLen_append]
      split <;> rfl
    rw [e] at h1
    have h2 := h t (List.mem_cons_self ..)
    have h3 : (if k > 0 then 2 else 0 : Nat) ≤ 2 := by split <;> omega
    show (textFrom (k + 1) (acc ++ (if k > 0 then ", " else "" : String) ++ t) r).length ≤ acc.length + (r.length + 1) * (B + 2)
    rw [Nat.succ_mul]
    generalize (if k > 0 then 2 else 0 : Nat) = z at h1 h3
    omega
theorem listText_ub {B : Nat} {ts : List Str} (h : ∀ t ∈ ts, t.length ≤ B) : (listText ts).length ≤ 2 + ts.length * (B + 2) := by
  have h1 := textFrom_ub ts 0 "[" h
  have h2 : (listText ts).length = (textFrom 0 "[" ts).length + 1 := by
    show (textFrom 0 "[" ts ++ "]").length = _
    rw [strLen_append]; rfl
  have h3 : ("[" : Str).length = 1 := rfl
  omega
theorem join_ub {B : Nat} : ∀ (ts : List Str), (∀ t ∈ ts, t.length ≤ B) → (Str.join ", " ts).length ≤ ts.length * (B + 2)
  | [], _ => by show 0 ≤ _; omega
  | [x], h => by
    have := h x (List.mem_cons_self ..)
    show x.length ≤ 1 * (B + 2)
    omega
  | x :: y :: r, h => by
    have h1 := join_ub (B := B) (y :: r) fun u hu => h u (List.mem_cons_of_mem _ hu)
    have h2 := h x (List.mem_cons_self ..)
    show (x ++ ", " ++ Str.join ", " (y :: r)).length ≤ (r.length + 1 + 1) * (B + 2)
    rw [strLen_append, strLen_append, Nat.succ_mul]
    have h3 : ((", " : String) : Str).length = 2 := rfl
    have h4 : (y :: r).length = r.length + 1 := rfl
    rw [h4] at h1
    omega
theorem tupleText_ub {B : Nat} {ts : List Str} (h : ∀ t ∈ ts, t.length ≤ B) : (tupleText ts).length ≤ 3 + ts.length * (B + 2) := by
  have h1 := join_ub ts h
  unfold tupleText
  rw [strLen_append, strLen_append]
  have h2 : ("(" : Str).length = 1 := rfl
  have h3 : ((if ts.length == 1 then ",)" else ")" : String) : Str).length ≤ 2 := by split <;> decide
  omega
theorem shownAll_map : ∀ ds : List PyData, PyData.shownAll ds = ds.map PyData.shown
  | [] => by simp [PyData.shownAll]
  | d :: ds => by simp only [PyData.shownAll, List.map_cons, shownAll_map ds]
theorem showableAll_of : ∀ {ds : List PyData}, (∀ d ∈ ds, d.showable = true) → PyData.showableAll ds = true
  | [], _ => by simp [PyData.showableAll]
  | d :: ds, h => by
    simp only [PyData.showableAll, h d (List.mem_cons_self ..), Bool.true_and]
    exact showableAll_of fun e he => h e (List.mem_cons_of_mem _ he)
theorem num_shown : ∀ n, n < 1000 → (PyData.int ((n : Nat) : Int)).shown.length ≤ 3 := by
  simp only [PyData.shown]
  decide +kernel
theorem num_showable {n : Nat} (h : n < 1000) : (PyData.int (n : Int)).showable = true := by
  simp only [PyData.showable, decide_eq_true_eq]
  refine Nat.lt_of_le_of_lt (Nat.log2_le_self _) ?_
  show n < 1920
  omega
/-- data that may be shown -/
structure Shw (n B : Nat) (x : P) (d : PyData) : Prop where
  pd : PD n x d
  ok : d.showable = true
  len : d.shown.length ≤ B
theorem shw_list {n B : Nat} {x : P} {ps : List P} {ds : List PyData} (hx : Sq x ps) (r : Paired (Shw n B) ps ds) : ∃ d, Shw (n + 1) (3 + ps.length * (B + 2)) x d := by
  have hs : ∀ d ∈ ds, d.showable = true := fun d hd => by
    obtain ⟨i, hi⟩ := List.mem_iff_getElem?.mp hd
    obtain ⟨p, _, h⟩ := pd_left r i d hi
    exact h.ok
  have hl : ∀ t ∈ PyData.shownAll ds, t.length ≤ B := fun t ht => by
    rw [shownAll_map] at ht
    obtain ⟨d, hd, rfl⟩ := List.mem_map.mp ht
    obtain ⟨i, hi⟩ := List.mem_iff_getElem?.mp hd
    obtain ⟨p, _, h⟩ := pd_left r i d hi
    exact h.len
  have hn : (PyData.shownAll ds).length = ps.length := by rw [shownAll_map, List.length_map, r.length]
  rcases hx with rfl | rfl
  · refine ⟨.list ds, .lst r.length fun i x d h1 h2 => (pd_get r i x d h1 h2).pd, by simp only [PyData.showable]; exact showableAll_of hs, ?_⟩
    simp only [PyData.shown]
    have := listText_ub hl
    rw [hn] at this
    omega
  · refine ⟨.tuple ds, .tup r.length fun i x d h1 h2 => (pd_get r i x d h1 h2).pd, by simp only [PyData.showable]; exact showableAll_of hs, ?_⟩
    simp only [PyData.shown]
    have := tupleText_ub hl
    rw [hn] at this
    omega
theorem shw_nums {n : Nat} : ∀ {ns : List Nat}, (∀ m ∈ ns, m < 1000) → Paired (Shw n 3) (ns.map fun m => P.int (m : Nat)) (ns.map fun m => PyData.int (m : Nat))
  | [], _ => .nil
  | m :: ns, h => .cons ⟨.int n _, num_showable (h m (List.mem_cons_self ..)), num_shown m (h m (List.mem_cons_self ..))⟩ (shw_nums fun k hk => h k (List.mem_cons_of_mem _ hk))
theorem shw_pick {n B : Nat} : ∀ {ps : List P}, (∀ p ∈ ps, ∃ d, Shw n B p d) → ∃ ds, Paired (Shw n B) ps ds
  | [], _ => ⟨[], .nil⟩
  | p :: ps, h => by
    obtain ⟨d, hd⟩ := h p (List.mem_cons_self ..)
    obtain ⟨ds, r⟩ := shw_pick fun q hq => h q (List.mem_cons_of_mem _ hq)
    exact ⟨d :: ds, .cons hd r⟩
/-- rows of so many small numbers -/
theorem shw_rows {α : Type} {f : α → List Nat} {w : Nat} {x : P} {ps : List P} {l : List α} (hx : Sq x ps) (r : Paired (fun p a => Sq p ((f a).map fun m => P.int (m : Nat))) ps l) (hf : ∀ a ∈ l, (f a).length ≤ w ∧ ∀ m ∈ f a, m < 1000) : ∃ d, Shw 2 (3 + ps.length * (3 + w * 5 + 2)) x d := by
  obtain ⟨ds, r2⟩ := shw_pick (n := 1) (B := 3 + w * 5) (ps := ps) fun p hp => by
    obtain ⟨i, hi⟩ := List.mem_iff_getElem?.mp hp
    obtain ⟨a, ha, hs⟩ := pd_right r i p hi
    obtain ⟨h1, h2⟩ := hf a (List.mem_of_getElem? ha)
    obtain ⟨d, hd⟩ := shw_list hs (shw_nums (n := 0) h2)
    refine ⟨d, hd.pd, hd.ok, Nat.le_trans hd.len ?_⟩
    rw [List.length_map]
    have : (f a).length * (3 + 2) ≤ w * 5 := Nat.mul_le_mul_right _ h1
    omega
  exact shw_list hx r2
theorem Shw.noDict {n B : Nat} {x : P} {d : PyData} (h : Shw n B x d) : d.hasDict = false := PyData.hasDict_of_canLay d h.pd.lay.1
section
variable {X : Cx} {a b e : Expr} {es : List Expr} {ρ : Rho} {μ : Mu} {Q : E → Mu → Prop} {pos p2 : Pos}
theorem tep_repr {k : Nat} (hr : RoomG true k X.A) (hm : X.mg "repr" = none) (h : TEP X e ρ μ fun x μ1 => ∃ d, DE μ1 x d ∧ d.showable = true ∧ d.hasDict = false ∧ d.depth ≤ 60 ∧ d.shown.length ≤ sizeLine ∧ Q (.sh (.str d.shown)) μ1) (hg : Gl X "repr" := by rfl) (hst : starEach [e] X.env = (false, eval e X.env) :: starEach [] X.env := by rfl) :
    TEP X (.Call (.Name "repr" p2) [e] [] pos) ρ μ Q :=
  tep_callB (call_reprD (hr.gd rfl) hr.u64) hg hm bo_repr (tap_cons (fun ad Hb H σ W N Q' g => h ad Hb H σ W N Q' fun v x μ1 ad1 Hb1 H1 ⟨d, hd, hs, hn, hdp, hz, q⟩ s1 W1 r1 => g v x μ1 ad1 Hb1 H1 (tap_nil fun ad Hb H vs W r0 Q' g => by
    obtain ⟨v, rfl, r⟩ := vals1 r0
    exact ⟨v, d, rfl, (hd.dp W r).1, hs, hn, hdp, hz, g.now W (x := .sh (.str _)) (.str _) q⟩) s1 W1 r1) hst) (by decide) (by decide) hst rfl
theorem tep_eqS {y : Str} (h : TEP X a ρ μ fun x μ1 => EV X b ρ μ1 (.sh (.str y)) ∧ ∃ z, x = .sh (.str z) ∧ Q (.sh (.bl (decide (z = y)))) μ1) : TEP X (.Compare a [.Eq] [b] pos) ρ μ Q :=
  tep_cmp op_eq (nomark _) (fun ad Hb H σ W N Q' g => h ad Hb H σ W N Q' fun v x μ1 ad1 Hb1 H1 ⟨hb, z, ex, q⟩ s1 W1 r1 => g v x μ1 ad1 Hb1 H1 (hb _ fun ad Hb H v w W r1 r2 Q' k => by
    subst ex
    obtain rfl := Rep.str_inv r1
    obtain rfl := Rep.str_inv r2
    refine ⟨rfl, ?_⟩
    have e : (decide (V.str z = V.str y)) = decide (z = y) := decide_eq_decide.mpr ⟨fun w => by cases w; rfl, fun w => by rw [w]⟩
    rw [e]
    exact k.now W (x := .sh (.bl (decide (z = y)))) (.bl _) q) s1 W1 r1)
theorem tep_makeT {k : Nat} {x : Str} {C : Addr} {Pre : List P → Prop} {Post : List P → P → Prop} (M : Mkr X.prog X.w X.K X.mg X.base k x C Pre Post) (hr : Room (k + 1) X.A) (h : TAP X (e :: es) ρ μ fun zs μ1 => ∃ ps : List P, zs = ps.map .sh ∧ Pre ps ∧ ∀ y, Post ps y → Q (.sh y) μ1) (hg : Gl X x := by rfl) (hdb : (x == ("__debug__" : Str)) = false := by decide)
    (he : starEach (e :: es) X.env = (false, eval e X.env) :: starEach es X.env := by rfl) (hpl : (backTo pos (starEach es X.env)).any (·.1) = false := by rfl) : TEP X (.Call (.Name x p2) (e :: es) [] pos) ρ μ Q := fun ad Hb H σ W N Q' g => by
  obtain ⟨f, fd, ps, hm, mk, hb, F⟩ := M.ok
  refine pe_go (pe_make (E := E0) mk F.plain hr hg hm hb .nil pass0 pa_self hdb he hpl) (h ad Hb H σ W N _ ?_)
  rintro vs ys μ1 ad1 Hb1 H1 ⟨zs, rfl, pre, q⟩ s1 W1 r1 a dx ha hd ne
  rw [List.append_nil]
  exact ⟨a, dx, vs, zs, H1, ad1, Hb1, μ1, rfl, ha, hd, ne, rfl, W1, repEs_sh r1, pre, fun y Hb2 H2 post s2 W2 r2 => ⟨rfl, g _ (.sh y) _ _ _ _ (q y post) (s1.trans s2) W2 r2⟩⟩
end
section
variable {κ α : Type} [DecidableEq κ]
theorem dput_new {d : List (κ × α)} {k : κ} {v : α} (h : dget d k = none) : (dput d k v).length = d.length + 1 := by
  have h1 := congrArg List.length (dput_keys d k v)
  rw [List.length_map] at h1
  rw [h1]
  split
  · rename_i h2
    obtain ⟨q, hq, h3⟩ := List.any_eq_true.mp h2
    have h3 := of_decide_eq_true h3
    have := dget_key.mpr (List.mem_map.mpr ⟨q, hq, h3⟩)
    rw [h] at this
    cases this
  · rw [List.length_append, List.length_map, List.length_singleton]
end
end PV

/-! The law's own: distances, links, sums, fractions, rings. -/
namespace PV
open PySem PySem.Spec PyProof.Rows L2
theorem cutA {α : Type} (xs : List α) (h : 1 ≤ xs.length) : cutP xs (some 1) none = xs.drop 1 := by
  have h0 : HT.sIx xs.length 0 (some 1) = 1 := by
    unfold HT.sIx
    simp
    omega
  have h1 : HT.sIx xs.length xs.length none = xs.length := rfl
  unfold cutP
  rw [h0, h1]
  exact List.take_of_length_le (by simp)
theorem cutB {α : Type} (xs : List α) (d : Nat) : cutP xs none (some (d : Int)) = xs.take (min d xs.length) := by
  have h0 : HT.sIx xs.length 0 none = 0 := rfl
  have h1 : HT.sIx xs.length xs.length (some (d : Int)) = min d xs.length := by
    unfold HT.sIx
    simp
    omega
  unfold cutP
  rw [h0, h1]
  rfl
section
variable {X : Cx} {a b : Expr} {ρ : Rho} {μ : Mu} {Q : E → Mu → Prop} {pos p2 : Pos}
theorem tep_max2 (hc : X.calm = true) (hm : X.mg "max" = none) (h : TEP X a ρ μ fun x μ1 => TEP X b ρ μ1 fun y μ2 => ∃ i j, x = .sh (.int i) ∧ y = .sh (.int j) ∧ Q (.sh (.int (max i j))) μ2) (hg : Gl X "max" := by rfl) (hs : starEach [a, b] X.env = (false, eval a X.env) :: starEach [b] X.env := by rfl) (hs2 : starEach [b] X.env = (false, eval b X.env) :: starEach [] X.env := by rfl) : TEP X (.Call (.Name "max" p2) [a, b] [] pos) ρ μ Q :=
  tep_callB (call_max2 hc) hg hm bo_max (tap_cons (fun ad Hb H σ W N Q' g => h ad Hb H σ W N Q' fun v x μ1 ad1 Hb1 H1 q1 s1 W1 r1 => g v x μ1 ad1 Hb1 H1 (tap_cons (fun ad Hb H σ W N Q' g => q1 ad Hb H σ W N Q' fun v y μ2 ad2 Hb2 H2 ⟨i, j, ex, ey, q2⟩ s2 W2 r2 => g v y μ2 ad2 Hb2 H2 (tap_nil (by
    rw [ex, ey]
    intro ad3 Hb3 H3 vs W3 r0 Q3 g3
    obtain ⟨v, w, rfl, r1, r2⟩ := vals2E r0
    obtain rfl := Rep.int_inv r1
    obtain rfl := Rep.int_inv r2
    refine ⟨i, j, rfl, ?_⟩
    rw [show (if j > i then j else i) = max i j by split <;> omega]
    exact g3.now W3 (x := .sh (.int _)) (.int _) q2)) s2 W2 r2) hs2) s1 W1 r1) hs) (by decide) (by decide) hs (by rw [hs2]; rfl)
theorem tep_sub (h : TEP X a ρ μ fun x μ1 => TEP X b ρ μ1 fun y μ2 => ∃ i j, x = .sh (.int i) ∧ y = .sh (.int j) ∧ Q (.sh (.int (i - j))) μ2) : TEP X (.BinOp a .Sub b pos) ρ μ Q :=
  tep_op op_sub (fun ad Hb H σ W N Q' g => h ad Hb H σ W N Q' fun v x μ1 ad1 Hb1 H1 q1 s1 W1 r1 => g v x μ1 ad1 Hb1 H1 (fun ad Hb H σ W N Q' g => q1 ad Hb H σ W N Q' fun v y μ2 ad2 Hb2 H2 ⟨i, j, ex, ey, q2⟩ s2 W2 r2 => g v y μ2 ad2 Hb2 H2 (by subst ex ey; exact v2_i0 (g := fun i j => .int (i - j)) (fun _ => .int _) q2) s2 W2 r2) s1 W1 r1)
end
/-- drawn distances -/
structure DrawnD (n : Nat) (ds : List Arc) : Prop where
  inn : InN n ds
  len : ds.length ≤ 4
  small : ∀ a ∈ ds, a.2.2.1 ≤ 2 ∧ a.2.2.2 ≤ 30
def S_ndist : PSpec := fun xs μ Q => ∃ js jc N n as, xs = [.pt js, .sh (lnetP n as)] ∧ 1 ≤ n ∧ n ≤ 5 ∧ StrAt js jc N μ ∧ N < 80000000 ∧ ∀ ds μ', DrawnD n ds → Ext2 js jc μ μ' → StrAt js jc (N + 100) μ' → Q (.sh (.lst (ds.map arcP))) μ'
section
variable {g : Bool} {Pr : Program} {w : World} {K : PySem.W.Frag} {mg : Str → Option Value} {base : Heap} {f : Addr} {fd : FuncData} {C : Addr}
theorem sc_law_n_distances : FnScope ["_law_stream", "_law_net", "_law_found", "_law_k", "_law_tokens", "_law_most"] ["_law_stream", "_law_net"] (defScope s_law_n_distances) := ⟨rfl, rfl, rfl, by decide +kernel, rfl, by decide +kernel, by decide +kernel⟩
theorem pick_nats {l : List Nat} {y : P} (h : y ∈ l.map fun m => P.int (m : Nat)) : ∃ m ∈ l, y = .int (m : Nat) := by
  obtain ⟨m, hm, rfl⟩ := List.mem_map.mp h
  exact ⟨m, hm, rfl⟩
theorem c_law_n_distances (F : FnP K "_law_n_distances" "_law_n_distances" s_law_n_distances f fd) (hm : mg "_law_n_distances" = some (.ref f)) (B : Bl mg) (c1 : Ct g Pr w K mg base 1 "_law_draw" S_draw) (c2 : Ct g Pr w K mg base 2 "_law_pick" S_pick) : Ct g Pr w K mg base 3 "_law_n_distances" S_ndist := by
  refine ct_of F hm sc_law_n_distances (fun _ _ _ _ _ _ us hl => match us, hl with | [_, _], _ => rfl) (by rintro _ _ _ ⟨js, jc, N, n, as, rfl, _⟩; rfl) fun cdv A outer s H E hr xs μ Q hS => ?_
  obtain ⟨js, jc, N, n, as, rfl, hn1, hn5, hA, hN, q⟩ := hS
  have nd := sc_law_n_distances.nd
  have hl := hA.lt
  have hr1 := hr.mono (j := 1) (by decide)
  have hr2 := hr.mono (j := 2) (by decide)
  let R : Option PV.E → Option PV.E → Option PV.E → Rho := fun a b c => [some (.pt js), some (.sh (lnetP n as)), some (.pt μ.length), a, b, c]
  refine tss_cons (tsp_setP 2 nd (tep_lstC (tap_nil ⟨by decide, ?_⟩)))
  refine tss_cons (tsp_for [3] (tip_range1 B.range (tep_draw c1 hr1 (m := 5) (ev_name 0) ev_int (hA.app _) (by omega) (by decide) (by decide) fun cnt μ3 hcnt b3 s3 => ⟨cnt, rfl, by omega,
    fun i ρ4 μ4 => (∃ a b c, ρ4 = R a b c) ∧ ∃ ds : List Arc, μ4[μ.length]? = some (some (.lst ((ds.map arcP).map .sh))) ∧ StrAt js jc (N + 10 + 10 * i) μ4 ∧ Ext2 js jc μ μ4 ∧ μ4.length ≥ μ.length + 1 ∧ ds.length = i ∧ InN n ds ∧ (∀ a ∈ ds, a.2.2.1 ≤ 2 ∧ a.2.2.2 ≤ 30), ?_, fun _ _ _ _ _ => trivial, ?_, ?_⟩)) (fun _ _ h => h.elim) rfl (by intro _; rfl))
  · refine ⟨⟨none, none, none, rfl⟩, [], ?_, s3.mono (by omega), (Ext2.app js jc μ _).trans b3.ext, by rw [b3.len]; simp, rfl, fun a h => absurd h (by simp), fun a h => absurd h (by simp)⟩
    rw [b3.at_ μ.length (by omega) (by omega), List.getElem?_append_right (Nat.le_refl _), Nat.sub_self]
    rfl
  · rintro i x ρ4 μ4 hx ⟨⟨a, b, c, rfl⟩, ds, hC, hS4, hX4, hlen4, hdsl, hin, hsm⟩
    have hi : i < cnt := by
      have := (List.getElem?_eq_some_iff.mp hx).1
      simpa using this
    refine tgp_name 3 ?_ (by decide) nd rfl (.inl rfl) (.inl rfl)
    refine tss_cons (tsp_par2A 4 5 nd (tap_cons (tep_pick c2 hr2 (ys := [0, 0, 1, 1, 2].map fun m : Nat => P.int (m : Nat)) (ev_name 0) (ev_lst (eas_cons ev_int (eas_cons ev_int (eas_cons ev_int (eas_cons ev_int (eas_cons ev_int eas_nil)))))) hS4 (by omega) (by decide) (by decide) fun y μ5 hy b5 s5 => tap_cons (tep_pick c2 hr2 (ys := [0, 1, 2, 3, 5, 8, 12, 20].map fun m : Nat => P.int (m : Nat)) (ev_name 0) (ev_lst (eas_cons ev_int (eas_cons ev_int (eas_cons ev_int (eas_cons ev_int (eas_cons ev_int (eas_cons ev_int (eas_cons ev_int (eas_cons ev_int eas_nil))))))))) s5 (by omega) (by decide) (by decide) fun z μ6 hz b6 s6 => tap_nil ⟨_, _, rfl, ?_⟩))))
    obtain ⟨t, ht, rfl⟩ := pick_nats hy
    obtain ⟨m, hmm, rfl⟩ := pick_nats hz
    have ht2 : t ≤ 2 := by simp at ht; omega
    have hm2 : m ≤ 30 := by simp at hmm; omega
    have b46 := b5.trans b6
    have hC6 : μ6[μ.length]? = some (some (.lst ((ds.map arcP).map .sh))) := (b46.at_ _ (by omega) (by omega)).trans hC
    refine tss_one (tsp_expr (tep_append ((ev_name 2) _ ⟨μ.length, _, rfl, hC6, tep_tup (tap_cons (tep_draw c1 hr1 (m := n) (ev_name 0) (ev_ixT (xs := [.int (n : Nat), .lst (as.map arcP)]) (ev_name 1) ev_int rfl) s6 (by omega) (by omega) (by omega) fun one μ7 h7 b7 s7 => tap_cons (tep_draw c1 hr1 (m := n) (ev_name 0) (ev_ixT (xs := [.int (n : Nat), .lst (as.map arcP)]) (ev_name 1) ev_int rfl) s7 (by omega) (by omega) (by omega) fun other μ8 h8 b8 s8 => tap_consV (ev_name 4) (tap_consV (ev_name 5) (tap_nil ?_)))))⟩)))
    have b48 : But2 js jc μ4 μ8 := b46.trans (b7.trans b8)
    have hC8 : μ8[μ.length]? = some (some (.lst ((ds.map arcP).map .sh))) := (b48.at_ _ (by omega) (by omega)).trans hC
    have hl8 := b48.len
    refine ⟨arcL (one, other, t, m), rfl, by simp [arcL], _, hC8, by rw [List.length_map, List.length_map]; omega, ⟨_, _, _, rfl⟩, ds ++ [(one, other, t, m)], ?_, (s8.mono (by omega)).set (by omega) (by omega) _, ⟨by rw [List.length_set]; have := hX4.len; omega, fun i2 h1 h2 h3 => ?_⟩, by rw [List.length_set]; omega, by simp [hdsl], fun a ha => ?_, fun a ha => ?_⟩
    · rw [List.getElem?_set_self (by omega), List.map_append, List.map_append]
      rfl
    · rw [List.getElem?_set_ne (by omega), b48.at_ _ h2 h3]
      exact hX4.at_ i2 h1 h2 h3
    · rcases List.mem_append.mp ha with z | z
      · exact hin a z
      · rw [List.mem_singleton.mp z]; exact ⟨h7, h8⟩
    · rcases List.mem_append.mp ha with z | z
      · exact hsm a z
      · rw [List.mem_singleton.mp z]; exact ⟨ht2, hm2⟩
  · rintro ρ4 μ4 ⟨⟨a, b, c, rfl⟩, ds, hC, hS4, hX4, hlen4, hdsl, hin, hsm⟩
    simp only [List.length_map, List.length_range] at hdsl hS4
    refine tss_share μ.length (zs := ds.map arcP) (R := [some (.pt js), some (.sh (lnetP n as)), some (.sh (.lst (ds.map arcP))), a, b, c]) hC rfl ?_ ?_
    · intro i2 x2' hx2
      match i2, hx2 with
      | 0, h => exact .inl h
      | 1, h => exact .inl h
      | 2, h => cases h; exact .inr ⟨rfl, rfl⟩
      | i2 + 3, h => exact .inl h
    · refine tss_one (tsp_retV (ev_name 2) (q ds _ ⟨hin, by omega, hsm⟩ ⟨by rw [List.length_set]; exact hX4.len, fun i2 h1 h2 h3 => ?_⟩ ((hS4.mono (by omega)).set (by omega) (by omega) _)))
      rw [List.getElem?_set_ne (by omega)]
      exact hX4.at_ i2 h1 h2 h3
theorem sc_law_n_all_links : FnScope ["_law_net", "_law_distances", "_law_one", "_law_other", "_law_tokens", "_law_most"] ["_law_net", "_law_distances"] (defScope s_law_n_all_links) := ⟨rfl, rfl, rfl, by decide +kernel, rfl, by decide +kernel, by decide +kernel⟩
def F_law_n_all_links (zs : List P) (y : P) : Prop := ∃ n as ds, zs = [lnetP n as, .lst (ds.map arcP)] ∧ n ≤ 20 ∧ as.length ≤ 1000 ∧ ds.length ≤ 1000 ∧ y = rgP (allLk n as ds)
theorem c_law_n_all_links (F : FnP K "_law_n_all_links" "_law_n_all_links" s_law_n_all_links f fd) (hm : mg "_law_n_all_links" = some (.ref f)) (c1 : Ct g Pr w K mg base 1 "_law_n_links" (SF F_law_n_links)) : Ct g Pr w K mg base 2 "_law_n_all_links" (SF F_law_n_all_links) := by
  refine ct_pure F hm sc_law_n_all_links (fun _ _ _ _ _ _ us hl => match us, hl with | [_, _], _ => rfl) (by rintro _ _ ⟨n, as, ds, rfl, _⟩; rfl) fun cdv A outer s H E hr zs y hF => ?_
  obtain ⟨n, as, ds, rfl, hn, hl, hdl, rfl⟩ := hF
  have nd := sc_law_n_all_links.nd
  refine tss_one (tsp_retV (EV.is (ev_cat (ev_call c1 (hr.mono (by decide)) (eas_cons (ev_name 0) eas_nil) ⟨n, as, rfl, hn, hl, rfl⟩) (ev_lc0 ds arcP (fun a => [some (.sh (lnetP n as)), some (.sh (.lst (ds.map arcP))), some (.sh (.int (a.1 : Nat))), some (.sh (.int (a.2.1 : Nat))), some (.sh (.int (a.2.2.1 : Nat))), some (.sh (.int (a.2.2.2 : Nat)))]) (fun a => lkP (backLk a)) [2, 3, 4, 5] [("_law_one", 2), ("_law_other", 3), ("_law_tokens", 4), ("_law_most", 5)] rfl nd (blkOk_by (by kernel_rfl)) (ei_list (ev_name 1)) (by omega) (fun a _ => tgb_tup ["_law_one", "_law_other", "_law_tokens", "_law_most"] [2, 3, 4, 5] (xs := arcL a) nd (.inr rfl))
    (fun a _ s H C cl fp => ev_tup (ys := [.int (a.2.1 : Nat), .int (a.1 : Nat), .int (0 - (a.2.2.1 : Int)), .int (0 - (a.2.2.2 : Int))]) (eas_cons (ev_name 3) (eas_cons (ev_name 2) (eas_cons (ev_sub ev_int (ev_name 4)) (eas_cons (ev_sub ev_int (ev_name 5)) eas_nil)))) (Nat.le_of_ble_eq_true rfl))) (by simp [selfArcs]; omega)) (y := .sh (rgP (allLk n as ds))) ?_) (.sh _))
  unfold rgP allLk netLk
  simp only [List.map_append, List.map_map]
  rfl
theorem sc_law_n_sums : FnScope ["_law_ring", "_law_link"] ["_law_ring"] (defScope s_law_n_sums) := ⟨rfl, rfl, rfl, by decide +kernel, rfl, by decide +kernel, by decide +kernel⟩
def F_law_n_sums (zs : List P) (y : P) : Prop := ∃ r, zs = [rgP r] ∧ r.length ≤ 1000 ∧ y = frP (tks r, tok r)
theorem c_law_n_sums (F : FnP K "_law_n_sums" "_law_n_sums" s_law_n_sums f fd) (hm : mg "_law_n_sums" = some (.ref f)) (B : Bl mg) : Ct g Pr w K mg base 1 "_law_n_sums" (SF F_law_n_sums) := by
  refine ct_pure F hm sc_law_n_sums (fun _ _ _ _ _ _ us hl => match us, hl with | [_], _ => rfl) (by rintro _ _ ⟨r, rfl, _⟩; rfl) fun cdv A outer s H E hr zs y hF => ?_
  obtain ⟨r, rfl, hl, rfl⟩ := hF
  have nd := sc_law_n_sums.nd
  refine tss_one (tsp_retV (ev_tup (ys := [.int (tks r), .int (tok r)]) (eas_cons ?_ (eas_cons ?_ eas_nil))) (.sh _))
  · refine EV.is (ev_sum (ns := r.map fun l => l.2.2.2) rfl B.sum (EV.is (ev_lc0 r lkP (fun l => [some (.sh (rgP r)), some (.sh (lkP l))]) (fun l => .int l.2.2.2) [1] [("_law_link", 1)] rfl nd (blkOk_by (by kernel_rfl)) (ei_list (ev_name 0)) (Nat.le_trans hl (by decide)) (fun a _ => tgb_name 1 nd (by decide) rfl rfl) (fun l _ s H C cl fp => ev_ixT (ev_name 1) ev_int rfl)) (by rw [List.map_map]; rfl))) rfl
  · refine EV.is (ev_sum (ns := r.map fun l => l.2.2.1) rfl B.sum (EV.is (ev_lc0 r lkP (fun l => [some (.sh (rgP r)), some (.sh (lkP l))]) (fun l => .int l.2.2.1) [1] [("_law_link", 1)] rfl nd (blkOk_by (by kernel_rfl)) (ei_list (ev_name 0)) (Nat.le_trans hl (by decide)) (fun a _ => tgb_name 1 nd (by decide) rfl rfl) (fun l _ s H C cl fp => ev_ixT (ev_name 1) ev_int rfl)) (by rw [List.map_map]; rfl))) rfl
theorem sc_law_is_less : FnScope ["_law_one", "_law_other"] ["_law_one", "_law_other"] (defScope s_law_is_less) := ⟨rfl, rfl, rfl, by decide +kernel, rfl, by decide +kernel, by decide +kernel⟩
theorem c_law_is_less (F : FnP K "_law_is_less" "_law_is_less" s_law_is_less f fd) (hm : mg "_law_is_less" = some (.ref f)) : Ct g Pr w K mg base 1 "_law_is_less" (SF F_is_below) := by
  refine ct_pure F hm sc_law_is_less (fun _ _ _ _ _ _ us hl => match us, hl with | [_, _], _ => rfl) (by rintro _ _ ⟨a, b, rfl, _⟩; rfl) fun cdv A outer s H E hr zs y hF => ?_
  obtain ⟨p, q, rfl, hp, hq, rfl⟩ := hF
  have hp1 := hp.b1
  have hq1 := hq.b1
  exact tss_one (tsp_retV (ev_lt (ev_mul (ev_ixT (ev_name 0) ev_int rfl) (ev_ixT (ev_name 1) ev_int rfl) (.inl (by omega))) (ev_mul (ev_ixT (ev_name 1) ev_int rfl) (ev_ixT (ev_name 0) ev_int rfl) (.inl (by omega)))) (.sh _))
end
end PV

/-! The law's own: fractions in lowest terms, rings, clashes. -/
namespace PV
open PySem PySem.Spec PyProof.Rows L2
section
variable {g : Bool} {Pr : Program} {w : World} {K : PySem.W.Frag} {mg : Str → Option Value} {base : Heap} {f : Addr} {fd : FuncData} {C : Addr}
theorem sc_law_turned_up : FnScope ["_law_fraction", "_law_top", "_law_bottom", "_law_one", "_law_other"] ["_law_fraction"] (defScope s_law_turned_up) := ⟨rfl, rfl, rfl, by decide +kernel, rfl, by decide +kernel, by decide +kernel⟩
def F_law_turned_up (zs : List P) (y : P) : Prop := ∃ a b : Int, zs = [frP (a, b)] ∧ b ≠ 0 ∧ -1000000 ≤ b ∧ b ≤ 1000000 ∧ y = frP (lowP a b)
theorem low_turn (a b : Int) (h : b ≠ 0) : lowP a b = ((if 0 < b then a else 0 - a) / gcdI a b, (if 0 < b then b else 0 - b) / gcdI a b) := by
  unfold lowP
  by_cases hb : 0 < b
  · rw [if_pos hb, if_pos hb, if_pos hb]
  · rw [if_neg hb, if_neg hb, if_neg hb, Int.zero_sub, Int.zero_sub, Int.zero_sub, Int.ediv_neg, Int.ediv_neg, Int.neg_ediv_of_dvd (gcd_dvd1 a b), Int.neg_ediv_of_dvd (gcd_dvd2 a b)]
theorem c_law_turned_up (F : FnP K "_law_turned_up" "_law_turned_up" s_law_turned_up f fd) (hm : mg "_law_turned_up" = some (.ref f)) (hab : mg "abs" = none) : Ct g Pr w K mg base 1 "_law_turned_up" (SF F_law_turned_up) := by
  refine ct_pure F hm sc_law_turned_up (fun _ _ _ _ _ _ us hl => match us, hl with | [_], _ => rfl) (by rintro _ _ ⟨a, b, rfl, _⟩; rfl) fun cdv A outer s H E hr zs y hF => ?_
  obtain ⟨a, b, rfl, h0, h1, h2, rfl⟩ := hF
  have nd := sc_law_turned_up.nd
  rw [low_turn a b h0]
  generalize ht : (if 0 < b then a else 0 - a) = t
  generalize hbt : (if 0 < b then b else 0 - b) = bt
  have hb1 : 0 < bt ∧ bt ≤ 1000000 := by rw [← hbt]; split <;> omega
  have hgg : gcdI a b = (Nat.gcd t.natAbs bt.natAbs : Nat) := by
    unfold gcdI
    rw [← ht, ← hbt]
    by_cases hb : 0 < b
    · rw [if_pos hb, if_pos hb]
    · rw [if_neg hb, if_neg hb, Int.zero_sub, Int.zero_sub, Int.natAbs_neg, Int.natAbs_neg]
  refine tss_cons (tsp_asgA [1, 2] (x := .sh (frP (t, bt))) (ev_if (d := decide (0 < b)) (et_gt (ev_ixT (xs := [.int a, .int b]) (ev_name 0) ev_int rfl) ev_int) (fun h => EV.is (ev_name 0) (by rw [← ht, ← hbt, if_pos (of_decide_eq_true h), if_pos (of_decide_eq_true h)])) fun h => EV.is (ev_tup (ys := [.int (0 - a), .int (0 - b)]) (eas_cons (ev_sub ev_int (ev_ixT (xs := [.int a, .int b]) (ev_name 0) ev_int rfl)) (eas_cons (ev_sub ev_int (ev_ixT (xs := [.int a, .int b]) (ev_name 0) ev_int rfl)) eas_nil))) (by rw [← ht, ← hbt, if_neg (of_decide_eq_false h), if_neg (of_decide_eq_false h)]; rfl)) (tgp_names ["_law_top", "_law_bottom"] [1, 2] nd (.inr rfl) rfl ?_))
  refine tss_cons (tsp_par2A 3 4 nd (tap_consV (EV.is (ev_abs hab (ev_name 1)) (y := .sh (.int (t.natAbs : Nat))) (by rw [show (if t < 0 then -t else t) = ((t.natAbs : Nat) : Int) by split <;> omega])) (tap_consV (EV.is (ev_name 2) (y := .sh (.int (bt.natAbs : Nat))) (by rw [show ((bt.natAbs : Nat) : Int) = bt by omega])) (tap_nil ⟨_, _, rfl, ?_⟩))))
  refine tss_cons (tsp_whileP (fun m ρ2 μ2 => μ2 = [] ∧ ∃ x y : Nat, m = x ∧ Nat.gcd x y = Nat.gcd t.natAbs bt.natAbs ∧ ρ2 = [some (.sh (frP (a, b))), some (.sh (.int t)), some (.sh (.int bt)), some (.sh (.int (x : Nat))), some (.sh (.int (y : Nat)))]) t.natAbs ⟨rfl, t.natAbs, bt.natAbs, rfl, rfl, rfl⟩ ?_)
  rintro m ρ2 μ2 ⟨rfl, x, y, rfl, hg, rfl⟩
  refine (et_gt (ev_name 3) ev_int) _ ?_
  by_cases hx : m = 0
  · subst hx
    rw [if_neg (by decide)]
    rw [Nat.gcd_zero_left] at hg
    have hgp := gcd_pos (a := a) h0
    have hle : Nat.gcd t.natAbs bt.natAbs ≤ bt.natAbs := Nat.gcd_le_right _ (by omega)
    have ey : gcdI a b = (y : Int) := by rw [hgg, hg]
    rw [ey]
    rw [ey] at hgp
    exact tss_one (tsp_retV (ev_tup (eas_cons (ev_fdiv (ev_name 1) (ev_name 4) ⟨hgp, by omega⟩) (eas_cons (ev_fdiv (ev_name 2) (ev_name 4) ⟨hgp, by omega⟩) eas_nil))) (.sh _))
  · rw [if_pos (by simp; omega)]
    refine tss_one (tsp_par2A 3 4 nd (tap_consV (ev_mod (ev_name 4) (ev_name 3) (by omega)) (tap_consV (ev_name 3) (tap_nil ⟨_, _, rfl, ?_⟩))))
    refine ⟨y % m, Nat.mod_lt _ (by omega), rfl, y % m, m, rfl, ?_, ?_⟩
    · rw [← hg]
      exact (Nat.gcd_rec m y).symm
    · rfl
theorem sc_law_n_is_ring : FnScope ["_law_links", "_law_thing", "_law_link", "_law_one", "_law_other"] ["_law_links", "_law_thing"] (defScope s_law_n_is_ring) := ⟨rfl, rfl, rfl, by decide +kernel, rfl, by decide +kernel, by decide +kernel⟩
def F_law_n_is_ring (zs : List P) (y : P) : Prop := ∃ (ls ls' r : List Lk) (a : Nat), zs = [rgP ls, rgP r] ∧ Ring ls' a r ∧ (∀ l ∈ r, l ∈ ls) ∧ r.length < 64 ∧ y = .bl true
/-- each link's end is where the next one begins -/
theorem ring_next {ls : List Lk} {a : Nat} {r : List Lk} (R : Ring ls a r) : (r.drop 1 ++ r.take 1).map (·.1) = r.map (·.2.1) := by
  have h1 := path_first R.path
  cases r with
  | nil => rfl
  | cons l t =>
    have e : l.1 = a := R.path.2.1
    show (t ++ [l]).map (·.1) = _
    have h2 : l.1 :: (outs t ++ [a]) = a :: (l :: t).map (·.2.1) := h1
    rw [List.map_append, ← (List.cons.inj h2).2]
    show outs t ++ [l.1] = outs t ++ [a]
    rw [e]
theorem c_law_n_is_ring (F : FnP K "_law_n_is_ring" "_law_n_is_ring" s_law_n_is_ring f fd) (hm : mg "_law_n_is_ring" = some (.ref f)) (B : Bl mg) (hset : mg "set" = none) : Ct g Pr w K mg base 1 "_law_n_is_ring" (SF F_law_n_is_ring) := by
  refine ct_pure F hm sc_law_n_is_ring (fun _ _ _ _ _ _ us hl => match us, hl with | [_, _], _ => rfl) (by rintro _ _ ⟨ls, ls', r, a, rfl, _⟩; rfl) fun cdv A outer s H E hr zs y hF => ?_
  obtain ⟨ls, ls', r, a, rfl, Rg, hin, hl, rfl⟩ := hF
  have nd := sc_law_n_is_ring.nd
  have hl2 : r.length ≤ 100000 := by omega
  have hlen : (r.map lkP).length = r.length := List.length_map _
  have hpos : 0 < r.length := List.length_pos_iff.mpr Rg.ne
  let R : Option PV.E → Option PV.E → Option PV.E → Rho := fun a b c => [some (.sh (rgP ls)), some (.sh (rgP r)), a, b, c]
  refine tss_cons (tsp_ifE (d := false) (et_w (ew_or (p := false) (r := false) (et_not (p := true) (et_val (ev_isi (T := "list") (r := true) B.isinstance (ev_name 1) (ev_ty B.list bo_list) rfl rfl))) fun _ => ew_or (p := false) (r := false) (ET.is (et_eqD hr.u64 (ev_name 1) (ev_lst (ys := []) eas_nil) (.sh (pd_rows (n := 0) r lkI) (by decide)) (.sh (pd_nil (n := 0)) (by decide))) (by rw [eqv_nil]; cases r with | nil => exact absurd rfl Rg.ne | cons _ _ => rfl)) fun _ => ew_or1 (et_not (p := true) (et_val (EV.is (ev_all (bs := r.map fun _ => true) rfl B.all (EV.is (ev_lc0 r lkP (fun l => R (some (.sh (lkP l))) none none) (fun _ => .bl true) [2] [("_law_link", 2)] rfl nd (blkOk_by (by kernel_rfl)) (ei_list (ev_name 1)) hl2 (fun a _ => tgb_name 2 nd (by decide) rfl rfl)
    (fun l _ s H C cl fp => ev_isi (T := "tuple") (r := true) B.isinstance (ev_name 2) (ev_ty B.tuple bo_tuple) rfl rfl)) (by rw [List.map_map]; rfl))) (by simp)))))) (fun h => nomatch h) fun _ => tss_nil ?_)
  have hndI : (r.map fun l => (l.1 : Int)).Nodup := by
    rw [show (r.map fun l => (l.1 : Int)) = (outs r).map fun e => ((e : Nat) : Int) by unfold outs; rw [List.map_map]; rfl]
    exact List.pairwise_map.mpr (Rg.nd.imp fun {a b} h z => h (by omega))
  refine tss_cons (tsp_ifE (d := false) (et_w (ew_or (p := false) (r := false) (et_not (p := true) (et_val (EV.is (ev_all (bs := r.map fun _ => true) rfl B.all (EV.is (ev_lc0 r lkP (fun l => R (some (.sh (lkP l))) none none) (fun _ => .bl true) [2] [("_law_link", 2)] rfl nd (blkOk_by (by kernel_rfl)) (ei_list (ev_name 1)) hl2 (fun a _ => tgb_name 2 nd (by decide) rfl rfl)
    (fun l hlr s H C cl fp => EV.is (ev_inR ls lkI (ns := lkI l) hr.u65 (ev_name 2) (ev_name 0)) (by rw [decide_eq_true (List.mem_map.mpr ⟨l, hin l hlr, rfl⟩)]))) (by rw [List.map_map]; rfl))) (by simp)))) fun _ => ew_or1 (ET.is (et_neI (ev_lenSet (ns := r.map fun l => (l.1 : Int)) B.len hset (EV.is (ev_lc0 r lkP (fun l => R (some (.sh (lkP l))) none none) (fun l => .int (l.1 : Nat)) [2] [("_law_link", 2)] rfl nd (blkOk_by (by kernel_rfl)) (ei_list (ev_name 1)) hl2 (fun a _ => tgb_name 2 nd (by decide) rfl rfl) (fun l _ s H C cl fp => ev_ixT (ev_name 2) ev_int rfl)) (by rw [List.map_map]; rfl)) (by rw [List.length_map]; exact hl) hndI) (ev_len B.len (ev_name 1))) (by rw [List.length_map, hlen]; simp)))) (fun h => nomatch h) fun _ => tss_nil ?_)
  have hn := ring_next Rg
  have hnl : (r.drop 1 ++ r.take 1).length = r.length := by
    have := congrArg List.length hn
    rw [List.length_map, List.length_map] at this
    exact this
  have e1 : cutP (r.map lkP) (some 1) none = (r.drop 1).map lkP := by rw [cutA _ (by rw [hlen]; exact hpos), List.map_drop]
  have e2 : cutP (r.map lkP) none (some 1) = (r.take 1).map lkP := by
    rw [show (some 1 : Option Int) = some ((1 : Nat) : Int) from rfl, cutB, hlen, Nat.min_eq_left hpos, List.map_take]
  refine tss_one (tsp_retV (EV.is (ev_all (bs := (List.range r.length).map fun _ => true) rfl B.all (EV.is (ev_lc0 (List.range r.length) (fun i => .tup [(r.map lkP).getD i .non, ((r.drop 1 ++ r.take 1).map lkP).getD i .non]) (fun i => R none (some (.sh ((r.map lkP).getD i .non))) (some (.sh (((r.drop 1 ++ r.take 1).map lkP).getD i .non)))) (fun _ => .bl true) [3, 4] [("_law_one", 3), ("_law_other", 4)] rfl nd (blkOk_by (by kernel_rfl))
    (EI.is (ei_zip (xs := r.map lkP) (ys := (r.drop 1 ++ r.take 1).map lkP) B.zip (ev_name 1) (EV.is (ev_cat (xs := (r.drop 1).map lkP) (ys := (r.take 1).map lkP) (EV.is (ev_slice (lo := some _) (hi := none) (i := some 1) (j := none) (ev_name 1) ev_int trivial) (by rw [e1])) (EV.is (ev_slice (lo := none) (hi := some _) (i := none) (j := some 1) (ev_name 1) trivial ev_int) (by rw [e2])) (by rw [List.length_map, List.length_map]; rw [List.length_append] at hnl; omega)) (by rw [← List.map_append]))) (by rw [List.length_map, List.length_map, hnl, Nat.min_self])) (by rw [List.length_range]; exact hl2) (fun i _ => tgb_tup ["_law_one", "_law_other"] [3, 4] nd (.inr rfl))
    (fun i hi s H C cl fp => ?_)) (by rw [List.map_map]; rfl))) (by simp)) (.sh _))
  have hi := List.mem_range.mp hi
  have hi2 : i < (r.drop 1 ++ r.take 1).length := by rw [hnl]; exact hi
  have g1 : (r.map lkP).getD i .non = lkP r[i] := by rw [List.getD_eq_getElem?_getD, List.getElem?_map, List.getElem?_eq_getElem hi]; rfl
  have g2 : ((r.drop 1 ++ r.take 1).map lkP).getD i .non = lkP (r.drop 1 ++ r.take 1)[i] := by rw [List.getD_eq_getElem?_getD, List.getElem?_map, List.getElem?_eq_getElem hi2]; rfl
  have g3 : ((r.drop 1 ++ r.take 1)[i]).1 = r[i].2.1 := by
    have := congrArg (fun l : List Nat => l[i]?) hn
    simp only [List.getElem?_map, List.getElem?_eq_getElem hi, List.getElem?_eq_getElem hi2, Option.map_some, Option.some.injEq] at this
    exact this
  rw [g1, g2]
  exact EV.is (ev_eqI (i := (r[i].2.1 : Nat)) (j := ((r.drop 1 ++ r.take 1)[i].1 : Nat)) (ev_ixT (ev_name 3) ev_int rfl) (ev_ixT (ev_name 4) ev_int rfl)) (by rw [g3]; simp)
theorem sc_law_n_asks : FnScope ["_law_ring", "_law_ticks", "_law_tokens"] ["_law_ring"] (defScope s_law_n_asks) := ⟨rfl, rfl, rfl, by decide +kernel, rfl, by decide +kernel, by decide +kernel⟩
theorem c_law_n_asks (F : FnP K "_law_n_asks" "_law_n_asks" s_law_n_asks f fd) (hm : mg "_law_n_asks" = some (.ref f)) (c1 : Ct g Pr w K mg base 1 "_law_n_sums" (SF F_law_n_sums)) (c2 : Ct g Pr w K mg base 1 "_law_turned_up" (SF F_law_turned_up)) : Ct g Pr w K mg base 2 "_law_n_asks" (SF F_asked) := by
  refine ct_pure F hm sc_law_n_asks (fun _ _ _ _ _ _ us hl => match us, hl with | [_], _ => rfl) (by rintro _ _ ⟨r, rfl, _⟩; rfl) fun cdv A outer s H E hr zs y hF => ?_
  obtain ⟨r, rfl, hr1, h0, rfl⟩ := hF
  have nd := sc_law_n_asks.nd
  have h1 := hr1.to
  refine tss_cons (tsp_asgA [1, 2] (ev_call c1 hr (eas_cons (ev_name 0) eas_nil) ⟨r, rfl, hr1.len, rfl⟩) (tgp_names ["_law_ticks", "_law_tokens"] [1, 2] nd (.inr rfl) rfl ?_))
  refine tss_one (tsp_retV (ev_if (d := true) (ET.is (et_neI (ev_name 2) ev_int) (by simp [h0])) (fun _ => ev_call c2 hr (eas_cons (ev_tup (ys := [.int (tks r), .int (tok r)]) (eas_cons (ev_name 1) (eas_cons (ev_name 2) eas_nil)) (Nat.le_of_ble_eq_true rfl)) eas_nil) ⟨tks r, tok r, rfl, h0, by omega, by omega, rfl⟩) fun h => nomatch h) (.sh _))
end
end PV

/-! The law's own: a told clash is right. -/
namespace PV
open PySem PySem.Spec PyProof.Rows L2
def clP : List Lk × Option (List Lk × List Lk) → P
  | (r, none) => .tup [rgP r, .non, .non]
  | (lo, some (w, hi)) => .tup [rgP lo, rgP w, rgP hi]
section
variable {g : Bool} {Pr : Program} {w : World} {K : PySem.W.Frag} {mg : Str → Option Value} {base : Heap} {f : Addr} {fd : FuncData} {C : Addr}
theorem sc_law_clash_right : FnScope ["_law_links", "_law_clash", "_law_low", "_law_way", "_law_high", "_law_begins", "_law_ends", "_law_link", "_law_event", "_law_one", "_law_other"] ["_law_links", "_law_clash"] (defScope s_law_clash_right) := ⟨rfl, rfl, rfl, by decide +kernel, rfl, by decide +kernel, by decide +kernel⟩
def F_clash_right (zs : List P) (y : P) : Prop := ∃ n ls W c, zs = [rgP ls, clP c] ∧ LkOk n W ∧ HasOrd n W ∧ (∀ l ∈ W, l ∈ ls) ∧ ls.length ≤ 1000 ∧ clashL n W = some c ∧ y = .bl true
theorem c_law_clash_right (F : FnP K "_law_clash_right" "_law_clash_right" s_law_clash_right f fd) (hm : mg "_law_clash_right" = some (.ref f)) (B : Bl mg) (c1 : Ct g Pr w K mg base 1 "_law_n_is_ring" (SF F_law_n_is_ring)) (c2 : Ct g Pr w K mg base 1 "_law_n_sums" (SF F_law_n_sums)) (c3 : Ct g Pr w K mg base 2 "_law_n_asks" (SF F_asked)) (c4 : Ct g Pr w K mg base 1 "_law_is_less" (SF F_is_below)) :
    Ct g Pr w K mg base 3 "_law_clash_right" (SF F_clash_right) := by
  refine ct_pure F hm sc_law_clash_right (fun _ _ _ _ _ _ us hl => match us, hl with | [_, _], _ => rfl) (by rintro _ _ ⟨n, ls, W, c, rfl, _⟩; rfl) fun cdv A outer s H E hr zs y hF => ?_
  obtain ⟨n, ls, W, c, rfl, L, ho, hsub, hll, hc, rfl⟩ := hF
  have nd := sc_law_clash_right.nd
  have hin := L.lok.inn
  have hn5 := L.n5
  have hr1 := hr.mono (j := 1) (by decide)
  have hrok := rings_rok L
  have hlen : ∀ {a : Nat} {r : List Lk}, Ring W a r → r.length < 64 := fun Rg => by
    have h := nat_nd_len Rg.nd (n := n) (outs_lt hin Rg.path)
    unfold outs at h
    rw [List.length_map] at h
    omega
  have ring_ct : ∀ {a : Nat} {r : List Lk}, Ring W a r → F_law_n_is_ring [rgP ls, rgP r] (.bl true) := fun {a r} Rg => ⟨ls, W, r, a, rfl, Rg, fun l hl => hsub l (path_mem Rg.path l hl), hlen Rg, rfl⟩
  obtain ⟨lo, o⟩ := c
  obtain ⟨a0, Rlo⟩ : ∃ a, Ring W a lo := by
    cases o with
    | none => exact rings_sound (clash_one hc).1
    | some p => obtain ⟨w, hi⟩ := p; exact (clash_two hin ho hc).1.rl
  have hlo := ring_rok L Rlo
  have c0 : ∃ x y, clP (lo, o) = .tup [rgP lo, x, y] := by
    rcases o with _ | ⟨w, hi⟩
    · exact ⟨_, _, rfl⟩
    · exact ⟨_, _, rfl⟩
  obtain ⟨px, py, ec⟩ := c0
  refine tss_cons (tsp_ifE (d := false) (et_w (ew_or (p := false) (r := false) (et_not (p := true) (et_val (ev_isi (T := "tuple") (r := true) B.isinstance (ev_name 1) (ev_ty B.tuple bo_tuple) (by rw [ec]; rfl) rfl))) fun _ => ew_or (p := false) (r := false) (ET.is (et_neI (ev_lenT (xs := [rgP lo, px, py]) B.len (EV.is (ev_name 1) (by rw [ec]))) ev_int) rfl) fun _ => ew_or1 (et_not (p := true) (et_val (ev_call c1 hr1 (eas_cons (ev_name 0) (eas_cons (ev_ixT (xs := [rgP lo, px, py]) (EV.is (ev_name 1) (by rw [ec])) ev_int rfl) eas_nil)) (ring_ct Rlo)))))) (fun h => nomatch h) fun _ => tss_nil ?_)
  refine tss_cons (tsp_asgA [2, 3, 4] (EV.is (ev_name 1) (y := .sh (.tup [rgP lo, px, py])) (by rw [ec])) (tgp_names ["_law_low", "_law_way", "_law_high"] [2, 3, 4] nd (.inr rfl) rfl ?_))
  rcases o with _ | ⟨way, hi⟩
  · cases ec
    obtain ⟨_, t0, t1⟩ := clash_one hc
    refine tss_cons (tsp_ifE (d := true) (ET.is (et_isN (x := .sh .non) (ev_name 3)) rfl) (fun _ => ?_) fun h => nomatch h)
    exact tss_one (tsp_retV (ev_and (p := true) (r := true) (ev_isN (x := .sh .non) (ev_name 4)) fun _ => ev_and (p := true) (r := true) (EV.is (ev_eqI (ev_ixT (ev_call c2 hr1 (eas_cons (ev_name 2) eas_nil) ⟨lo, rfl, hlo.len, rfl⟩) ev_int rfl) ev_int) (by rw [decide_eq_true t0])) fun _ => ev_one (EV.is (ev_gt (ev_ixT (ev_call c2 hr1 (eas_cons (ev_name 2) eas_nil) ⟨lo, rfl, hlo.len, rfl⟩) ev_int rfl) ev_int) (by rw [decide_eq_true t1]))) (.sh _))
  · cases ec
    obtain ⟨CL, hwl, _, _, _⟩ := clash_two hin ho hc
    obtain ⟨a1, Rhi⟩ := CL.rh
    obtain ⟨p, hp, q, hq, pw⟩ := CL.w
    have hhi := ring_rok L Rhi
    have t0 := CL.tl
    have t1 := CL.th
    let R : Option PV.E → Option PV.E → Option PV.E → Option PV.E → Option PV.E → Option PV.E → Rho := fun a b l e o1 o2 => [some (.sh (rgP ls)), some (.sh (clP (lo, some (way, hi)))), some (.sh (rgP lo)), some (.sh (rgP way)), some (.sh (rgP hi)), a, b, l, e, o1, o2]
    refine tss_cons (tsp_ifE (d := false) (ET.is (et_isN (x := .sh (rgP way)) (ev_name 3)) rfl) (fun h => nomatch h) fun _ => tss_nil ?_)
    refine tss_cons (tsp_ifE (d := false) (et_w (ew_or (p := false) (r := false) (et_not (p := true) (et_val (ev_call c1 hr1 (eas_cons (ev_name 0) (eas_cons (ev_name 4) eas_nil)) (ring_ct Rhi)))) fun _ => ew_or (p := false) (r := false) (et_not (p := true) (et_val (ev_isi (T := "list") (r := true) B.isinstance (ev_name 3) (ev_ty B.list bo_list) rfl rfl))) fun _ => ew_or1 (et_not (p := true) (et_val (EV.is (ev_all (bs := way.map fun _ => true) rfl B.all (EV.is (ev_lc0 way lkP (fun l => R none none (some (.sh (lkP l))) none none none) (fun _ => .bl true) [7] [("_law_link", 7)] rfl nd (blkOk_by (by kernel_rfl)) (ei_list (ev_name 3)) (by omega) (fun a _ => tgb_name 7 nd (by decide) rfl rfl)
      (fun l hlr s H C cl fp => EV.is (ev_inR ls lkI (ns := lkI l) hr.u65 (ev_name 7) (ev_name 0)) (by rw [decide_eq_true (List.mem_map.mpr ⟨l, hsub l (path_mem pw l hlr), rfl⟩)]))) (by rw [List.map_map]; rfl))) (by simp)))))) (fun h => nomatch h) fun _ => tss_nil ?_)
    refine tss_cons (tsp_ifE (d := false) (et_w (ew_or (p := false) (r := false) (ET.is (et_le (ev_ixT (ev_call c2 hr1 (eas_cons (ev_name 2) eas_nil) ⟨lo, rfl, hlo.len, rfl⟩) ev_int rfl) ev_int) (decide_eq_false (by omega))) fun _ => ew_or (p := false) (r := false) (ET.is (et_ge (ev_ixT (ev_call c2 hr1 (eas_cons (ev_name 4) eas_nil) ⟨hi, rfl, hhi.len, rfl⟩) ev_int rfl) ev_int) (decide_eq_false (by omega))) fun _ => ew_or1 (et_not (p := true) (et_val (EV.is (ev_call c4 hr1 (eas_cons (ev_call c3 hr (eas_cons (ev_name 4) eas_nil) ⟨hi, rfl, hhi, by omega, rfl⟩) (eas_cons (ev_call c3 hr (eas_cons (ev_name 2) eas_nil) ⟨lo, rfl, hlo, by omega, rfl⟩) eas_nil)) ⟨_, _, rfl, hhi.ask (by omega), hlo.ask (by omega), rfl⟩) (by rw [CL.less])))))) (fun h => nomatch h) fun _ => tss_nil ?_)
    have outsE : ∀ (q : List Lk), (q.map fun l => P.int ((l.1 : Nat) : Int)) = natsP (outs q) := fun q => by unfold natsP outs; rw [List.map_map]; rfl
    refine tss_cons (tsp_parN ["_law_begins", "_law_ends"] [5, 6] nd (tap_consV (EV.is (ev_lc0 lo lkP (fun l => R none none (some (.sh (lkP l))) none none none) (fun l => .int (l.1 : Nat)) [7] [("_law_link", 7)] rfl nd (blkOk_by (by kernel_rfl)) (ei_list (ev_name 2)) (Nat.le_trans hlo.len (by decide)) (fun a _ => tgb_name 7 nd (by decide) rfl rfl) (fun l _ s H C cl fp => ev_ixT (ev_name 7) ev_int rfl)) (y := .sh (.lst (natsP (outs lo)))) (by rw [outsE]))
      (tap_consV (EV.is (ev_lc0 hi lkP (fun l => R none none (some (.sh (lkP l))) none none none) (fun l => .int (l.1 : Nat)) [7] [("_law_link", 7)] rfl nd (blkOk_by (by kernel_rfl)) (ei_list (ev_name 4)) (Nat.le_trans hhi.len (by decide)) (fun a _ => tgb_name 7 nd (by decide) rfl rfl) (fun l _ s H C cl fp => ev_ixT (ev_name 7) ev_int rfl)) (y := .sh (.lst (natsP (outs hi)))) (by rw [outsE])) (tap_nil ⟨rfl, ?_⟩))))
    let bE : Option PV.E := some (.sh (.lst (natsP (outs lo))))
    let eE : Option PV.E := some (.sh (.lst (natsP (outs hi))))
    refine tss_cons (tsp_ifE (d := way.isEmpty) (ET.is (et_eqD hr.u64 (ev_name 3) (ev_lst (ys := []) eas_nil) (.sh (pd_rows (n := 0) way lkI) (by decide)) (.sh (pd_nil (n := 0)) (by decide))) (by rw [eqv_nil]; cases way <;> rfl)) (fun h => ?_) fun h => tss_nil ?_)
    · obtain rfl : way = [] := List.isEmpty_iff.mp h
      have hpq : p = q := pw
      have hlol := hlo.len
      refine tss_one (tsp_retV (EV.is (ev_any (bs := (outs lo).map fun e => decide (e ∈ outs hi)) rfl B.any (EV.is (ev_lc0 (outs lo) (fun e => .int (e : Nat)) (fun e => R bE eE none (some (.sh (.int (e : Nat)))) none none) (fun e => .bl (decide (e ∈ outs hi))) [8] [("_law_event", 8)] rfl nd (blkOk_by (by kernel_rfl)) (ei_nats (ev_name 5)) (by unfold outs; rw [List.length_map]; omega) (fun a _ => tgb_name 8 nd (by decide) rfl rfl)
        (fun e _ s H C cl fp => ev_inN (ev_name 8) (ev_name 6))) (by rw [List.map_map]; rfl))) (y := .sh (.bl true)) ?_) (.sh _))
      congr 2
      rw [List.any_map, List.any_eq_true]
      exact ⟨p, hp, by simp [hpq, hq]⟩
    · have hne : way ≠ [] := fun z => by rw [z] at h; cases h
      have hpos : 0 < way.length := List.length_pos_iff.mpr hne
      have hpf := path_first pw
      have e1 : cutP (way.map lkP) (some 1) none = (way.drop 1).map lkP := by rw [cutA _ (by rw [List.length_map]; exact hpos), List.map_drop]
      refine tss_cons (tsp_ifE (d := false) (et_not (p := true) (et_val (EV.is (ev_all (bs := (List.range (way.length - 1)).map fun _ => true) rfl B.all (EV.is (ev_lc0 (List.range (way.length - 1)) (fun i => .tup [(way.map lkP).getD i .non, ((way.drop 1).map lkP).getD i .non]) (fun i => R bE eE none none (some (.sh ((way.map lkP).getD i .non))) (some (.sh (((way.drop 1).map lkP).getD i .non)))) (fun _ => .bl true) [9, 10] [("_law_one", 9), ("_law_other", 10)] rfl nd (blkOk_by (by kernel_rfl))
        (EI.is (ei_zip (xs := way.map lkP) (ys := (way.drop 1).map lkP) B.zip (ev_name 3) (EV.is (ev_slice (lo := some _) (hi := none) (i := some 1) (j := none) (ev_name 3) ev_int trivial) (by rw [e1]))) (by rw [List.length_map, List.length_map, List.length_drop, Nat.min_eq_right (by omega)])) (by rw [List.length_range]; omega) (fun i _ => tgb_tup ["_law_one", "_law_other"] [9, 10] nd (.inr rfl))
        (fun i hi s H C cl fp => ?_)) (by rw [List.map_map]; rfl))) (by simp)))) (fun h => nomatch h) fun _ => tss_nil ?_)
      · have hi := List.mem_range.mp hi
        have hi1 : i < way.length := by omega
        have hi2 : i + 1 < way.length := by omega
        have g1 : (way.map lkP).getD i .non = lkP way[i] := by rw [List.getD_eq_getElem?_getD, List.getElem?_map, List.getElem?_eq_getElem hi1]; rfl
        have g2 : ((way.drop 1).map lkP).getD i .non = lkP way[i + 1] := by rw [List.getD_eq_getElem?_getD, List.getElem?_map, List.getElem?_drop, Nat.add_comm 1 i, List.getElem?_eq_getElem hi2]; rfl
        have g3 : way[i + 1].1 = way[i].2.1 := by
          have := congrArg (fun l : List Nat => l[i + 1]?) hpf
          rw [List.getElem?_append_left (by unfold outs; rw [List.length_map]; exact hi2), List.getElem?_cons_succ] at this
          unfold outs at this
          rw [List.getElem?_map, List.getElem?_map, List.getElem?_eq_getElem hi2, List.getElem?_eq_getElem hi1] at this
          simpa using this
        rw [g1, g2]
        exact EV.is (ev_eqI (i := (way[i].2.1 : Nat)) (j := (way[i + 1].1 : Nat)) (ev_ixT (ev_name 9) ev_int rfl) (ev_ixT (ev_name 10) ev_int rfl)) (by rw [g3]; simp)
      · have f0 : (way.map lkP)[0]? = some (lkP way[0]) := by rw [List.getElem?_map, List.getElem?_eq_getElem hpos]; rfl
        have f1 : way[0].1 = p := by
          have := congrArg (fun l : List Nat => l[0]?) hpf
          rw [List.getElem?_append_left (by unfold outs; rw [List.length_map]; exact hpos), List.getElem?_cons_zero] at this
          unfold outs at this
          rw [List.getElem?_map, List.getElem?_eq_getElem hpos] at this
          simpa using this
        have f2 : (way.getLast hne).2.1 = q := by
          have := congrArg (fun l : List Nat => l.getLast?) hpf
          rw [List.getLast?_append, List.getLast?_singleton, List.getLast?_cons, List.getLast?_map, List.getLast?_eq_some_getLast hne] at this
          simpa using this.symm
        have f3 : atI (way.map lkP) (-1) = some (lkP (way.getLast hne)) := atI_last (by simpa using hne) (by rw [List.getLast?_map, List.getLast?_eq_some_getLast hne]; rfl)
        refine tss_one (tsp_retV (EV.is (ev_and (p := true) (r := true) (EV.is (ev_inN (i := p) (EV.is (ev_ixT (xs := (lkI way[0]).map .int) (ev_ixL (xs := way.map lkP) (ev_name 3) ev_int (atI_of 0 rfl f0)) ev_int rfl) (y := .sh (.int (p : Nat))) (by rw [← f1])) (ev_name 5)) (by rw [decide_eq_true hp])) fun _ => ev_one (EV.is (ev_inN (i := q) (EV.is (ev_ixT (xs := (lkI (way.getLast hne)).map .int) (ev_ixL (xs := way.map lkP) (ev_name 3) (ev_neg ev_int) f3) ev_int rfl) (y := .sh (.int (q : Nat))) (by rw [← f2])) (ev_name 6)) (by rw [decide_eq_true hq]))) rfl) (.sh _))
end
end PV

/-! The law's own: first starts by raising. -/
namespace PV
open PySem PySem.Spec PyProof.Rows L2
theorem filt_range (lo hi : Int) (h0 : 0 ≤ lo) : ∀ m : Nat, ((List.range m).filter fun (k : Nat) => decide (lo ≤ (k : Int)) && decide ((k : Int) < hi)) = (List.range (min hi m - lo).toNat).map fun (q : Nat) => (lo + q).toNat
  | 0 => by
    have : (min hi ((0 : Nat) : Int) - lo).toNat = 0 := by omega
    rw [this]; rfl
  | m + 1 => by
    rw [List.range_succ, List.filter_append, filt_range lo hi h0 m]
    by_cases c : lo ≤ (m : Int) ∧ (m : Int) < hi
    · have e1 : (min hi ((m + 1 : Nat) : Int) - lo).toNat = (min hi (m : Int) - lo).toNat + 1 := by omega
      have e2 : (lo + ((min hi (m : Int) - lo).toNat : Nat)).toNat = m := by omega
      rw [e1, List.range_succ, List.map_append, List.map_singleton, e2]
      simp [c.1, c.2]
    · have e1 : (min hi ((m + 1 : Nat) : Int) - lo).toNat = (min hi (m : Int) - lo).toNat := by omega
      have e2 : (decide (lo ≤ (m : Int)) && decide ((m : Int) < hi)) = false := by
        by_cases h : lo ≤ (m : Int)
        · have : ¬ (m : Int) < hi := fun z => c ⟨h, z⟩
          simp [this]
        · simp [h]
      rw [e1]
      simp [e2]
theorem ks_eq (U : Nat) (l : Lk) : ksOf U l = (List.range (min (U : Int) (U + l.2.2.1) - max 0 l.2.2.1).toNat).map fun (q : Nat) => (max 0 l.2.2.1 + (q : Int)).toNat := by
  unfold ksOf
  rw [filt_range _ _ (by omega)]
  have : (min (min (U : Int) (U + l.2.2.1)) ((U + 1 : Nat) : Int) - max 0 l.2.2.1).toNat = (min (U : Int) (U + l.2.2.1) - max 0 l.2.2.1).toNat := by omega
  rw [this]
theorem ks_items (U : Nat) (l : Lk) : ((List.range (min (U : Int) (U + l.2.2.1) - max 0 l.2.2.1).toNat).map fun (q : Nat) => PV.E.sh (.int (max 0 l.2.2.1 + (q : Int)))) = (ksOf U l).map fun (k : Nat) => PV.E.sh (.int (k : Nat)) := by
  rw [ks_eq, List.map_map]
  refine List.map_congr_left fun q _ => ?_
  show PV.E.sh (.int (max 0 l.2.2.1 + (q : Int))) = .sh (.int (((max 0 l.2.2.1 + (q : Int)).toNat : Nat) : Int))
  rw [Int.toNat_of_nonneg (by omega)]
theorem gt_setF (f : List Int) (i j : Nat) (v : Int) (h : i < f.length) : gt (f.set i v) j = if i = j then v else gt f j := by
  unfold gt
  rw [List.getD_eq_getElem?_getD, List.getD_eq_getElem?_getD]
  by_cases c : i = j
  · subst c; rw [if_pos rfl, List.getElem?_set_self h]; rfl
  · rw [if_neg c, List.getElem?_set_ne c]
theorem set_gt (f : List Int) (i : Nat) : f.set i (gt f i) = f := by
  unfold gt
  refine List.ext_getElem? fun j => ?_
  rw [List.getElem?_set]
  split
  · rename_i h; subst h
    split
    · rename_i h; rw [List.getD_eq_getElem?_getD, List.getElem?_eq_getElem h]; rfl
    · rename_i h; rw [List.getElem?_eq_none (by omega)]
  · rfl
/-- within a round from f0 on, now at f; b: whether something was raised -/
structure RndI (f0 f : List Int) (b : Bool) : Prop where
  len : f.length = f0.length
  up : ∀ i, gt f0 i ≤ gt f i
  eq : b = false → f = f0
  new : b = true → ∃ i, gt f0 i < gt f i
theorem RndI.raise {f0 f : List Int} {b : Bool} (I : RndI f0 f b) {i : Nat} {v : Int} (hi : i < f.length) (h : gt f i < v) : RndI f0 (f.set i v) true := by
  have h0 := I.up i
  refine ⟨by rw [List.length_set]; exact I.len, fun j => ?_, (fun z => by cases z), fun _ => ⟨i, ?_⟩⟩
  · rw [gt_setF f i j v hi]
    split
    · rename_i e; subst e; omega
    · exact I.up j
  · rw [gt_setF f i i v hi, if_pos rfl]; omega
def rowF (f : List Int) (U e : Nat) : Option Cell := some (.lst ((List.range U).map fun k => .sh (.int (gt f (e * U + k)))))
theorem at_inj {U e k e2 k2 : Nat} (hk : k < U) (hk2 : k2 < U) (h : e * U + k = e2 * U + k2) : e = e2 ∧ k = k2 := by
  obtain ⟨a1, a2⟩ := div_at (e := e) hk
  obtain ⟨b1, b2⟩ := div_at (e := e2) hk2
  rw [h] at a1 a2
  exact ⟨a1.symm.trans b1, a2.symm.trans b2⟩
theorem rowF_set {f : List Int} {U e k e2 : Nat} {v : Int} (hk : k < U) (hi : e * U + k < f.length) : rowF (f.set (e * U + k) v) U e2 = if e2 = e then some (.lst (((List.range U).map fun k => PV.E.sh (.int (gt f (e * U + k)))).set k (.sh (.int v)))) else rowF f U e2 := by
  unfold rowF
  by_cases c : e2 = e
  · subst c
    rw [if_pos rfl]
    congr 2
    refine List.ext_getElem? fun i => ?_
    by_cases ci : k = i
    · subst ci
      rw [List.getElem?_set_self (by simp; exact hk), List.getElem?_map, List.getElem?_range hk, Option.map_some, gt_setF _ _ _ _ hi, if_pos rfl]
    · rw [List.getElem?_set_ne ci, List.getElem?_map, List.getElem?_map]
      cases e : (List.range U)[i]? with
      | none => rfl
      | some j =>
        obtain ⟨_, rfl⟩ := List.getElem?_eq_some_iff.mp e
        simp only [List.getElem_range, Option.map_some]
        rw [gt_setF _ _ _ _ hi, if_neg (by omega)]
  · rw [if_neg c]
    congr 2
    refine List.map_congr_left fun k2 hk2 => ?_
    rw [gt_setF _ _ _ _ hi, if_neg fun z => c (at_inj hk (List.mem_range.mp hk2) z).1.symm]
def rowsP (n U : Nat) (f : List Int) : P := .lst ((List.range n).map fun e => .lst ((List.range U).map fun k => .int (gt f (e * U + k))))
def stP (n U : Nat) (o : Option (List Int)) : P := match o with
  | none => .non
  | some f => rowsP n U f
theorem flatZ (m : Nat) : ((List.replicate ((m : Nat) : Int).toNat [P.int 0]).flatten.map PV.E.sh) = (List.range m).map fun _ => PV.E.sh (.int 0) := by
  rw [Int.toNat_natCast]
  induction m with
  | zero => rfl
  | succ m ih =>
    rw [List.range_succ, List.map_append, ← ih, List.replicate_succ', List.flatten_append, List.map_append]
    rfl
section
variable {g : Bool} {Pr : Program} {w : World} {K : PySem.W.Frag} {mg : Str → Option Value} {base : Heap} {f : Addr} {fd : FuncData} {C : Addr}
theorem sc_law_starts : FnScope ["_law_many", "_law_links", "_law_upto", "_law_found", "_law_rounds", "_law_is_new", "_law_one", "_law_other", "_law_tokens", "_law_ticks", "_law_row", "_law_k", "_law_event"] ["_law_many", "_law_links", "_law_upto"] (defScope s_law_starts) := ⟨rfl, rfl, rfl, by decide +kernel, rfl, by decide +kernel, by decide +kernel⟩
def F_law_starts (zs : List P) (y : P) : Prop := ∃ (n : Nat) (ls : List Lk) (U : Nat), zs = [.int (n : Nat), rgP ls, .int (U : Nat)] ∧ InK n ls ∧ n ≤ 20 ∧ U ≤ 1000 ∧ ls.length ≤ 1000 ∧ (∀ l ∈ ls, -1000 ≤ l.2.2.1 ∧ l.2.2.1 ≤ 1000) ∧ y = stP n U (startsL n U ls)
theorem c_law_starts (F : FnP K "_law_starts" "_law_starts" s_law_starts f fd) (hm : mg "_law_starts" = some (.ref f)) (B : Bl mg) : Ct g Pr w K mg base 1 "_law_starts" (SF F_law_starts) := by
  refine ct_pure F hm sc_law_starts (fun _ _ _ _ _ _ us hl => match us, hl with | [_, _, _], _ => rfl) (by rintro _ _ ⟨n, ls, U, rfl, _⟩; rfl) fun cdv A outer s H E hr zs y hF => ?_
  obtain ⟨n, ls, U, rfl, hin, hn, hU, hll, hsm, rfl⟩ := hF
  have nd := sc_law_starts.nd
  have hnU : n * U ≤ 20000 := Nat.mul_le_mul hn hU
  refine tss_cons (tsp_par3A 3 4 5 nd (tap_cons (tep_lcNew n (.lst ((List.replicate ((U : Nat) : Int).toNat [P.int 0]).flatten.map PV.E.sh)) (fun i => [some (.sh (.int (n : Nat))), some (.sh (rgP ls)), some (.sh (.int (U : Nat))), none, none, none, none, none, none, none, none, none, some (.sh (.int (i : Nat)))]) [("_law_event", 12)] [12] nd (blkOk_by (by kernel_rfl))
    (ei_range1 B.range (ev_name 0) (by omega)) (by simp) (by omega) (fun i x μ2 hx => ?_) (fun i μ2 hi Q q s H C cl fp => tep_repC (xs := [.int 0]) (ev_lst (eas_cons ev_int eas_nil)) (ev_name 2) (by omega) (by simp; omega) q) (tap_consV (ev_int (i := ((0 : Nat) : Int))) (tap_consV ev_bl (tap_nil ⟨_, _, _, rfl, ?_⟩))))))
  · rw [List.getElem?_map] at hx
    cases e : (List.range (n : Int).toNat)[i]? with
    | none => rw [e] at hx; cases hx
    | some j =>
      rw [e] at hx
      cases hx
      obtain ⟨_, rfl⟩ := List.getElem?_eq_some_iff.mp e
      rw [List.getElem_range]
      exact tgb_name 12 nd (by decide) rfl rfl
  rw [flatZ]
  let topC : List (Option Cell) := [some (.lst ((List.range n).map .pt))]
  let R : Nat → Bool → Option PV.E → Option PV.E → Option PV.E → Option PV.E → Option PV.E → Option PV.E → Rho := fun r b o1 o2 o3 o4 o5 o6 => [some (.sh (.int (n : Nat))), some (.sh (rgP ls)), some (.sh (.int (U : Nat))), some (.pt n), some (.sh (.int (r : Nat))), some (.sh (.bl b)), o1, o2, o3, o4, o5, o6, none]
  have top0 : ∀ F : Nat → Option Cell, (rowsM n F topC)[n]? = some (some (.lst ((List.range n).map .pt))) := fun F => rowsM_top (rest := topC) 0
  have ptn : ∀ a, a < n → ((List.range n).map PV.E.pt)[a]? = some (.pt a) := fun a ha => by simp [ha]
  have z0 : ∀ i, gt (List.replicate (n * U) (0 : Int)) i = 0 := fun i => by
    unfold gt
    rw [List.getD_eq_getElem?_getD, List.getElem?_replicate]
    split <;> rfl
  have i0 : rowsM n (fun _ => some (Cell.lst ((List.range U).map fun _ => PV.E.sh (.int 0)))) topC = rowsM n (rowF (List.replicate (n * U) 0) U) topC := rowsM_congr fun e _ => by
    unfold rowF
    congr 2
    exact List.map_congr_left fun k _ => by rw [z0]
  let RU := rollU U ls
  refine tss_cons (tsp_whileP (fun mm ρ2 μ2 => ∃ r b o1 o2 o3 o4 o5 o6 fo, ρ2 = R r b o1 o2 o3 o4 o5 o6 ∧ μ2 = rowsM n (rowF fo U) topC ∧ fo.length = n * U ∧ r ≤ n * U + 2 ∧ mm = n * U + 2 - r ∧ startsL n U ls = if b = true then potGo tickW RU (n * U + 2 - r) fo else some fo) (n * U + 2 - 0)
    ⟨0, true, none, none, none, none, none, none, List.replicate (n * U) 0, rfl, i0, by simp, by omega, rfl, rfl⟩ ?_)
  rintro mm ρ2 μ2 ⟨r, b, o1, o2, o3, o4, o5, o6, f0, rfl, rfl, hlen, hr2, rfl, hst⟩
  refine (et_w (ew_and (et_val (ev_name 5)) fun _ => ew_and1 (et_le (ev_name 4) (ev_add (ev_mul (ev_name 0) (ev_name 2) (.inl ⟨by omega, by omega⟩)) ev_int)))) _ ?_
  by_cases hgo : (b && decide ((r : Int) ≤ (n : Int) * (U : Int) + 1)) = true
  · rw [if_pos hgo]
    rw [Bool.and_eq_true, decide_eq_true_eq] at hgo
    obtain ⟨rfl, hrn⟩ := hgo
    have hrn2 : r ≤ n * U + 1 := by have : ((n * U : Nat) : Int) = (n : Int) * U := Int.natCast_mul _ _; omega
    rw [if_pos rfl] at hst
    refine tss_cons (tsp_par2A 5 4 nd (tap_consV ev_bl (tap_consV (ev_addN (i := r) (j := 1) (ev_name 4) ev_int) (tap_nil ⟨_, _, rfl, ?_⟩))))
    refine tss_one (tsp_forL ls lkP [6, 7, 8, 9] (fun i ρ3 μ3 => ∃ b o1 o2 o3 o4 o5 o6 fo, ρ3 = R (r + 1) b o1 o2 o3 o4 o5 o6 ∧ μ3 = rowsM n (rowF fo U) topC ∧ RndI f0 fo b ∧ fo = (rollU U (ls.take i)).foldl (relax tickW) f0)
      (ei_list (ev_name 1)) ⟨false, o1, o2, o3, o4, o5, o6, f0, rfl, rfl, ⟨rfl, fun _ => Int.le_refl _, fun _ => rfl, fun z => by cases z⟩, rfl⟩ ?_ ?_ (by rw [List.map_map]; rfl))
    · rintro i l ρ3 μ3 hl ⟨b, o1, o2, o3, o4, o5, o6, f1, rfl, rfl, I1, hf1⟩
      have hlm := List.mem_of_getElem? hl
      obtain ⟨ha, hb⟩ := hin l hlm
      obtain ⟨s1, s2⟩ := hsm l hlm
      have tk : rollU U (ls.take (i + 1)) = rollU U (ls.take i) ++ (ksOf U l).map (rollL U l) := by
        rw [List.take_add_one, hl]
        unfold rollU
        rw [List.flatMap_append]
        simp
      rw [tk, List.foldl_append, ← hf1]
      refine tgp_names ["_law_one", "_law_other", "_law_tokens", "_law_ticks"] [6, 7, 8, 9] nd (.inr rfl) rfl ?_
      refine tss_cons (tsp_setV 10 nd (ev_ixC (ev_name 3) (ev_name 7) (top0 _) (atI_of l.2.1 rfl (ptn _ hb))) ?_)
      let R2 : Bool → Option PV.E → Rho := fun b o6 => R (r + 1) b (some (.sh (.int (l.1 : Nat)))) (some (.sh (.int (l.2.1 : Nat)))) (some (.sh (.int l.2.2.1))) (some (.sh (.int l.2.2.2))) (some (.pt l.2.1)) o6
      refine tss_one (tsp_forL (ksOf U l) (fun (k : Nat) => .int (k : Nat)) [11] (fun j ρ4 μ4 => ∃ b o6 fo, ρ4 = R2 b o6 ∧ μ4 = rowsM n (rowF fo U) topC ∧ RndI f0 fo b ∧ fo = (((ksOf U l).take j).map (rollL U l)).foldl (relax tickW) f1)
        (ei_range2 (i := max 0 l.2.2.1) (j := min (U : Int) (U + l.2.2.1)) B.range (ev_max2 rfl B.max ev_int (ev_name 8)) (ev_min2 rfl B.min (ev_name 2) (ev_add (ev_name 2) (ev_name 8))) ⟨by omega, by omega, by omega, by omega⟩) ⟨b, o6, f1, rfl, rfl, I1, rfl⟩ ?_ ?_ (ks_items U l))
      · rintro j k ρ4 μ4 hj ⟨b, o6, fo, rfl, rfl, I, hfo⟩
        obtain ⟨hk0, hk1, hkU⟩ := ksOf_mem.mp (List.mem_of_getElem? hj)
        have tkj : ((ksOf U l).take (j + 1)).map (rollL U l) = ((ksOf U l).take j).map (rollL U l) ++ [rollL U l k] := by rw [List.take_add_one, hj, List.map_append]; rfl
        rw [tkj, List.foldl_append, ← hfo]
        have hfl : fo.length = n * U := I.len.trans hlen
        generalize hk' : ((k : Int) - l.2.2.1).toNat = k'
        have hk'U : k' < U := by omega
        have hib := at_lt hb hkU
        refine tgp_name 11 ?_ (by decide) nd rfl (.inl rfl) (.inl rfl)
        have rget : ∀ {e k : Nat}, k < U → ((List.range U).map fun k => PV.E.sh (.int (gt fo (e * U + k))))[k]? = some (.sh (.int (gt fo (e * U + k)))) := fun {e k} hk => by rw [List.getElem?_map, List.getElem?_range hk]; rfl
        have hrl : relax tickW fo (rollL U l k) = fo.set (l.2.1 * U + k) (max (gt fo (l.2.1 * U + k)) (gt fo (l.1 * U + k') + l.2.2.2)) := by
          unfold relax rollL tickW
          rw [hk']
        refine tss_one (tsp_ifE (d := decide (gt fo (l.2.1 * U + k) < gt fo (l.1 * U + k') + l.2.2.2)) (et_lt (ev_ixC (ev_name 10) (ev_name 11) (rowsM_get hb) (atI_of k rfl (rget hkU))) (ev_add (ev_ixC (ev_ixC (ev_name 3) (ev_name 6) (top0 _) (atI_of l.1 rfl (ptn _ ha))) (ev_sub (ev_name 11) (ev_name 8)) (rowsM_get ha) (atI_of k' (by omega) (rget hk'U))) (ev_name 9))) (fun h => ?_) fun h => tss_nil ?_)
        · have h := of_decide_eq_true h
          refine tss_cons (tsp_seti ((ev_add (ev_ixC (ev_ixC (ev_name 3) (ev_name 6) (top0 _) (atI_of l.1 rfl (ptn _ ha))) (ev_sub (ev_name 11) (ev_name 8)) (rowsM_get ha) (atI_of k' (by omega) (rget hk'U))) (ev_name 9)) _ ((ev_name 10) _ ((ev_name 11) _ ⟨l.2.1, _, k, rfl, rfl, rowsM_get hb, by simp; omega, ?_⟩))))
          have hset : ∀ v : Int, (rowsM n (rowF fo U) topC).set l.2.1 (some (.lst (((List.range U).map fun k => PV.E.sh (.int (gt fo (l.2.1 * U + k)))).set k (.sh (.int v))))) = rowsM n (rowF (fo.set (l.2.1 * U + k) v) U) topC := fun v => by
            rw [rowsM_set hb]
            exact rowsM_congr fun e _ => (rowF_set hkU (by rw [hfl]; exact hib)).symm
          show TSs _ _ _ ((rowsM n (rowF fo U) topC).set l.2.1 (some (.lst (((List.range U).map fun k => PV.E.sh (.int (gt fo (l.2.1 * U + k)))).set k (.sh (.int (gt fo (l.1 * U + k') + l.2.2.2))))))) _
          rw [hset]
          refine tss_one (tsp_setV 5 nd ev_bl ⟨true, _, _, rfl, rfl, I.raise (by rw [hfl]; exact hib) h, ?_⟩)
          show _ = relax tickW fo (rollL U l k)
          rw [hrl, Int.max_eq_right (by omega)]
        · have h := of_decide_eq_false h
          refine ⟨b, _, fo, rfl, rfl, I, ?_⟩
          show _ = relax tickW fo (rollL U l k)
          rw [hrl, Int.max_eq_left (by omega), set_gt]
      · rintro ρ4 μ4 ⟨b, o6, fo, rfl, rfl, I, hfo⟩
        rw [List.take_length] at hfo
        exact ⟨b, _, _, _, _, _, _, fo, rfl, rfl, I, hfo⟩
    · rintro ρ3 μ3 ⟨b, o1, o2, o3, o4, o5, o6, fo, rfl, rfl, I, hfo⟩
      rw [List.take_length] at hfo
      have hrp : roundP tickW RU f0 = fo := hfo.symm
      have e1 : n * U + 2 - r = (n * U + 2 - (r + 1)) + 1 := by omega
      rw [e1] at hst
      unfold potGo at hst
      rw [hrp] at hst
      refine ⟨n * U + 2 - (r + 1), by omega, r + 1, b, _, _, _, _, _, _, fo, rfl, rfl, I.len.trans hlen, by omega, rfl, ?_⟩
      cases b with
      | false =>
        have h1 := I.eq rfl
        rw [if_pos h1] at hst
        rw [if_neg (by decide), hst, h1]
      | true =>
        obtain ⟨i, hi⟩ := I.new rfl
        rw [if_neg (fun z => by rw [z] at hi; omega)] at hst
        rw [if_pos rfl]
        exact hst
  · rw [if_neg hgo]
    refine tss_one (tsp_ret (tep_if ((et_val (ev_name 5)) _ ?_)))
    cases b with
    | true =>
      rw [if_pos rfl]
      rw [if_pos rfl] at hst
      have : n * U + 2 - r = 0 := by
        rw [Bool.true_and, decide_eq_true_eq] at hgo
        have : ((n * U : Nat) : Int) = (n : Int) * U := Int.natCast_mul _ _
        omega
      rw [this] at hst
      rw [hst]
      exact tep_non (.sh _)
    | false =>
      rw [if_neg (by decide)]
      rw [if_neg (by decide)] at hst
      rw [hst]
      refine (ev_name 3) _ (.lst (rowsM_top (rest := topC) 0) (by simp) fun i z x hz hx => ?_)
      obtain ⟨hi, rfl⟩ := List.getElem?_eq_some_iff.mp hz
      simp only [List.length_map, List.length_range] at hi
      simp only [List.getElem_map, List.getElem_range]
      rw [List.getElem?_map, List.getElem?_range hi] at hx
      cases hx
      refine Frz.lstS ((rowsM_get hi).trans ?_)
      unfold rowF
      rw [List.map_map]
      rfl
end
end PV

/-! The law's own: how far first starts are looked at; they grow. -/
namespace PV
open PySem PySem.Spec PyProof.Rows L2
theorem ring_sub {ls ls' : List Lk} (h : ∀ l ∈ ls, l ∈ ls') {a : Nat} {r : List Lk} (R : Ring ls a r) : Ring ls' a r := ⟨R.ne, path_mono h R.path, R.nd⟩
theorem clash_sub {ls ls' lo w hi : List Lk} (h : ∀ l ∈ ls, l ∈ ls') (C : Clash ls lo w hi) : Clash ls' lo w hi := by
  obtain ⟨a, R1⟩ := C.rl
  obtain ⟨b, R2⟩ := C.rh
  obtain ⟨x, hx, y, hy, p⟩ := C.w
  exact ⟨⟨a, ring_sub h R1⟩, ⟨b, ring_sub h R2⟩, C.tl, C.th, C.less, x, hx, y, hy, path_mono h p⟩
theorem roll_sub {U : Nat} {ls ls' : List Lk} (h : ∀ l ∈ ls, l ∈ ls') : ∀ m ∈ rollU U ls, m ∈ rollU U ls' := fun m hm => by
  obtain ⟨l, hl, k, hk, rfl⟩ := roll_mem.mp hm
  exact roll_mem.mpr ⟨l, h l hl, k, hk, rfl⟩
/-- first starts of the same links in another order -/
theorem starts_sub {n U : Nat} {ls ls' : List Lk} (hin : InK n ls) (hin' : InK n ls') (h : ∀ l ∈ ls', l ∈ ls) {f : List Int} (hs : startsL n U ls = some f) : ∃ f', startsL n U ls' = some f' := by
  obtain ⟨_, h2⟩ := starts_fix hin hs
  refine starts_some hin' fun a r R => ?_
  have := h2 (path_mono (roll_sub h) R.path)
  omega
theorem wt_le {w v : Lk → Int} : ∀ {r : List Lk} {c : Int}, (∀ l ∈ r, w l ≤ c) → wt w r ≤ c * (r.length : Int)
  | [], c, _ => by simp [wt]
  | l :: r, c, h => by
    have h1 := h l List.mem_cons_self
    have h2 := wt_le (v := v) (w := w) (r := r) (c := c) fun k hk => h k (List.mem_cons_of_mem _ hk)
    rw [wt_cons, List.length_cons]
    rw [Int.natCast_add, Int.mul_add]
    omega
theorem sa_few {r : List Lk} (h : ∀ l ∈ r, -2 ≤ l.2.2.1 ∧ l.2.2.1 ≤ 2) : sa r ≤ 2 * (r.length : Int) := wt_le (v := fun _ => 0) fun l hl => by have := h l hl; omega
theorem wt_add (w v : Lk → Int) : ∀ r : List Lk, wt (fun l => w l + v l) r = wt w r + wt v r
  | [] => rfl
  | l :: r => by rw [wt_cons, wt_cons, wt_cons, wt_add w v r]; omega
theorem wt_mul (c : Int) (w : Lk → Int) : ∀ r : List Lk, wt (fun l => c * w l) r = c * wt w r
  | [] => by simp [wt]
  | l :: r => by rw [wt_cons, wt_cons, wt_mul c w r, Int.mul_add]
section
variable {g : Bool} {Pr : Program} {w : World} {K : PySem.W.Frag} {mg : Str → Option Value} {base : Heap} {f : Addr} {fd : FuncData} {C : Addr}
theorem sc_law_far : FnScope ["_law_clash", "_law_most", "_law_low", "_law_way", "_law_high", "_law_one", "_law_other", "_law_gap", "_law_some", "_law_rests", "_law_found", "_law_link"] ["_law_clash", "_law_most"] (defScope s_law_far) := ⟨rfl, rfl, rfl, by decide +kernel, rfl, by decide +kernel, by decide +kernel⟩
structure FarOk (lo way hi : List Lk) : Prop where
  rlo : Rok lo
  rhi : Rok hi
  tl : 0 < tok lo
  th : tok hi < 0
  less : below (askL hi) (askL lo) = true
  few : lo.length + way.length + hi.length ≤ 100
  bd : (tks lo ≤ 200 ∧ -200 ≤ tks lo ∧ tok lo ≤ 200) ∧ (tks hi ≤ 200 ∧ -200 ≤ tks hi ∧ -200 ≤ tok hi)
  small : ∀ l ∈ lo ++ way ++ hi, (-40 ≤ l.2.2.1 ∧ l.2.2.1 ≤ 40) ∧ (-40 ≤ l.2.2.2 ∧ l.2.2.2 ≤ 40)
def farP (v : Int) : P := if v ≤ 40 then .int v else .non
def F_law_far (zs : List P) (y : P) : Prop := ∃ (lo way hi : List Lk) (most : Int), zs = [clP (lo, some (way, hi)), .int most] ∧ FarOk lo way hi ∧ y = farP (farL lo way hi most)
theorem c_law_far (F : FnP K "_law_far" "_law_far" s_law_far f fd) (hm : mg "_law_far" = some (.ref f)) (B : Bl mg) (hab : mg "abs" = none) (c1 : Ct g Pr w K mg base 2 "_law_n_asks" (SF F_asked)) : Ct g Pr w K mg base 3 "_law_far" (SF F_law_far) := by
  refine ct_pure F hm sc_law_far (fun _ _ _ _ _ _ us hl => match us, hl with | [_, _], _ => rfl) (by rintro _ _ ⟨lo, way, hi, most, rfl, _⟩; rfl) fun cdv A outer s H E hr zs y hF => ?_
  obtain ⟨lo, way, hi, most, rfl, O, rfl⟩ := hF
  have nd := sc_law_far.nd
  have hlo := O.rlo
  have hhi := O.rhi
  have t0 := O.tl
  have t1 := O.th
  have hfew := O.few
  obtain ⟨⟨b1, b2, b3⟩, b4, b5, b6⟩ := O.bd
  obtain ⟨cl, Ll⟩ := ask_low (r := lo) (by omega)
  obtain ⟨ch, Lh⟩ := ask_low (r := hi) (by omega)
  have ul := low_ub Ll
  have uh := low_ub Lh
  have pl := Ll.pos
  have ph := Lh.pos
  have hless := O.less
  unfold below at hless
  rw [decide_eq_true_eq] at hless
  unfold farL farR farS farGap
  refine tss_cons (tsp_asgA [2, 3, 4] (ev_name 0) (tgp_names ["_law_low", "_law_way", "_law_high"] [2, 3, 4] nd (.inr rfl) rfl ?_))
  refine tss_cons (tsp_parN ["_law_one", "_law_other"] [5, 6] nd (tap_consV (ev_call c1 hr (eas_cons (ev_name 2) eas_nil) ⟨lo, rfl, hlo, by omega, rfl⟩) (tap_consV (ev_call c1 hr (eas_cons (ev_name 4) eas_nil) ⟨hi, rfl, hhi, by omega, rfl⟩) (tap_nil ⟨rfl, ?_⟩))))
  generalize askL lo = p1 at *
  generalize askL hi = p2 at *
  obtain ⟨x1, y1⟩ := p1
  obtain ⟨x2, y2⟩ := p2
  simp only at ul uh pl ph hless
  have hg1 : x1 * y2 - x2 * y1 ≤ 80000 := by
    have k1 : x1 * y2 ≤ 200 * 200 := by
      rcases Int.le_total 0 x1 with h | h
      · exact Int.mul_le_mul (by omega) (by omega) (by omega) (by omega)
      · have := Int.mul_nonpos_of_nonpos_of_nonneg h (by omega : 0 ≤ y2); omega
    have k2 : -(x2 * y1) ≤ 200 * 200 := by
      rw [← Int.neg_mul]
      rcases Int.le_total 0 (-x2) with h | h
      · exact Int.mul_le_mul (by omega) (by omega) (by omega) (by omega)
      · have := Int.mul_nonpos_of_nonpos_of_nonneg h (by omega : 0 ≤ y1); omega
    omega
  have hg0 : 0 < x1 * y2 - x2 * y1 := by omega
  refine tss_cons (tsp_setV 7 nd (ev_sub (ev_mul (ev_ixT (xs := [.int x1, .int y1]) (ev_name 5) ev_int rfl) (ev_ixT (xs := [.int x2, .int y2]) (ev_name 6) ev_int rfl) (.inr ⟨by omega, by omega⟩)) (ev_mul (ev_ixT (xs := [.int x2, .int y2]) (ev_name 6) ev_int rfl) (ev_ixT (xs := [.int x1, .int y1]) (ev_name 5) ev_int rfl) (.inr ⟨by omega, by omega⟩))) ?_)
  generalize hS : lo ++ way ++ hi = S
  have hSl : S.length ≤ 100 := by rw [← hS, List.length_append, List.length_append]; exact hfew
  refine tss_cons (tsp_setV 8 nd (x := .sh (rgP S)) (EV.is (ev_cat (ev_cat (ev_name 2) (ev_name 3) (by rw [List.length_map, List.length_map]; omega)) (ev_name 4) (by rw [List.length_append, List.length_map, List.length_map, List.length_map]; omega)) (by unfold rgP; rw [← hS, List.map_append, List.map_append])) ?_)
  have hsm : ∀ l ∈ S, (-40 ≤ l.2.2.1 ∧ l.2.2.1 ≤ 40) ∧ (-40 ≤ l.2.2.2 ∧ l.2.2.2 ≤ 40) := by rw [← hS]; exact O.small
  let R : Option PV.E → Option PV.E → Option PV.E → Rho := fun a b c => [some (.sh (clP (lo, some (way, hi)))), some (.sh (.int most)), some (.sh (rgP lo)), some (.sh (rgP way)), some (.sh (rgP hi)), some (.sh (frP (x1, y1))), some (.sh (frP (x2, y2))), some (.sh (.int (x1 * y2 - x2 * y1))), some (.sh (rgP S)), a, b, c]
  have eab : ∀ v : Int, (if v < 0 then -v else v) = (v.natAbs : Int) := fun v => by split <;> omega
  let c : Int := 2 + max 0 (x1 / y1)
  have hre : (S.map fun l => (l.2.2.2.natAbs : Int) + c * (l.2.2.1.natAbs : Int)).sum = st lo + st way + st hi + c * (sa lo + sa way + sa hi) := by
    have e1 : (S.map fun l => (l.2.2.2.natAbs : Int) + c * (l.2.2.1.natAbs : Int)).sum = wt (fun l => (l.2.2.2.natAbs : Int) + c * (l.2.2.1.natAbs : Int)) S := rfl
    rw [e1, wt_add, wt_mul]
    have e2 : wt (fun l => (l.2.2.2.natAbs : Int)) S = st lo + st way + st hi := by rw [← hS]; show st (lo ++ way ++ hi) = _; rw [st_app, st_app]
    have e3 : wt (fun l => (l.2.2.1.natAbs : Int)) S = sa lo + sa way + sa hi := by rw [← hS]; show sa (lo ++ way ++ hi) = _; rw [sa_app, sa_app]
    rw [e2, e3]
  have hsa : (S.map fun l => (l.2.2.1.natAbs : Int)).sum = sa lo + sa way + sa hi := by rw [← hS]; show sa (lo ++ way ++ hi) = _; rw [sa_app, sa_app]
  refine tss_cons (tsp_setV 9 nd (EV.is (ev_sum (ns := S.map fun l => (l.2.2.2.natAbs : Int) + c * (l.2.2.1.natAbs : Int)) rfl B.sum (EV.is (ev_lc0 S lkP (fun l => R none none (some (.sh (lkP l)))) (fun l => .int ((l.2.2.2.natAbs : Int) + c * (l.2.2.1.natAbs : Int))) [11] [("_law_link", 11)] rfl nd (blkOk_by (by kernel_rfl)) (ei_list (ev_name 8)) (by omega) (fun a _ => tgb_name 11 nd (by decide) rfl rfl)
    (fun l hl s H C cl fp => ?_)) (by rw [List.map_map]; rfl))) (by rw [hre])) ?_)
  · have := hsm l hl
    exact ev_add (EV.is (ev_abs hab (ev_ixT (xs := (lkI l).map .int) (ev_name 11) ev_int rfl)) (by rw [eab])) (ev_mul (ev_add ev_int (ev_max2 rfl B.max ev_int (ev_fdiv (ev_ixT (xs := [.int x1, .int y1]) (ev_name 5) ev_int rfl) (ev_ixT (xs := [.int x1, .int y1]) (ev_name 5) ev_int rfl) ⟨pl, by omega⟩))) (EV.is (ev_abs hab (ev_ixT (xs := (lkI l).map .int) (ev_name 11) ev_int rfl)) (y := .sh (.int (l.2.2.1.natAbs : Int))) (by rw [eab])) (.inr ⟨by omega, by omega⟩))
  refine tss_cons (tsp_setV 10 nd (ev_add (ev_add (ev_fdiv (ev_mul (ev_mul (ev_add (ev_name 1) (ev_mul ev_int (ev_name 9) (.inl ⟨by omega, by omega⟩))) (ev_ixT (xs := [.int x1, .int y1]) (ev_name 5) ev_int rfl) (.inr ⟨by omega, by omega⟩)) (ev_ixT (xs := [.int x2, .int y2]) (ev_name 6) ev_int rfl) (.inr ⟨by omega, by omega⟩)) (ev_name 7) ⟨hg0, by omega⟩) (ev_mul ev_int (EV.is (ev_sum (ns := S.map fun l => (l.2.2.1.natAbs : Int)) rfl B.sum (EV.is (ev_lc0 S lkP (fun l => R (some (.sh (.int (st lo + st way + st hi + c * (sa lo + sa way + sa hi))))) none (some (.sh (lkP l)))) (fun l => .int (l.2.2.1.natAbs : Int)) [11] [("_law_link", 11)] rfl nd (blkOk_by (by kernel_rfl)) (ei_list (ev_name 8)) (by omega) (fun a _ => tgb_name 11 nd (by decide) rfl rfl)
    (fun l hl s H C cl fp => EV.is (ev_abs hab (ev_ixT (xs := (lkI l).map .int) (ev_name 11) ev_int rfl)) (by rw [eab]))) (by rw [List.map_map]; rfl))) (by rw [hsa])) (.inl ⟨by omega, by omega⟩))) ev_int) ?_)
  generalize (most + 2 * (st lo + st way + st hi + c * (sa lo + sa way + sa hi))) * y1 * y2 / (x1 * y2 - x2 * y1) + 2 * (sa lo + sa way + sa hi) + 16 = v
  refine tss_one (tsp_retV (ev_if (d := decide (v ≤ 40)) (et_le (ev_name 10) ev_int) (fun h => EV.is (ev_name 10) ?_) (fun h => EV.is ev_non ?_)) (.sh _))
  · unfold farP; rw [if_pos (of_decide_eq_true h)]
  · unfold farP; rw [if_neg (of_decide_eq_false h)]
end
end PV

/-! The law's own: first starts grow. -/
namespace PV
open PySem PySem.Spec PyProof.Rows L2
theorem far_nn {lo way hi : List Lk} {most : Int} (hm : 0 ≤ most) (t0 : 0 < tok lo) (t1 : tok hi < 0) (hless : below (askL hi) (askL lo) = true) : 16 ≤ farL lo way hi most := by
  have p1 := ask_pos (r := lo) (by omega)
  have p2 := ask_pos (r := hi) (by omega)
  unfold below at hless
  rw [decide_eq_true_eq] at hless
  have s1 := (tok_sa lo).2.2
  have s2 := (tok_sa way).2.2
  have s3 := (tok_sa hi).2.2
  have k1 := (tks_st lo).2.2
  have k2 := (tks_st way).2.2
  have k3 := (tks_st hi).2.2
  have hS : 0 ≤ farS lo way hi := by unfold farS; omega
  have hR : 0 ≤ farR lo way hi := by
    unfold farR
    have := Int.mul_nonneg (show 0 ≤ 2 + max 0 ((askL lo).1 / (askL lo).2) by omega) hS
    omega
  have hg : 0 < farGap lo hi := by unfold farGap; omega
  unfold farL
  have h1 : 0 ≤ (most + 2 * farR lo way hi) * (askL lo).2 * (askL hi).2 := Int.mul_nonneg (Int.mul_nonneg (by omega) (by omega)) (by omega)
  have h2 := Int.ediv_nonneg h1 (Int.le_of_lt hg)
  omega
def mxRow (U m : Nat) (f : List Int) (e : Nat) : Int := maxL (((List.range U).map fun k => gt f (e * U + k)).take m)
def mxAll (n U m : Nat) (f : List Int) : Int := maxL ((List.range n).map (mxRow U m f))
theorem mx_ge {n U m : Nat} {f : List Int} {e k : Nat} (he : e < n) (hk : k < U) (hm : k < m) : gt f (e * U + k) ≤ mxAll n U m f := by
  refine Int.le_trans (le_maxL (ns := ((List.range U).map fun k => gt f (e * U + k)).take m) ?_) (le_maxL (List.mem_map.mpr ⟨e, List.mem_range.mpr he, rfl⟩))
  refine List.mem_of_getElem? (i := k) ?_
  rw [List.getElem?_take, if_pos hm, List.getElem?_map, List.getElem?_range hk]
  rfl
section
variable {g : Bool} {Pr : Program} {w : World} {K : PySem.W.Frag} {mg : Str → Option Value} {base : Heap} {f : Addr} {fd : FuncData} {C : Addr}
theorem sc_law_grows : FnScope ["_law_many", "_law_links", "_law_clash", "_law_rows", "_law_most", "_law_far_here", "_law_later", "_law_row"] ["_law_many", "_law_links", "_law_clash"] (defScope s_law_grows) := ⟨rfl, rfl, rfl, by decide +kernel, rfl, by decide +kernel, by decide +kernel⟩
def F_law_grows (zs : List P) (y : P) : Prop := ∃ (n : Nat) (ls W : List Lk) (c : List Lk × Option (List Lk × List Lk)), zs = [.int (n : Nat), rgP ls, clP c] ∧ LkOk n W ∧ HasOrd n W ∧ (∀ l, l ∈ ls ↔ l ∈ W) ∧ ls.length ≤ 1000 ∧ 1 ≤ n ∧ (∀ l ∈ W, -2 ≤ l.2.2.1 ∧ l.2.2.1 ≤ 2) ∧ clashL n W = some c ∧ y = .bl true
theorem c_law_grows (F : FnP K "_law_grows" "_law_grows" s_law_grows f fd) (hm : mg "_law_grows" = some (.ref f)) (B : Bl mg) (c1 : Ct g Pr w K mg base 1 "_law_starts" (SF F_law_starts)) (c2 : Ct g Pr w K mg base 3 "_law_far" (SF F_law_far)) : Ct g Pr w K mg base 4 "_law_grows" (SF F_law_grows) := by
  refine ct_pure F hm sc_law_grows (fun _ _ _ _ _ _ us hl => match us, hl with | [_, _, _], _ => rfl) (by rintro _ _ ⟨n, ls, W, c, rfl, _⟩; rfl) fun cdv A outer s H E hr zs y hF => ?_
  obtain ⟨n, ls, W, c, rfl, L, ho, hiff, hll, hn1, htk, hc, rfl⟩ := hF
  have nd := sc_law_grows.nd
  have hin := L.lok.inn
  have hn5 := L.n5
  have hr1 := hr.mono (j := 1) (by decide)
  have hsub : ∀ l ∈ W, l ∈ ls := fun l hl => (hiff l).mpr hl
  have hinl : InK n ls := fun l hl => hin l ((hiff l).mp hl)
  have hlen : ∀ {a : Nat} {r : List Lk}, Ring W a r → r.length ≤ 5 := fun Rg => by
    have h := nat_nd_len Rg.nd (n := n) (outs_lt hin Rg.path)
    unfold outs at h
    rw [List.length_map] at h
    omega
  have hst : ∀ U : Nat, U ≤ 40 → F_law_starts [.int (n : Nat), rgP ls, .int (U : Nat)] (stP n U (startsL n U ls)) := fun U hU => ⟨n, ls, U, rfl, hinl, by omega, by omega, hll, fun l hl => by have := htk l ((hiff l).mp hl); omega, rfl⟩
  let R : Option PV.E → Option PV.E → Option PV.E → Option PV.E → Option PV.E → Rho := fun a b d e r => [some (.sh (.int (n : Nat))), some (.sh (rgP ls)), some (.sh (clP c)), a, b, d, e, r]
  have stN : ∀ {U : Nat} {o : Option (List Int)}, isN (.sh (stP n U o)) = o.isNone := fun {U o} => by cases o <;> rfl
  obtain ⟨lo, o⟩ := c
  rcases o with _ | ⟨way, hi⟩
  · obtain ⟨h1, h2, h3⟩ := clash_one hc
    obtain ⟨a, Rg⟩ := rings_sound h1
    have hs := sa_few (r := lo) fun l hl => htk l (path_mem Rg.path l hl)
    have hl5 := hlen Rg
    have hz := zero_none (U := 12) hinl (ring_sub hsub Rg) h2 h3 (by omega) (by omega)
    refine tss_cons (tsp_ifE (d := true) (ET.is (et_isN (x := .sh .non) (ev_ixT (xs := [rgP lo, .non, .non]) (ev_name 2) ev_int rfl)) rfl) (fun _ => ?_) fun h => nomatch h)
    exact tss_one (tsp_retV (EV.is (ev_isN (x := .sh (stP n 12 (startsL n 12 ls))) (ev_call c1 hr1 (eas_cons (ev_name 0) (eas_cons (ev_name 1) (eas_cons ev_int eas_nil))) (hst 12 (by omega)))) (by rw [hz]; rfl)) (.sh _))
  · obtain ⟨CL, hwl, hrl, hrh, hx0⟩ := clash_two hin ho hc
    obtain ⟨a0, Rlo⟩ := CL.rl
    obtain ⟨a1, Rhi⟩ := CL.rh
    obtain ⟨p, hp, q, hq, pw⟩ := CL.w
    have hl5 := hlen Rlo
    have hh5 := hlen Rhi
    have t0 := CL.tl
    have t1 := CL.th
    have sm : ∀ {a b : Nat} {r : List Lk}, Path W a r b → ∀ l ∈ r, (-40 ≤ l.2.2.1 ∧ l.2.2.1 ≤ 40) ∧ (-40 ≤ l.2.2.2 ∧ l.2.2.2 ≤ 40) := fun p l hl => L.small l (path_mem p l hl)
    have FO : FarOk lo way hi := by
      have w1 := wt_bd (w := fun l => l.2.2.2) lo fun l hl => (sm Rlo.path l hl).2
      have w2 := wt_bd (w := fun l => l.2.2.1) lo fun l hl => (sm Rlo.path l hl).1
      have w3 := wt_bd (w := fun l => l.2.2.2) hi fun l hl => (sm Rhi.path l hl).2
      have w4 := wt_bd (w := fun l => l.2.2.1) hi fun l hl => (sm Rhi.path l hl).1
      refine ⟨ring_rok L Rlo, ring_rok L Rhi, t0, t1, CL.less, by omega, ⟨⟨?_, ?_, ?_⟩, ?_, ?_, ?_⟩, fun l hl => ?_⟩
      · show wt (fun l => l.2.2.2) lo ≤ 200; omega
      · show -200 ≤ wt (fun l => l.2.2.2) lo; omega
      · show wt (fun l => l.2.2.1) lo ≤ 200; omega
      · show wt (fun l => l.2.2.2) hi ≤ 200; omega
      · show -200 ≤ wt (fun l => l.2.2.2) hi; omega
      · show -200 ≤ wt (fun l => l.2.2.1) hi; omega
      · rcases List.mem_append.mp hl with z | z
        · rcases List.mem_append.mp z with y | y
          · exact sm Rlo.path l y
          · exact sm pw l y
        · exact sm Rhi.path l z
    refine tss_cons (tsp_ifE (d := false) (ET.is (et_isN (x := .sh (rgP way)) (ev_ixT (xs := [rgP lo, rgP way, rgP hi]) (ev_name 2) ev_int rfl)) rfl) (fun h => nomatch h) fun _ => tss_nil ?_)
    refine tss_cons (tsp_setV 3 nd (x := .sh (stP n 8 (startsL n 8 ls))) (ev_call c1 hr1 (eas_cons (ev_name 0) (eas_cons (ev_name 1) (eas_cons ev_int eas_nil))) (hst 8 (by omega))) ?_)
    refine tss_cons (tsp_ifE (ET.is (et_isN (x := .sh (stP n 8 (startsL n 8 ls))) (ev_name 3)) stN) (fun h => tss_one (tsp_retV ev_bl (.sh _))) fun h => tss_nil ?_)
    obtain ⟨f8, hf8⟩ : ∃ f8, startsL n 8 ls = some f8 := by cases e : startsL n 8 ls with | none => rw [e] at h; cases h | some f8 => exact ⟨f8, rfl⟩
    rw [hf8]
    have rowsE : ∀ {U m : Nat} {f : List Int}, 0 < U → 0 < m → ∀ e, ((List.range U).map fun k => gt f (e * U + k)).take m ≠ [] := fun {U m f} hU hm e z => by
      have := congrArg List.length z
      rw [List.length_take, List.length_map, List.length_range, List.length_nil] at this
      omega
    refine tss_cons (tsp_setV 4 nd (x := .sh (.int (mxAll n 8 8 f8))) (ev_max (ns := (List.range n).map (mxRow 8 8 f8)) rfl B.max (EV.is (ev_lc0 (List.range n) (fun e => .lst ((List.range 8).map fun k => .int (gt f8 (e * 8 + k)))) (fun e => R (some (.sh (stP n 8 (some f8)))) none none none (some (.sh (.lst ((List.range 8).map fun k => .int (gt f8 (e * 8 + k))))))) (fun e => .int (mxRow 8 8 f8 e)) [7] [("_law_row", 7)] rfl nd (blkOk_by (by kernel_rfl)) (EI.is (ei_list (ev_name 3)) (by rw [List.map_map])) (by rw [List.length_range]; omega) (fun a _ => tgb_name 7 nd (by decide) rfl rfl)
      (fun e _ s H C cl fp => EV.is (ev_max (ns := (List.range 8).map fun k => gt f8 (e * 8 + k)) rfl B.max (EV.is (ev_name 7) (by rw [List.map_map]; rfl)) (by simp)) (by unfold mxRow; rw [List.take_of_length_le (by simp)]))) (by rw [List.map_map]; rfl)) (by simp; omega)) ?_)
    have hmost : 0 ≤ mxAll n 8 8 f8 := Int.le_trans (starts_nn hf8 (0 * 8 + 0)) (mx_ge (by omega) (by omega) (by omega))
    generalize mxAll n 8 8 f8 = most at hmost
    have hfar := far_nn (way := way) hmost t0 t1 CL.less
    refine tss_cons (tsp_setV 5 nd (x := .sh (farP (farL lo way hi most))) (ev_call c2 (hr.mono (by decide)) (eas_cons (ev_name 2) (eas_cons (ev_name 4) eas_nil)) ⟨lo, way, hi, most, rfl, FO, rfl⟩) ?_)
    by_cases h40 : farL lo way hi most ≤ 40
    · have e1 : farP (farL lo way hi most) = .int (farL lo way hi most) := by unfold farP; rw [if_pos h40]
      rw [e1]
      obtain ⟨U, hU⟩ : ∃ U : Nat, (U : Int) = farL lo way hi most := ⟨(farL lo way hi most).toNat, by omega⟩
      refine tss_cons (tsp_ifE (d := false) (ET.is (et_isN (x := .sh (.int (farL lo way hi most))) (ev_name 5)) rfl) (fun h => nomatch h) fun _ => tss_nil ?_)
      refine tss_cons (tsp_setV 6 nd (x := .sh (stP n U (startsL n U ls))) (ev_call c1 hr1 (eas_cons (ev_name 0) (eas_cons (ev_name 1) (eas_cons (EV.is (ev_name 5) (y := .sh (.int (U : Nat))) (by rw [hU])) eas_nil))) (hst U (by omega))) ?_)
      cases hfU : startsL n U ls with
      | none => exact tss_one (tsp_retV (ev_or (p := true) (r := true) (EV.is (ev_isN (x := .sh (stP n U none)) (ev_name 6)) rfl) fun h => nomatch h) (.sh _))
      | some fU =>
        obtain ⟨e, k, he, hk8, hkU, hgt⟩ := grows hinl (clash_sub hsub CL) hx0 (fun l hl => (htk l (path_mem Rhi.path l hl)).1) hmost hU hfU
        have hge := mx_ge (f := fU) he hkU hk8
        have hU16 : 16 ≤ U := by omega
        have e8 : ∀ e, cutP ((List.range U).map fun k => P.int (gt fU (e * U + k))) none (some 8) = (((List.range U).map fun k => gt fU (e * U + k)).take 8).map .int := fun e => by
          rw [show (some 8 : Option Int) = some ((8 : Nat) : Int) from rfl, cutB, List.length_map, List.length_range, Nat.min_eq_left (by omega), List.map_take, List.map_map]
          rfl
        refine tss_one (tsp_retV (ev_or (p := false) (r := true) (EV.is (ev_isN (x := .sh (stP n U (some fU))) (ev_name 6)) rfl) fun _ => ev_one (EV.is (ev_gt (ev_max (ns := (List.range n).map (mxRow U 8 fU)) rfl B.max (EV.is (ev_lc0 (List.range n) (fun e => .lst ((List.range U).map fun k => .int (gt fU (e * U + k)))) (fun e => R (some (.sh (stP n 8 (some f8)))) (some (.sh (.int most))) (some (.sh (.int (farL lo way hi most)))) (some (.sh (stP n U (some fU)))) (some (.sh (.lst ((List.range U).map fun k => .int (gt fU (e * U + k))))))) (fun e => .int (mxRow U 8 fU e)) [7] [("_law_row", 7)] rfl nd (blkOk_by (by kernel_rfl)) (EI.is (ei_list (ev_name 6)) (by rw [List.map_map])) (by rw [List.length_range]; omega) (fun a _ => tgb_name 7 nd (by decide) rfl rfl)
          (fun e _ s H C cl fp => ev_max (ns := ((List.range U).map fun k => gt fU (e * U + k)).take 8) rfl B.max (EV.is (ev_slice (lo := none) (hi := some _) (i := none) (j := some 8) (ev_name 7) trivial ev_int) (by rw [e8])) (rowsE (by omega) (by omega) e))) (by rw [List.map_map]; rfl)) (by simp; omega)) (ev_name 4)) (by
            show PV.E.sh (.bl (decide (most < mxAll n U 8 fU))) = _
            rw [decide_eq_true (by omega)]))) (.sh _))
    · have e1 : farP (farL lo way hi most) = .non := by unfold farP; rw [if_neg h40]
      rw [e1]
      exact tss_cons (tsp_ifE (d := true) (ET.is (et_isN (x := .sh .non) (ev_name 5)) rfl) (fun _ => tss_one (tsp_retV ev_bl (.sh _))) fun h => nomatch h)
end
end PV

set_option maxHeartbeats 4000000
/-! Consequence; xs.extend(e), xs * e where e draws. -/
namespace PV
open PySem PySem.Spec PyProof.Rows L2
section
variable {X : Cx} {a b e o : Expr} {ρ : Rho} {μ : Mu} {Q R : E → Mu → Prop} {pos apos cpos : Pos}
theorem TEP.imp (h : TEP X e ρ μ Q) (k : ∀ x μ1, Q x μ1 → R x μ1) : TEP X e ρ μ R := fun ad Hb H σ W N Q' g => h ad Hb H σ W N Q' fun v x μ1 ad1 Hb1 H1 q s W1 r => g v x μ1 ad1 Hb1 H1 (k x μ1 q) s W1 r
theorem tep_extendT {j : Nat} {zs0 : List E} (ho : EV X o ρ μ (.pt j)) (hj0 : μ[j]? = some (some (.lst zs0))) (h : TEP X e ρ μ fun x μ1 => ∃ (xs : List P) (zs : List E), x = .sh (.lst xs) ∧ μ1[j]? = some (some (.lst zs)) ∧ zs.length + xs.length ≤ 100000 ∧ Q (.sh .non) (μ1.set j (some (.lst (zs ++ xs.map .sh)))))
    (hbase : attributeBase o "extend" X.env (eval o X.env) = eval o X.env := by rfl)
    (hfew : ((backTo cpos (starEach [e] X.env)).all (fun x => !x.1) && (backToKw cpos (keywordEach [] X.env)).all (fun x => x.1.isSome) && decide ([e].length + ([] : List Keyword).length + (if ([] : List Keyword).isEmpty then 0 else 1) < 30)) = true := by rfl)
    (hline : (apos.endLine == cpos.line) = true := by rfl) (hs : starEach [e] X.env = (false, eval e X.env) :: starEach [] X.env := by rfl) : TEP X (.Call (.Attribute o "extend" apos) [e] [] cpos) ρ μ Q :=
  tep_bm PySem.F.plainAttrs_list PySem.F.slot_list_extend PySem.F.type_list_extend mt_extend (ho _ ⟨.inl ⟨rfl, zs0, hj0⟩, tap_cons (h.imp fun x μ1 ⟨xs, zs, ex, hj, hl, q⟩ => tap_nil (by subst ex; exact vm_extend hj hl q)) hs⟩) hbase hfew hline hs rfl
theorem v2_rep {K : PySem.W.Frag} {xs : List P} {k : Int} (hk : -(2 ^ 63) ≤ k ∧ k < 2 ^ 63) (hl : xs.length * k.toNat ≤ 100000) (q : Q (.sh (.lst (List.replicate k.toNat xs).flatten)) μ) : V2 K rRep (.sh (.lst xs)) (.sh (.int k)) μ Q := fun ad Hb H v w W r1 r2 Q' g => by
  obtain ⟨a, vs, rfl, h1, r1⟩ := Rep.lst_at r1
  obtain rfl := Rep.int_inv r2
  refine ⟨a, k, vs, rfl, rfl, W.inc _ _ h1, hk.1, hk.2, Nat.le_trans (by rw [r1.length]; exact hl) (by decide), fun p hp => ?_⟩
  obtain ⟨W2, s2⟩ := W.alloc (o := .lst (List.replicate k.toNat vs).flatten) hp
  exact g _ (.sh (.lst _)) _ _ _ _ q s2 W2 (Rep.lstL upd_same (RepL.mono s2.ex (pd_rep r1 _)))
theorem tep_repT (h : TEP X a ρ μ fun x μ1 => TEP X b ρ μ1 fun y μ2 => ∃ (xs : List P) (k : Int), x = .sh (.lst xs) ∧ y = .sh (.int k) ∧ (-(2 ^ 63) ≤ k ∧ k < 2 ^ 63) ∧ xs.length * k.toNat ≤ 100000 ∧ Q (.sh (.lst (List.replicate k.toNat xs).flatten)) μ2) : TEP X (.BinOp a .Mult b pos) ρ μ Q :=
  tep_op op_rep (h.imp fun x μ1 hx => hx.imp fun y μ2 ⟨xs, k, ex, ey, hk, hl, q⟩ => by subst ex ey; exact v2_rep hk hl q)
end
end PV

set_option maxHeartbeats 0
/-! Plain facts for the law: what is shown, cells of a clash, distances let more. -/
namespace PV
open PySem PySem.Spec PyProof.Rows L2
/-! ### what is shown -/
theorem num_shownN : ∀ n, n < 1000 → (PyData.int (-((n : Nat) : Int))).shown.length ≤ 4 := by
  simp only [PyData.shown]
  decide +kernel
theorem num_shownI {i : Int} (h : -1000 < i ∧ i < 1000) : (PyData.int i).shown.length ≤ 4 := by
  rcases Int.lt_or_le i 0 with z | z
  · have := num_shownN i.natAbs (by omega)
    rw [show -((i.natAbs : Nat) : Int) = i by omega] at this
    exact this
  · have := num_shown i.natAbs (by omega)
    rw [show ((i.natAbs : Nat) : Int) = i by omega] at this
    omega
theorem num_showI {i : Int} (h : -1000 < i ∧ i < 1000) : (PyData.int i).showable = true := by
  simp only [PyData.showable, decide_eq_true_eq]
  refine Nat.lt_of_le_of_lt (Nat.log2_le_self _) ?_
  show i.natAbs < 1920
  omega
theorem shw_ints {n : Nat} : ∀ {ns : List Int}, (∀ m ∈ ns, -1000 < m ∧ m < 1000) → Paired (Shw n 4) (ns.map P.int) (ns.map PyData.int)
  | [], _ => .nil
  | m :: ns, h => .cons ⟨.int n _, num_showI (h m List.mem_cons_self), num_shownI (h m List.mem_cons_self)⟩ (shw_ints fun k hk => h k (List.mem_cons_of_mem _ hk))
theorem shw_ring {r : List Lk} (hl : r.length ≤ 64) (h : ∀ l ∈ r, ∀ m ∈ lkI l, -1000 < m ∧ m < 1000) : ∃ d, Shw 2 2000 (rgP r) d := by
  obtain ⟨ds, r2⟩ := shw_pick (n := 1) (B := 27) (ps := r.map lkP) fun p hp => by
    obtain ⟨l, hlr, rfl⟩ := List.mem_map.mp hp
    obtain ⟨d, hd⟩ := shw_list (.inr rfl) (shw_ints (n := 0) (h l hlr))
    exact ⟨d, hd.pd, hd.ok, Nat.le_trans hd.len (by simp [lkI])⟩
  obtain ⟨d, hd⟩ := shw_list (.inl rfl) r2
  refine ⟨d, hd.pd, hd.ok, Nat.le_trans hd.len ?_⟩
  rw [List.length_map]
  omega
theorem shw_rings {rs : List (List Lk)} (hl : rs.length ≤ 2) (h : ∀ r ∈ rs, r.length ≤ 64 ∧ ∀ l ∈ r, ∀ m ∈ lkI l, -1000 < m ∧ m < 1000) : ∃ d, Shw 3 5000 (rgsP rs) d := by
  obtain ⟨ds, r2⟩ := shw_pick (n := 2) (B := 2000) (ps := rs.map rgP) fun p hp => by
    obtain ⟨r, hr, rfl⟩ := List.mem_map.mp hp
    exact shw_ring (h r hr).1 (h r hr).2
  obtain ⟨d, hd⟩ := shw_list (.inl rfl) r2
  refine ⟨d, hd.pd, hd.ok, Nat.le_trans hd.len ?_⟩
  rw [List.length_map]
  omega
def arcN (a : Arc) : List Nat := [a.1, a.2.1, a.2.2.1, a.2.2.2]
theorem drawn_netD {K : PySem.W.Frag} {C : Addr} {n : Nat} {as ls : List Arc} {or ord : List Nat} (NC : NetC K C) (D : Drawn 6 n as or) (ho : OrdOk n (as ++ selfArcs n) ord) (pm : ls.Perm (as ++ selfArcs n)) : NetD K C n as ord ls :=
  ⟨NC, D.n1, D.n5, D.inn, pm, ho, D.len, fun a ha => by have := D.small a ha; omega⟩
theorem DrawnD.ok {n : Nat} {ds : List Arc} (h : DrawnD n ds) : DisOk n ds := ⟨h.inn, by have := h.len; omega, fun a ha => by have := h.small a ha; omega⟩
theorem nil_ok {n : Nat} : DisOk n [] := ⟨fun a h => absurd h (by simp), by simp, fun a h => absurd h (by simp)⟩
end PV

/-! The law's own: nets of two rings. -/
namespace PV
open PySem PySem.Spec PyProof.Rows L2
theorem idx_range {n x : Nat} (h : x < n) : (List.range n).idxOf x = x := by
  have h1 : (List.range n).idxOf x < (List.range n).length := List.idxOf_lt_length_of_mem (List.mem_range.mpr h)
  have h2 := List.getElem_idxOf h1
  rw [List.getElem_range] at h2
  exact h2
theorem drawn_perm {m n : Nat} {as bs : List Arc} {or : List Nat} (h : bs.Perm as) (D : Drawn m n as or) : Drawn m n bs or :=
  ⟨D.n1, D.n5, D.perm, by rw [h.length_eq]; exact D.len, fun a ha => D.inn a (h.mem_iff.mp ha), fun a ha => D.small a (h.mem_iff.mp ha), fun a ha => D.fw a (h.mem_iff.mp ha)⟩
def S_two : PSpec := fun xs μ Q => ∃ js jc N, xs = [.pt js] ∧ StrAt js jc N μ ∧ N < 80000000 ∧ ∀ n as or d μ', Drawn 6 n as or → DrawnD n [d] → Ext2 js jc μ μ' → StrAt js jc (N + 100) μ' → Q (.sh (.tup [lnetP n as, .lst [arcP d]])) μ'
section
variable {g : Bool} {Pr : Program} {w : World} {K : PySem.W.Frag} {mg : Str → Option Value} {base : Heap} {f : Addr} {fd : FuncData} {C : Addr}
theorem sc_law_two_rings : FnScope ["_law_stream", "_law_one", "_law_other", "_law_most", "_law_arcs"] ["_law_stream"] (defScope s_law_two_rings) := ⟨rfl, rfl, rfl, by decide +kernel, rfl, by decide +kernel, by decide +kernel⟩
theorem c_law_two_rings (F : FnP K "_law_two_rings" "_law_two_rings" s_law_two_rings f fd) (hm : mg "_law_two_rings" = some (.ref f)) (B : Bl mg) (c1 : Ct g Pr w K mg base 1 "_law_draw" S_draw) (c2 : Ct g Pr w K mg base 2 "_law_mixed" S_mixed) : Ct g Pr w K mg base 3 "_law_two_rings" S_two := by
  refine ct_of F hm sc_law_two_rings (fun _ _ _ _ _ _ us hl => match us, hl with | [_], _ => rfl) (by rintro _ _ _ ⟨js, jc, N, rfl, _⟩; rfl) fun cdv A outer s H E hr xs μ Q hS => ?_
  obtain ⟨js, jc, N, rfl, hA, hN, q⟩ := hS
  have nd := sc_law_two_rings.nd
  have hl := hA.lt
  have hr1 := hr.mono (j := 1) (by decide)
  have hr2 := hr.mono (j := 2) (by decide)
  refine tss_cons (tsp_par3A 1 2 3 nd (tap_cons (tep_add ((ev_int) _ (tep_draw c1 hr1 (m := 9) (ev_name 0) ev_int hA (by omega) (by decide) (by decide) fun d1 μ1 hd1 b1 s1 => ⟨1, (d1 : Int), rfl, rfl, tap_cons (tep_draw c1 hr1 (m := 4) (ev_name 0) ev_int s1 (by omega) (by decide) (by decide) fun d2 μ2 hd2 b2 s2 => tap_cons (tep_draw c1 hr1 (m := 9) (ev_name 0) ev_int s2 (by omega) (by decide) (by decide) fun d3 μ3 hd3 b3 s3 => tap_nil ⟨_, _, _, rfl, ?_⟩))⟩)))))
  rw [show (1 : Int) + (d1 : Nat) = ((d1 + 1 : Nat) : Int) by omega]
  have b13 := b1.trans (b2.trans b3)
  have hl3 := b13.len
  let as0 : List Arc := [(0, 0, 1, d1 + 1), (1, 1, 1, d2)]
  refine tss_cons (tsp_setP 4 nd (tep_lstC (tap_consV (ev_tup (ys := arcL (0, 0, 1, d1 + 1)) (eas_cons ev_int (eas_cons ev_int (eas_cons ev_int (eas_cons (ev_name 1) eas_nil)))) (Nat.le_of_ble_eq_true rfl)) (tap_consV (ev_tup (ys := arcL (1, 1, 1, d2)) (eas_cons ev_int (eas_cons ev_int (eas_cons ev_int (eas_cons (ev_name 2) eas_nil)))) (Nat.le_of_ble_eq_true rfl)) (tap_nil ⟨Nat.le_of_ble_eq_true rfl, ?_⟩)))))
  rw [hl3]
  have hC : (μ3 ++ [some (Cell.lst ((as0.map arcP).map .sh))])[μ.length]? = some (some (.lst ((as0.map arcP).map .sh))) := by
    rw [List.getElem?_append_right (by omega), hl3, Nat.sub_self]; rfl
  have s4 := s3.app [some (Cell.lst ((as0.map arcP).map .sh))]
  have x4 : Ext2 js jc μ (μ3 ++ [some (Cell.lst ((as0.map arcP).map .sh))]) := b13.ext.trans (Ext2.app js jc μ3 _)
  have l4 : (μ3 ++ [some (Cell.lst ((as0.map arcP).map .sh))]).length = μ.length + 1 := by rw [List.length_append, hl3]; rfl
  show TSs _ _ _ (μ3 ++ [some (Cell.lst ((as0.map arcP).map .sh))]) _
  generalize (μ3 ++ [some (Cell.lst ((as0.map arcP).map .sh))]) = μ4 at hC s4 x4 l4 ⊢
  refine tss_cons (tsp_expr (tep_extendT (ev_name 4) hC (tep_repT (tep_lst (tap_cons (tep_tup (tap_consV ev_int (tap_consV ev_int (tap_cons (tep_draw c1 hr1 (m := 2) (ev_name 0) ev_int s4 (by omega) (by decide) (by decide) fun t μ5 ht b5 s5 => tap_cons (tep_draw c1 hr1 (m := 4) (ev_name 0) ev_int s5 (by omega) (by decide) (by decide) fun d μ6 hd b6 s6 => tap_nil ⟨arcL (0, 1, t, d), rfl, Nat.le_of_ble_eq_true rfl, tap_nil ⟨[arcP (0, 1, t, d)], rfl, Nat.le_of_ble_eq_true rfl, tep_draw c1 hr1 (m := 2) (ev_name 0) ev_int s6 (by omega) (by decide) (by decide) fun mm μ7 hmm b7 s7 => ⟨_, _, rfl, rfl, by omega, by show 1 * _ ≤ _; omega, ?_⟩⟩⟩)))))))))))
  have b47 := b5.trans (b6.trans b7)
  have hC7 : μ7[μ.length]? = some (some (.lst ((as0.map arcP).map .sh))) := (b47.at_ _ (by omega) (by omega)).trans hC
  have l7 := b47.len
  have erep : (List.replicate ((mm : Nat) : Int).toNat [arcP (0, 1, t, d)]).flatten = (List.replicate mm ((0, 1, t, d) : Arc)).map arcP := by
    rw [Int.toNat_natCast, List.map_replicate]
    induction mm with
    | zero => rfl
    | succ k ih =>
      have : k < 2 := by omega
      rw [List.replicate_succ, List.replicate_succ, List.flatten_cons]
      rw [show (List.replicate k [arcP (0, 1, t, d)]).flatten = List.replicate k (arcP (0, 1, t, d)) from List.flatten_replicate_singleton]
      rfl
  rw [erep]
  generalize hre : List.replicate mm ((0, 1, t, d) : Arc) = re
  have hrel : re.length ≤ 1 := by rw [← hre, List.length_replicate]; omega
  have hrem : ∀ a ∈ re, a = (0, 1, t, d) := by rw [← hre]; exact fun a ha => (List.mem_replicate.mp ha).2
  refine ⟨_, _, rfl, hC7, by simp [as0]; omega, ?_⟩
  rw [← List.map_append, ← List.map_append]
  generalize has : as0 ++ re = as
  refine tss_share μ.length (zs := as.map arcP) (R := [some (.pt js), some (.sh (.int ((d1 + 1 : Nat) : Int))), some (.sh (.int (d2 : Nat))), some (.sh (.int (d3 : Nat))), some (.sh (.lst (as.map arcP)))]) (List.getElem?_set_self (by omega)) rfl ?_ ?_
  · intro i2 x2' hx2
    match i2, hx2 with
    | 0, h => exact .inl h
    | 1, h => exact .inl h
    | 2, h => exact .inl h
    | 3, h => exact .inl h
    | 4, h => cases h; exact .inr ⟨rfl, rfl⟩
    | i2 + 5, h => exact .inl h
  have s8 : StrAt js jc (N + 20) ((μ7.set μ.length (some (Cell.lst ((as.map arcP).map .sh)))).set μ.length none) := ((s7.mono (by omega)).set (by omega) (by omega) _).set (by omega) (by omega) _
  have x8 : Ext2 js jc μ ((μ7.set μ.length (some (Cell.lst ((as.map arcP).map .sh)))).set μ.length none) := ⟨by rw [List.length_set, List.length_set]; omega, fun i2 h1 h2 h3 => by
    rw [List.getElem?_set_ne (by omega), List.getElem?_set_ne (by omega), b47.at_ _ h2 h3]
    exact x4.at_ i2 h1 h2 h3⟩
  generalize (μ7.set μ.length (some (Cell.lst ((as.map arcP).map .sh)))).set μ.length none = μ8 at s8 x8 ⊢
  have hal : as.length ≤ 3 := by rw [← has, List.length_append]; show 2 + _ ≤ _; omega
  have D : Drawn 6 2 as (List.range 2) := by
    have hmem : ∀ a ∈ as, a = (0, 0, 1, d1 + 1) ∨ a = (1, 1, 1, d2) ∨ a = (0, 1, t, d) := fun a ha => by
      rw [← has] at ha
      rcases List.mem_append.mp ha with z | z
      · simp only [as0, List.mem_cons, List.not_mem_nil, or_false] at z
        rcases z with z | z
        · exact .inl z
        · exact .inr (.inl z)
      · exact .inr (.inr (hrem a z))
    refine ⟨by decide, by decide, List.Perm.refl _, by omega, fun a ha => ?_, fun a ha => ?_, fun a ha h0 => ?_⟩
    · rcases hmem a ha with rfl | rfl | rfl <;> exact ⟨Nat.le_of_ble_eq_true rfl, Nat.le_of_ble_eq_true rfl⟩
    · rcases hmem a ha with rfl | rfl | rfl
      · exact ⟨Nat.le_of_ble_eq_true rfl, by show d1 + 1 ≤ 9; omega⟩
      · exact ⟨Nat.le_of_ble_eq_true rfl, by show d2 ≤ 9; omega⟩
      · exact ⟨by show t ≤ 2; omega, by show d ≤ 9; omega⟩
    · rcases hmem a ha with rfl | rfl | rfl
      · cases h0
      · cases h0
      · show (List.range 2).idxOf 0 < (List.range 2).idxOf 1
        decide
  refine tss_one (tsp_ret (tep_tup (tap_cons (tep_tup (tap_consV ev_int (tap_cons (tep_call c2 hr2 (tap_consV (ev_name 0) (tap_consV (ev_name 4) (tap_nil ⟨js, jc, _, as.map arcP, rfl, s8, by omega, by rw [List.length_map]; omega, fun ys μ9 pm x9 s9 => tap_nil ?_⟩))))))))))
  obtain ⟨as2, pm2, rfl⟩ := perm_map arcP pm.symm (l := as) rfl
  refine ⟨[.int ((2 : Nat) : Int), .lst (as2.map arcP)], rfl, Nat.le_of_ble_eq_true rfl, tap_consV (ev_lst (ys := [arcP (1, 1, 1, d3)]) (eas_cons (ev_tup (ys := arcL (1, 1, 1, d3)) (eas_cons ev_int (eas_cons ev_int (eas_cons ev_int (eas_cons (ev_name 3) eas_nil)))) (Nat.le_of_ble_eq_true rfl)) eas_nil) (Nat.le_of_ble_eq_true rfl)) (tap_nil ⟨[lnetP 2 as2, .lst [arcP (1, 1, 1, d3)]], rfl, Nat.le_of_ble_eq_true rfl, ?_⟩)⟩
  refine q 2 as2 (List.range 2) _ _ (drawn_perm pm2 D) ⟨fun a ha => ?_, Nat.le_of_ble_eq_true rfl, fun a ha => ?_⟩ (x8.trans x9) (s9.mono (by rw [List.length_map]; omega))
  · rw [List.mem_singleton.mp ha]; exact ⟨Nat.le_of_ble_eq_true rfl, Nat.le_of_ble_eq_true rfl⟩
  · rw [List.mem_singleton.mp ha]; exact ⟨Nat.le_of_ble_eq_true rfl, by show d3 ≤ 30; omega⟩
end
end PV

/-! The law. -/
namespace PV
open PySem PySem.Spec PyProof.Rows L2
theorem larcs_self (ds : List Arc) : LArcs (.lst (ds.map arcP)) ds := ⟨ds.map arcP, .inl rfl, by
  induction ds with
  | nil => exact .nil
  | cons d ds ih => exact .cons (.inr rfl) ih⟩
theorem et_neSS {X : Cx} {a b : Expr} {ρ : Rho} {μ : Mu} {pos : Pos} {x y : Str} (ha : EV X a ρ μ (.sh (.str x))) (hb : EV X b ρ μ (.sh (.str y))) : ET X (.Compare a [.NotEq] [b] pos) ρ μ (!decide (x = y)) := et_cmp op_ne (nomark _) ha hb fun Q q ad Hb H v w W r1 r2 Q' k => by
  obtain rfl := Rep.str_inv r1
  obtain rfl := Rep.str_inv r2
  refine ⟨rfl, ?_⟩
  have e : (decide (V.str x = V.str y)) = decide (x = y) := decide_eq_decide.mpr ⟨fun z => by cases z; rfl, fun z => by rw [z]⟩
  rw [e]
  exact k.now W (x := .sh (.bl (!decide (x = y)))) (.bl _) q
theorem ttp_neS {X : Cx} {a b : Expr} {ρ : Rho} {μ : Mu} {Q : Bool → Mu → Prop} {pos : Pos} {y : Str} (h : TEP X a ρ μ fun x μ1 => EV X b ρ μ1 (.sh (.str y)) ∧ ∃ z, x = .sh (.str z) ∧ Q (!decide (z = y)) μ1) : TTP X (.Compare a [.NotEq] [b] pos) ρ μ Q :=
  ttp_cmp op_ne (nomark _) (h.imp fun x μ1 ⟨hb, z, ex, q⟩ => hb _ (by
    rw [ex]
    intro ad3 Hb3 H3 v3 w3 W3 r3 r4 Q3 k
    obtain rfl := Rep.str_inv r3
    obtain rfl := Rep.str_inv r4
    refine ⟨rfl, ?_⟩
    have e : (decide (V.str z = V.str y)) = decide (z = y) := decide_eq_decide.mpr ⟨fun w => by cases w; rfl, fun w => by rw [w]⟩
    rw [e]
    exact k.now W3 (x := .sh (.bl (!decide (z = y)))) (.bl _) ⟨_, rfl, q⟩))
theorem EW.is {X : Cx} {e : Expr} {ρ : Rho} {μ : Mu} {x y : Bool} (h : EW X e ρ μ x) (q : x = y) : EW X e ρ μ y := q ▸ h
theorem et_eqBl {X : Cx} {a b : Expr} {ρ : Rho} {μ : Mu} {pos : Pos} {i j : Bool} (ha : EV X a ρ μ (.sh (.bl i))) (hb : EV X b ρ μ (.sh (.bl j))) : ET X (.Compare a [.Eq] [b] pos) ρ μ (decide (i = j)) := et_cmp op_eq (nomark _) ha hb fun Q q ad Hb H v w W r1 r2 Q' k => by
  obtain rfl := Rep.bl_inv r1
  obtain rfl := Rep.bl_inv r2
  refine ⟨rfl, ?_⟩
  have e : (decide (V.bl i = V.bl j)) = decide (i = j) := decide_eq_decide.mpr ⟨fun z => by cases z; rfl, fun z => by rw [z]⟩
  rw [e]
  exact k.now W (x := .sh (.bl (decide (i = j)))) (.bl _) q
theorem some_lt {μ : Mu} {j : Nat} {c : Option Cell} (h : μ[j]? = some c) : j < μ.length := (List.getElem?_eq_some_iff.mp h).1
theorem lend_app {μ : Mu} (ν : Mu) {x : PV.E} {p : P} (h : Lend μ x p) : Lend (μ ++ ν) x p := by
  induction h with
  | sh x => exact .sh x
  | lst h l e ih => exact .lst (by rw [List.getElem?_append_left (some_lt h)]; exact h) l fun i z x a b => ih i z x a b
  | lk h l e ih => exact .lk (by rw [List.getElem?_append_left (some_lt h)]; exact h) l fun i z x a b => ih i z x a b
  | tp l e ih => exact .tp l fun i z x a b => ih i z x a b
abbrev Cls2 := List Lk × Option (List Lk × List Lk)
def lensOk : Cls2 → Prop
  | (r, none) => r.length ≤ 64
  | (lo, some (w, hi)) => lo.length ≤ 64 ∧ w.length ≤ 64 ∧ hi.length ≤ 64
structure ClAt (k : Nat) (c : Cls2) (xs : List (P ⊕ Nat)) (μ : Mu) : Prop where
  lend : Lend μ (.tp xs) (clP c)
  len : xs.length = 3
  it : ∀ x ∈ xs, x = .inl .non ∨ ∃ j zs, x = .inr j ∧ k ≤ j ∧ μ[j]? = some (some (.lst zs)) ∧ zs.length ≤ 64
theorem clQ_at {c : ClR} {μ : Mu} {Q : PV.E → Mu → Prop} (hl : ∀ c', c = some c' → lensOk c') (h0 : c = none → Q (.sh .non) μ) (h1 : ∀ c' xs ν, c = some c' → ClAt μ.length c' xs (μ ++ ν) → Q (.tp xs) (μ ++ ν)) : clQ c μ Q := by
  have g : ∀ (ν : Mu) (i : Nat), (μ ++ ν)[μ.length + i]? = ν[i]? := fun ν i => by rw [List.getElem?_append_right (by omega)]; congr 1; omega
  rcases c with _ | ⟨r, _ | ⟨w, hi⟩⟩
  · exact h0 rfl
  · have hr := hl _ rfl
    have c0 : (μ ++ [some (wayC r)])[μ.length]? = some (some (wayC r)) := g _ 0
    refine h1 _ _ _ rfl ⟨.tp rfl fun i x p hx hp => ?_, rfl, fun x hx => ?_⟩
    · match i, hx, hp with
      | 0, hx, hp => cases hx; cases hp; exact Lend.lstS c0
      | 1, hx, hp => cases hx; cases hp; exact .sh _
      | 2, hx, hp => cases hx; cases hp; exact .sh _
      | i + 3, hx, hp => cases hx
    · simp only [List.mem_cons, List.not_mem_nil, or_false] at hx
      rcases hx with rfl | rfl | rfl
      · exact .inr ⟨_, _, rfl, Nat.le_refl _, c0, by rw [List.length_map, List.length_map]; exact hr⟩
      · exact .inl rfl
      · exact .inl rfl
  · obtain ⟨l1, l2, l3⟩ := hl _ rfl
    have c0 : (μ ++ [some (wayC w), some (wayC r), some (wayC hi)])[μ.length]? = some (some (wayC w)) := g _ 0
    have c1 : (μ ++ [some (wayC w), some (wayC r), some (wayC hi)])[μ.length + 1]? = some (some (wayC r)) := g _ 1
    have c2 : (μ ++ [some (wayC w), some (wayC r), some (wayC hi)])[μ.length + 2]? = some (some (wayC hi)) := g _ 2
    refine h1 _ _ _ rfl ⟨.tp rfl fun i x p hx hp => ?_, rfl, fun x hx => ?_⟩
    · match i, hx, hp with
      | 0, hx, hp => cases hx; cases hp; exact Lend.lstS c1
      | 1, hx, hp => cases hx; cases hp; exact Lend.lstS c0
      | 2, hx, hp => cases hx; cases hp; exact Lend.lstS c2
      | i + 3, hx, hp => cases hx
    · simp only [List.mem_cons, List.not_mem_nil, or_false] at hx
      rcases hx with rfl | rfl | rfl
      · exact .inr ⟨_, _, rfl, by omega, c1, by rw [List.length_map, List.length_map]; exact l1⟩
      · exact .inr ⟨_, _, rfl, by omega, c0, by rw [List.length_map, List.length_map]; exact l2⟩
      · exact .inr ⟨_, _, rfl, by omega, c2, by rw [List.length_map, List.length_map]; exact l3⟩
theorem ClAt.app {k : Nat} {c : Cls2} {xs : List (P ⊕ Nat)} {μ : Mu} (h : ClAt k c xs μ) (ν : Mu) : ClAt k c xs (μ ++ ν) := ⟨lend_app ν h.lend, h.len, fun x hx => by
  rcases h.it x hx with e | ⟨j, zs, e, h1, h2, h3⟩
  · exact .inl e
  · exact .inr ⟨j, zs, e, h1, by rw [List.getElem?_append_left (some_lt h2)]; exact h2, h3⟩⟩
theorem shw_non (n : Nat) : Shw n 2000 .non PyData.none := ⟨.non n, by simp [PyData.showable], by simp only [PyData.shown]; decide⟩
def partsL : Cls2 → List (List Lk)
  | (r, none) => [r]
  | (lo, some (w, hi)) => [lo, w, hi]
theorem shw_cl {c : Cls2} (h : lensOk c) (hs : ∀ o ∈ partsL c, ∀ l ∈ o, ∀ m ∈ lkI l, -1000 < m ∧ m < 1000) : ∃ d, Shw 3 10000 (clP c) d := by
  rcases c with ⟨r, _ | ⟨w, hi⟩⟩
  · obtain ⟨d1, h1⟩ := shw_ring h (hs r (by simp [partsL]))
    obtain ⟨d, hd⟩ := shw_list (n := 2) (B := 2000) (x := clP (r, none)) (ps := [rgP r, .non, .non]) (.inr rfl) (.cons h1 (.cons (shw_non 2) (.cons (shw_non 2) .nil)))
    exact ⟨d, hd.pd, hd.ok, Nat.le_trans hd.len (Nat.le_of_ble_eq_true rfl)⟩
  · obtain ⟨d1, h1⟩ := shw_ring h.1 (hs r (by simp [partsL]))
    obtain ⟨d2, h2⟩ := shw_ring h.2.1 (hs w (by simp [partsL]))
    obtain ⟨d3, h3⟩ := shw_ring h.2.2 (hs hi (by simp [partsL]))
    obtain ⟨d, hd⟩ := shw_list (n := 2) (B := 2000) (x := clP (r, some (w, hi))) (ps := [rgP r, rgP w, rgP hi]) (.inr rfl) (.cons h1 (.cons h2 (.cons h3 .nil)))
    exact ⟨d, hd.pd, hd.ok, Nat.le_trans hd.len (Nat.le_of_ble_eq_true rfl)⟩
/-- what a clash's lists are -/
theorem clash_parts {n : Nat} {W : List Lk} (L : LkOk n W) (ho : HasOrd n W) {c : Cls2} (hc : clashL n W = some c) : lensOk c ∧ ∃ d, Shw 3 10000 (clP c) d := by
  have hin := L.lok.inn
  have hn5 := L.n5
  have hring : ∀ {a : Nat} {r : List Lk}, Ring W a r → r.length ≤ 64 := fun Rg => by
    have h := nat_nd_len Rg.nd (n := n) (outs_lt hin Rg.path)
    unfold outs at h
    rw [List.length_map] at h
    omega
  have sm : ∀ {a b : Nat} {r : List Lk}, Path W a r b → ∀ l ∈ r, ∀ m ∈ lkI l, -1000 < m ∧ m < 1000 := fun p l hl m hm => by
    have h1 := hin l (path_mem p l hl)
    have h2 := L.small l (path_mem p l hl)
    simp only [lkI, List.mem_cons, List.not_mem_nil, or_false] at hm
    rcases hm with rfl | rfl | rfl | rfl <;> omega
  have hlen : lensOk c := by
    rcases c with ⟨r, _ | ⟨w, hi⟩⟩
    · obtain ⟨a, R⟩ := rings_sound (clash_one hc).1
      exact hring R
    · obtain ⟨C, hw, _⟩ := clash_two hin ho hc
      obtain ⟨a, R1⟩ := C.rl
      obtain ⟨b, R2⟩ := C.rh
      exact ⟨hring R1, by omega, hring R2⟩
  refine ⟨hlen, shw_cl hlen fun o hm => ?_⟩
  rcases c with ⟨r, _ | ⟨w, hi⟩⟩
  · obtain ⟨a, R⟩ := rings_sound (clash_one hc).1
    rw [List.mem_singleton.mp (show o ∈ [r] from hm)]
    exact sm R.path
  · obtain ⟨C, hw, _⟩ := clash_two hin ho hc
    obtain ⟨a, R1⟩ := C.rl
    obtain ⟨b, R2⟩ := C.rh
    obtain ⟨x, _, y, _, pw⟩ := C.w
    simp only [partsL, List.mem_cons, List.not_mem_nil, or_false] at hm
    rcases hm with rfl | rfl | rfl
    · exact sm R1.path
    · exact sm pw
    · exact sm R2.path
theorem with_few {n : Nat} {as ds : List Arc} (h1 : ∀ a ∈ as, a.2.2.1 ≤ 2) (h2 : ∀ a ∈ ds, a.2.2.1 ≤ 2) : ∀ l ∈ withLk n as ds, -2 ≤ l.2.2.1 ∧ l.2.2.1 ≤ 2 := fun l hl => by
  have hl := sortL_mem.mp hl
  unfold allLk netLk at hl
  rcases List.mem_append.mp hl with z | z
  · obtain ⟨a, ha, rfl⟩ := List.mem_map.mp z
    have : a.2.2.1 ≤ 2 := by
      rcases List.mem_append.mp ha with y | y
      · exact h1 a y
      · unfold selfArcs at y
        obtain ⟨e, _, rfl⟩ := List.mem_map.mp y
        exact Nat.le_of_ble_eq_true rfl
    show -2 ≤ ((a.2.2.1 : Nat) : Int) ∧ ((a.2.2.1 : Nat) : Int) ≤ 2
    omega
  · obtain ⟨a, ha, rfl⟩ := List.mem_map.mp z
    have := h2 a ha
    show -2 ≤ 0 - ((a.2.2.1 : Nat) : Int) ∧ 0 - ((a.2.2.1 : Nat) : Int) ≤ 2
    omega
def S_law : PSpec := fun xs μ Q => ∃ ns : List Int, xs = [.sh (.scr (ns.map .int))] ∧ ns.length ≤ 1000 ∧ ∀ μ', Q (.sh (.bl true)) μ'
section
variable {Pr : Program} {w : World} {K : PySem.W.Frag} {mg : Str → Option Value} {base : Heap} {f : Addr} {fd : FuncData} {C : Addr}
theorem sc_law : FnScope ["_law_script", "_law_stream", "_law_turn", "_law_net", "_law_distances", "_law_told", "_law_links", "_law_given", "_law_was", "_law_clash", "_law_kept", "_law_part"] ["_law_script"] (defScope s_law) := ⟨rfl, rfl, rfl, by decide +kernel, rfl, by decide +kernel, by decide +kernel⟩
theorem c_law (F : FnP K "law" "law" s_law f fd) (hm : mg "law" = some (.ref f)) (B : Bl mg) (NC : NetC K C) (cSt : Ct true Pr w K mg base 1 "_law_start" S_start) (cDr : Ct true Pr w K mg base 1 "_law_draw" S_draw) (cNet : Ct true Pr w K mg base 3 "_law_n_net" S_net) (cDi : Ct true Pr w K mg base 3 "_law_n_distances" S_ndist) (cTi : Ct true Pr w K mg base 3 "_law_two_rings" S_two)
    (cN : Mkr Pr w K mg base 6 "Net" C PreNet (PostNet C)) (cAl : Ct true Pr w K mg base 2 "_law_n_all_links" (SF F_law_n_all_links)) (cLo : ∀ d, Ct true Pr w K mg base (d + 2) "_law_loose" (S_loose d)) (cOC : Ct true Pr w K mg base 6 "own_clash" (S_own_clash K)) (cOP : Ct true Pr w K mg base 7 "own_plan" (SF (F_own_plan K))) (cPe : Ct true Pr w K mg base 6 "own_periods" (SF (F_own_periods K)))
    (cSs : Ct true Pr w K mg base 1 "_law_starts" (SF F_law_starts)) (cCr : Ct true Pr w K mg base 3 "_law_clash_right" (SF F_clash_right)) (cGr : Ct true Pr w K mg base 4 "_law_grows" (SF F_law_grows)) :
    Ct true Pr w K mg base 8 "law" S_law := by
  refine ct_of F hm sc_law (fun _ _ _ _ _ _ us hl => match us, hl with | [_], _ => rfl) (by rintro _ _ _ ⟨ns, rfl, _⟩; rfl) fun cdv A outer s H E hr xs μ Q hQ => ?_
  obtain ⟨ns, rfl, hns, q⟩ := hQ
  have nd := sc_law.nd
  have hr1 := hr.mono (j := 1) (by decide)
  have hr3 := hr.mono (j := 3) (by decide)
  have hr6 := hr.mono (j := 6) (by decide)
  refine tss_cons (tsp_setP 1 nd (tep_call cSt hr1 (tap_consV (ev_name 0) (tap_nil ⟨ns, rfl, hns, fun μ0 s0 _ _ => ?_⟩))))
  generalize hjs : μ.length + 1 = js at s0 ⊢
  generalize hjc : μ.length = jc at s0 ⊢
  let R : Option PV.E → Option PV.E → Option PV.E → Option PV.E → Option PV.E → Option PV.E → Option PV.E → Option PV.E → Option PV.E → Option PV.E → Rho := fun a2 a3 a4 a5 a6 a7 a8 a9 a10 a11 => [some (.sh (.scr (ns.map .int))), some (.pt js), a2, a3, a4, a5, a6, a7, a8, a9, a10, a11]
  refine tss_cons (tsp_forL (List.range 8) (fun i => .int (i : Nat)) [2] (fun i ρ2 μ2 => (∃ a2 a3 a4 a5 a6 a7 a8 a9 a10 a11, ρ2 = R a2 a3 a4 a5 a6 a7 a8 a9 a10 a11) ∧ StrAt js jc (i * 2000) μ2) (ei_range1 (n := 8) B.range ev_int (by decide)) ⟨⟨none, none, none, none, none, none, none, none, none, none, rfl⟩, s0⟩ ?_ ?_)
  rotate_left
  · rintro ρ2 μ2 ⟨_, s2⟩
    exact tss_one (tsp_retV ev_bl (q _))
  rintro i i' ρ2 μ2 hi ⟨⟨a2, a3, a4, a5, a6, a7, a8, a9, a10, a11, rfl⟩, s2⟩
  obtain ⟨hi8, rfl⟩ := List.getElem?_eq_some_iff.mp hi
  rw [List.getElem_range]
  simp only [List.length_range] at hi8
  refine tgp_name 2 ?_ (by decide) nd rfl (.inl rfl) (.inl rfl)
  let ti : Option PV.E := some (.sh (.int (i : Nat)))
  refine tss_cons (tsp_setP 3 nd (tep_call cNet hr3 (tap_consV (ev_name 1) (tap_consV ev_int (tap_nil ⟨js, jc, _, 6, rfl, s2, by omega, by decide, fun n0 as0 or0 μ3 D0 x3 s3 => ?_⟩)))))
  refine tss_cons (tsp_setP 4 nd (tep_call cDi hr3 (tap_consV (ev_name 1) (tap_consV (ev_name 3) (tap_nil ⟨js, jc, _, n0, as0, rfl, D0.n1, D0.n5, s3, by omega, fun ds0 μ4 DD0 x4 s4 => ?_⟩)))))
  -- a net and distances
  refine tss_cons (tsp_mid (fun ρ5 μ5 => ∃ n as or ds, Drawn 6 n as or ∧ DrawnD n ds ∧ ρ5 = R ti (some (.sh (lnetP n as))) (some (.sh (.lst (ds.map arcP)))) a5 a6 a7 a8 a9 a10 a11 ∧ StrAt js jc (i * 2000 + 700) μ5)
    (tsp_if (ttp_cmp op_eq (nomark _) (tep_draw cDr hr1 (m := 3) (ev_name 1) ev_int s4 (by omega) (by decide) (by decide) fun d μ5 hd b5 s5 => (ev_int) _ (v2_eqI ⟨_, rfl, ?_⟩)))) ?_)
  · by_cases h0 : decide ((d : Int) = 0) = true
    · rw [if_pos h0]
      refine tss_one (tsp_asg [3, 4] (tep_call cTi hr3 (tap_consV (ev_name 1) (tap_nil ⟨js, jc, _, rfl, s5, by omega, fun n as or dd μ6 D6 DD6 x6 s6 => tgp_names ["_law_net", "_law_distances"] [3, 4] nd (.inr rfl) rfl ⟨n, as, or, [dd], D6, DD6, rfl, s6.mono (by omega)⟩⟩))))
    · rw [if_neg h0]
      exact tss_nil ⟨n0, as0, or0, ds0, D0, DD0, rfl, s5.mono (by omega)⟩
  rintro ρ5 μ5 ⟨n, as, or, ds, D, DD, rfl, s5⟩
  clear D0 DD0 x3 x4 s3 s4
  obtain ⟨ord, ho1, hoo⟩ := drawn_ord D
  have hn1 := D.n1
  have hn5 := D.n5
  have hal := D.len
  have hdl := DD.len
  have DO := DD.ok
  -- told, links, given
  refine tss_cons (tsp_par3A 5 6 7 nd (tap_cons (tep_makeT cN hr.room (tap_consV (ev_ixT (xs := [.int (n : Nat), .lst (as.map arcP)]) (ev_name 3) ev_int rfl) (tap_consV (ev_ixT (xs := [.int (n : Nat), .lst (as.map arcP)]) (ev_name 3) ev_int rfl) (tap_nil ⟨[.int (n : Nat), .lst (as.map arcP)], rfl, ⟨.lst (as.map arcP), as, n, ord, rfl, larcs_self as, D.inn, by omega, fun a ha m hm => ?_, D.n1, ho1⟩, fun told htold => ?_⟩))))))
  · have h1 := D.inn a ha
    have h2 := D.small a ha
    simp only [arcI, List.mem_cons, List.not_mem_nil, or_false] at hm
    rcases hm with rfl | rfl | rfl | rfl <;> omega
  obtain ⟨ls, pm, rfl⟩ := post_net htold (larcs_self as) ho1
  have N := drawn_netD NC D hoo pm
  refine tap_consV (ev_call cAl (hr.mono (by decide)) (eas_cons (ev_name 3) (eas_cons (ev_name 4) eas_nil)) ⟨n, as, ds, rfl, by omega, by omega, by omega, rfl⟩) (tap_cons (tep_call (cLo 2) (hr.mono (by decide)) (tap_consV (ev_name 1) (tap_consV (ev_name 4) (tap_nil ⟨js, jc, _, _, rfl, deep_rows (f := arcI) (by omega) (fun a _ => by show 4 ≤ 200; decide), s5, by show _ + 201 < _; omega, fun x2 μ6 hx2 b6 s6 => tap_nil ⟨_, _, _, rfl, ?_⟩⟩)))))
  have s6 : StrAt js jc (i * 2000 + 1000) μ6 := s6.mono (by show _ + 201 ≤ _; omega)
  have hLA2 : LArcs x2 ds := loose_rows (f := arcI) hx2
  obtain ⟨ps2, hps2, hpr2⟩ := id hLA2
  obtain ⟨d2, hd2⟩ := shw_rows (f := arcN) (w := 4) hps2 hpr2 fun d hd => ⟨Nat.le_refl _, fun m hm => by
    have h1 := DD.inn d hd
    have h2 := DD.small d hd
    simp only [arcN, List.mem_cons, List.not_mem_nil, or_false] at hm
    rcases hm with rfl | rfl | rfl | rfl <;> omega⟩
  have hz2 : d2.shown.length ≤ sizeLine := by
    have h1 := hd2.len
    have h2 := hpr2.length
    have h3 : sizeLine = 16777216 := rfl
    omega
  have dep2 : d2.depth ≤ 60 := Nat.le_trans hd2.pd.lay.2 (by decide)
  let netE : Option PV.E := some (.sh (lnetP n as))
  let disE : Option PV.E := some (.sh (.lst (ds.map arcP)))
  let toldE : Option PV.E := some (.sh (netP C n as ord ls))
  let linE : Option PV.E := some (.sh (rgP (allLk n as ds)))
  let givE : Option PV.E := some (.sh x2)
  let wasE : Option PV.E := some (.sh (.str d2.shown))
  have L := with_lkok N DO
  have ho : HasOrd n (withLk n as ds) := with_ord
  have hin := L.lok.inn
  have hiff : ∀ l, l ∈ allLk n as ds ↔ l ∈ withLk n as ds := fun l => by unfold withLk; exact sortL_mem.symm
  have hsub : ∀ l ∈ withLk n as ds, l ∈ allLk n as ds := fun l hl => (hiff l).mpr hl
  have hinl : InK n (allLk n as ds) := fun l hl => hin l ((hiff l).mp hl)
  have hll : (allLk n as ds).length ≤ 1000 := by rw [allLk_len]; omega
  have htk := with_few (n := n) (as := as) (ds := ds) (fun a ha => (D.small a ha).1) (fun a ha => (DD.small a ha).1)
  have hfew : FewTok (withLk n as ds) := fun l hl => (htk l hl).2
  have hst : ∀ U : Nat, U ≤ 40 → F_law_starts [.int (n : Nat), rgP (allLk n as ds), .int (U : Nat)] (stP n U (startsL n U (allLk n as ds))) := fun U hU => ⟨n, _, U, rfl, hinl, by omega, by omega, hll, fun l hl => by have := htk l ((hiff l).mp hl); omega, rfl⟩
  have hl6 := s6.lt
  -- was, clash
  refine tss_cons (tsp_mid (fun ρ7 μ7 => ∃ e, ((clashL n (withLk n as ds) = none ∧ e = .sh .non) ∨ ∃ c xs k, clashL n (withLk n as ds) = some c ∧ e = .tp xs ∧ js < k ∧ jc < k ∧ ClAt k c xs μ7) ∧ ρ7 = R ti netE disE toldE linE givE wasE (some e) a10 a11 ∧ StrAt js jc (i * 2000 + 1000) μ7)
    (tsp_par2A 8 9 nd (tap_consV (ev_repr hr B.repr (ev_name 7) (.sh hd2.pd (by decide)) hd2.ok hd2.noDict dep2 hz2) (tap_cons (tep_call cOC hr6 (tap_consV (ev_name 5) (tap_consV (ev_name 7) (tap_nil ⟨C, n, as, ord, ls, x2, ds, rfl, N, hLA2, DO, clQ_at (fun c hc => (clash_parts L ho hc).1) (fun h0 => tap_nil ⟨_, _, rfl, _, .inl ⟨h0, rfl⟩, rfl, s6⟩) fun c xs ν hc hat => tap_nil ⟨_, _, rfl, _, .inr ⟨c, xs, _, hc, rfl, hl6.1, hl6.2, hat⟩, rfl, s6.app _⟩⟩))))))) ?_)
  rintro ρ7 μ7 ⟨ce, hce, rfl, s7⟩
  clear b6 hl6 s6
  have hcn : isN ce = (clashL n (withLk n as ds)).isNone := by
    rcases hce with ⟨h1, rfl⟩ | ⟨c, xs, k, h1, rfl, _⟩
    · rw [h1]; rfl
    · rw [h1]; rfl
  have hoP : F_own_plan K [netP C n as ord ls, .lst (ds.map arcP)] (ownPlanP n (withLk n as ds)) := ⟨C, n, as, ord, ls, _, ds, rfl, N, larcs_self ds, DO, hfew, rfl⟩
  refine tss_cons (tsp_ifE (d := false) (et_w (ew_or (p := false) (r := false) (ET.is (et_eqBl (ev_isN (x := ce) (ev_name 9)) (ev_isN (x := .sh (ownPlanP n (withLk n as ds))) (ev_call cOP (hr.mono (by decide)) (eas_cons (ev_name 5) (eas_cons (ev_name 4) eas_nil)) hoP))) (by rw [hcn, ownPlan_isN]; cases clashL n (withLk n as ds) <;> rfl)) fun _ => ew_or1 (ET.is (et_neSS (ev_repr hr B.repr (ev_name 7) (.sh hd2.pd (by decide)) hd2.ok hd2.noDict dep2 hz2) (ev_name 8)) (by simp)))) (fun h => nomatch h) fun _ => tss_nil ?_)
  refine tss_cons (tsp_ifE (d := isN ce) (et_isN (x := ce) (ev_name 9)) (fun h => ?_) fun h => tss_nil ?_)
  · rw [hcn] at h
    have hc0 : clashL n (withLk n as ds) = none := Option.isNone_iff_eq_none.mp h
    obtain ⟨k1, k2⟩ := clash_none.mp hc0
    have hb := botK_bd hin ho hn5 hfew (k := n) (Nat.le_refl _)
    obtain ⟨f0, hf0⟩ := own_starts (B := (botK n (withLk n as ds) n : Int)) hin ho k1 k2 (by omega) (botK_ok hin ho hn5 hfew n (Nat.le_refl _)).2 8
    obtain ⟨f1, hf1⟩ := starts_sub hin hinl (fun l hl => (hiff l).mp hl) hf0
    refine tss_cons (tsp_ifE (d := false) (ET.is (et_isN (x := .sh (stP n 8 (startsL n 8 (allLk n as ds)))) (ev_call cSs hr1 (eas_cons (ev_ixT (xs := [.int (n : Nat), .lst (as.map arcP)]) (ev_name 3) ev_int rfl) (eas_cons (ev_name 6) (eas_cons ev_int eas_nil))) (hst 8 (by omega)))) (by rw [hf1]; rfl)) (fun h => nomatch h) fun _ => tss_nil ?_)
    exact tss_one (tsp_continue ⟨⟨_, _, _, _, _, _, _, _, _, _, rfl⟩, s7.mono (by omega)⟩)
  rcases hce with ⟨h1, rfl⟩ | ⟨c, xs, k, hc, rfl, hk1, hk2, hat⟩
  · cases h
  obtain ⟨hlens, dc, hdc⟩ := clash_parts L ho hc
  have depc : dc.depth ≤ 60 := Nat.le_trans hdc.pd.lay.2 (by decide)
  have hzc : dc.shown.length ≤ sizeLine := Nat.le_trans hdc.len (by decide)
  have oc : ∀ {μ : Mu} {Q : PV.E → Mu → Prop}, (∀ xs ν, Lend (μ ++ ν) (.tp xs) (clP c) → Q (.tp xs) (μ ++ ν)) → S_own_clash K [.sh (netP C n as ord ls), .sh (.lst (ds.map arcP))] μ Q := fun {μ Q} hq => ⟨C, n, as, ord, ls, _, ds, rfl, N, larcs_self ds, DO, clQ_at (fun c hc => (clash_parts L ho hc).1) (fun h0 => absurd (hc.symm.trans h0) (fun z => nomatch z)) fun c' xs ν hc' hat' => hq xs ν (by
    have : c' = c := Option.some.inj (hc'.symm.trans hc)
    rw [← this]
    exact hat'.lend)⟩
  refine tss_cons (tsp_if (TWP.t (twp_or ((et_not (p := true) (et_val fun Q q => tep_lend cCr (hr.mono (by decide)) (tap_consV (ev_name 6) (tap_consV (ev_name 9) (tap_nil ⟨[rgP (allLk n as ds), clP c], .bl true, .cons (.sh _) (.cons hat.lend .nil), ⟨n, _, _, c, rfl, L, ho, hsub, hll, hc, rfl⟩, rfl, q⟩))))) _ ?_))))
  rw [if_neg (by decide)]
  refine twp_or1 (ttp_neS (y := dc.shown) (tep_reprL hr B.repr (tep_call cOC hr6 (tap_consV (ev_name 5) (tap_consV (ev_name 4) (tap_nil (oc fun ys ν hly => ⟨clP c, 3, dc, hly, hdc.pd, hdc.ok, hdc.noDict, depc, hzc, fun Q q => tep_reprL hr B.repr ((ev_name 9) _ ⟨clP c, 3, dc, lend_app ν hat.lend, hdc.pd, hdc.ok, hdc.noDict, depc, hzc, q⟩), _, rfl, ?_⟩)))))))
  rw [if_neg (by simp)]
  refine tss_nil ?_
  have hat8 := hat.app ν
  have s8 := s7.app ν
  generalize μ7 ++ ν = μ8 at hat8 s8 ⊢
  clear hat s7
  refine tss_cons (tsp_ifE (d := false) (et_not (p := true) (et_val fun Q q => tep_lend cGr (hr.mono (by decide)) (tap_consV (ev_ixT (xs := [.int (n : Nat), .lst (as.map arcP)]) (ev_name 3) ev_int rfl) (tap_consV (ev_name 6) (tap_consV (ev_name 9) (tap_nil ⟨[.int (n : Nat), rgP (allLk n as ds), clP c], .bl true, .cons (.sh _) (.cons (.sh _) (.cons hat8.lend .nil)), ⟨n, _, _, c, rfl, L, ho, hiff, hll, hn1, htk, hc, rfl⟩, rfl, q⟩)))))) (fun h => nomatch h) fun _ => tss_nil ?_)
  refine tss_cons (tsp_setP 10 nd (tep_reprL hr B.repr ((ev_name 9) _ ⟨clP c, 3, dc, hat8.lend, hdc.pd, hdc.ok, hdc.noDict, depc, hzc, ?_⟩)))
  let keE : Option PV.E := some (.sh (.str dc.shown))
  refine tss_cons (tsp_forE [11] (items := xs.map iE) (fun i3 ρ9 μ9 => (∃ a11, ρ9 = R ti netE disE toldE linE givE wasE (some (.tp xs)) keE a11) ∧ StrAt js jc (i * 2000 + 1000) μ9 ∧ ∀ x ∈ xs, x = .inl .non ∨ ∃ j zs, x = .inr j ∧ k ≤ j ∧ μ9[j]? = some (some (.lst zs)) ∧ zs.length ≤ 64 + i3) (ei_tp (ev_name 9)) ⟨⟨_, rfl⟩, s8, hat8.it⟩ ?_ ?_)
  · rintro i3 x ρ9 μ9 hx ⟨⟨a11, rfl⟩, s9, hit⟩
    rw [List.getElem?_map] at hx
    obtain ⟨y, hy, rfl⟩ := Option.map_eq_some_iff.mp hx
    have hi3 : i3 < 3 := by rw [← hat8.len]; exact (List.getElem?_eq_some_iff.mp hy).1
    refine tgp_name 11 ?_ (by decide) nd rfl (.inl rfl) (.inl rfl)
    rcases hit y (List.mem_of_getElem? hy) with rfl | ⟨j, zs, rfl, hkj, hj, hzs⟩
    · refine tss_one (tsp_ifE (d := false) (et_val (ev_isi (x := .non) (T := "NoneType") (r := false) B.isinstance (ev_name 11) (ev_ty B.list bo_list) rfl rfl)) (fun h => nomatch h) fun _ => tss_nil ⟨⟨_, rfl⟩, s9, fun x hx => ?_⟩)
      rcases hit x hx with e | ⟨j, zs, e, h1, h2, h3⟩
      · exact .inl e
      · exact .inr ⟨j, zs, e, h1, h2, by omega⟩
    · refine tss_one (tsp_ifE (d := true) (et_val (ev_isiC (r := true) B.isinstance (ev_name 11) hj (ev_ty B.list bo_list) rfl)) (fun _ => ?_) fun h => nomatch h)
      refine tss_one (tsp_expr (tep_append ((ev_name 11) _ ⟨j, zs, rfl, hj, (ev_str) _ ⟨zs, hj, by omega, ⟨_, rfl⟩, s9.set (by omega) (by omega) _, fun x hx => ?_⟩⟩)))
      rcases hit x hx with e | ⟨j2, zs2, e, h1, h2, h3⟩
      · exact .inl e
      · by_cases ej : j = j2
        · subst ej
          exact .inr ⟨j, _, e, h1, List.getElem?_set_self (some_lt hj), by rw [List.length_append, List.length_singleton]; omega⟩
        · exact .inr ⟨j2, zs2, e, h1, by rw [List.getElem?_set_ne ej]; exact h2, by omega⟩
  rintro ρ9 μ9 ⟨⟨a11, rfl⟩, s9, _⟩
  refine tss_cons (tsp_if (ttp_neS (y := dc.shown) (tep_reprL hr B.repr (tep_call cOC hr6 (tap_consV (ev_name 5) (tap_consV (ev_name 4) (tap_nil (oc fun ys ν hly => ⟨clP c, 3, dc, hly, hdc.pd, hdc.ok, hdc.noDict, depc, hzc, ev_name 10, _, rfl, ?_⟩))))))))
  rw [if_neg (by simp)]
  refine tss_nil ?_
  have c0 : clashL n (withLk n as []) = none := clash_free (with_lkok N nil_ok).lok.inn fun a r R => ord_tok hoo D.inn (fun l hl => by
    have := sortL_mem.mp hl
    unfold allLk at this
    simpa using this) R
  refine tss_one (tsp_ifE (d := false) (et_w (ew_or (p := false) (r := false) (ET.is (et_isN (x := .sh (ownPerP n (withLk n as []))) (ev_call cPe hr6 (eas_cons (ev_name 5) (eas_cons (ev_lst (ys := []) eas_nil) eas_nil)) ⟨C, n, as, ord, ls, _, [], rfl, N, larcs_self [], nil_ok, rfl⟩)) (by rw [ownPer_isN, c0]; rfl)) fun _ => ew_or1 (ET.is (et_notN (x := .sh .non) fun Q q => tep_call cOC hr6 (tap_consV (ev_name 5) (tap_consV (ev_lst (ys := []) eas_nil) (tap_nil ⟨C, n, as, ord, ls, _, [], rfl, N, larcs_self [], nil_ok, by rw [c0]; exact q⟩)))) rfl))) (fun h => nomatch h) fun _ => tss_nil ⟨⟨_, _, _, _, _, _, _, _, _, _, rfl⟩, (s9.app ν).mono (by omega)⟩)
end
end PV

namespace HB
open PySem PySem.Spec PyProof.Rows L2
abbrev RL : PySem.W.OpenLaw := PySem.Challenge.rw_anyload_k86_whole_clashes_of_own_plans
def fn0 : List He.DefD := [
  ⟨("is_list", none), "is_list", "is_list", defArgs (PV.top 4), defBody (PV.top 4), defScope (PV.top 4), [], []⟩,
  ⟨("is_whole", none), "is_whole", "is_whole", defArgs (PV.top 5), defBody (PV.top 5), defScope (PV.top 5), [], []⟩,
  ⟨("is_number", none), "is_number", "is_number", defArgs (PV.top 6), defBody (PV.top 6), defScope (PV.top 6), [], []⟩,
  ⟨("is_positive", none), "is_positive", "is_positive", defArgs (PV.top 7), defBody (PV.top 7), defScope (PV.top 7), [], []⟩,
  ⟨("multiple_of", none), "multiple_of", "multiple_of", defArgs (PV.top 8), defBody (PV.top 8), defScope (PV.top 8), [], []⟩,
  ⟨("lowest", none), "lowest", "lowest", defArgs (PV.top 9), defBody (PV.top 9), defScope (PV.top 9), [], []⟩,
  ⟨("is_below", none), "is_below", "is_below", defArgs (PV.top 10), defBody (PV.top 10), defScope (PV.top 10), [], []⟩,
  ⟨("are_numbers", none), "are_numbers", "are_numbers", defArgs (PV.top 17), defBody (PV.top 17), defScope (PV.top 17), [], []⟩,
  ⟨("is_arc", none), "is_arc", "is_arc", defArgs (PV.top 18), defBody (PV.top 18), defScope (PV.top 18), [], []⟩,
  ⟨("checked_arcs", none), "checked_arcs", "checked_arcs", defArgs (PV.top 19), defBody (PV.top 19), defScope (PV.top 19), [], []⟩,
  ⟨("longer_ways", none), "longer_ways", "longer_ways", defArgs (PV.top 20), defBody (PV.top 20), defScope (PV.top 20), [], []⟩,
  ⟨("rings_of", none), "rings_of", "rings_of", defArgs (PV.top 21), defBody (PV.top 21), defScope (PV.top 21), [], []⟩,
  ⟨("order_of", none), "order_of", "order_of", defArgs (PV.top 22), defBody (PV.top 22), defScope (PV.top 22), [], []⟩,
  ⟨("Net", some "__init__"), "__init__", "Net.__init__", defArgs (inClass (PV.top 23) 0), defBody (inClass (PV.top 23) 0), defScope (inClass (PV.top 23) 0), [], []⟩,
  ⟨("Net", some "events"), "events", "Net.events", defArgs (inClass (PV.top 23) 1), defBody (inClass (PV.top 23) 1), defScope (inClass (PV.top 23) 1), [], []⟩,
  ⟨("Net", some "arcs"), "arcs", "Net.arcs", defArgs (inClass (PV.top 23) 2), defBody (inClass (PV.top 23) 2), defScope (inClass (PV.top 23) 2), [], []⟩,
  ⟨("Net", some "__eq__"), "__eq__", "Net.__eq__", defArgs (inClass (PV.top 23) 3), defBody (inClass (PV.top 23) 3), defScope (inClass (PV.top 23) 3), [], []⟩,
  ⟨("led_to", none), "led_to", "led_to", defArgs (PV.top 25), defBody (PV.top 25), defScope (PV.top 25), [], []⟩,
  ⟨("sums_of", none), "sums_of", "sums_of", defArgs (PV.top 27), defBody (PV.top 27), defScope (PV.top 27), [], []⟩,
  ⟨("potentials", none), "potentials", "potentials", defArgs (PV.top 28), defBody (PV.top 28), defScope (PV.top 28), [], []⟩]
def fn1 : List He.DefD := [
  ⟨("links_with", none), "links_with", "links_with", defArgs (PV.top 30), defBody (PV.top 30), defScope (PV.top 30), [], []⟩,
  ⟨("asked", none), "asked", "asked", defArgs (PV.top 31), defBody (PV.top 31), defScope (PV.top 31), [], []⟩,
  ⟨("lower_rings", none), "lower_rings", "lower_rings", defArgs (PV.top 33), defBody (PV.top 33), defScope (PV.top 33), [], []⟩,
  ⟨("way_between", none), "way_between", "way_between", defArgs (PV.top 34), defBody (PV.top 34), defScope (PV.top 34), [], []⟩,
  ⟨("clash_of", none), "clash_of", "clash_of", defArgs (PV.top 35), defBody (PV.top 35), defScope (PV.top 35), [], []⟩,
  ⟨("own_clash", none), "own_clash", "own_clash", defArgs (PV.top 36), defBody (PV.top 36), defScope (PV.top 36), [], []⟩,
  ⟨("own_periods", none), "own_periods", "own_periods", defArgs (PV.top 37), defBody (PV.top 37), defScope (PV.top 37), [], []⟩,
  ⟨("own_plan", none), "own_plan", "own_plan", defArgs (PV.top 38), defBody (PV.top 38), defScope (PV.top 38), [], []⟩,
  ⟨("_law_start", none), "_law_start", "_law_start", defArgs (PV.top 40), defBody (PV.top 40), defScope (PV.top 40), [], []⟩,
  ⟨("_law_draw", none), "_law_draw", "_law_draw", defArgs (PV.top 41), defBody (PV.top 41), defScope (PV.top 41), [], []⟩,
  ⟨("_law_pick", none), "_law_pick", "_law_pick", defArgs (PV.top 42), defBody (PV.top 42), defScope (PV.top 42), [], []⟩,
  ⟨("_law_mixed", none), "_law_mixed", "_law_mixed", defArgs (PV.top 43), defBody (PV.top 43), defScope (PV.top 43), [], []⟩,
  ⟨("_law_loose", none), "_law_loose", "_law_loose", defArgs (PV.top 44), defBody (PV.top 44), defScope (PV.top 44), [], []⟩,
  ⟨("_law_n_net", none), "_law_n_net", "_law_n_net", defArgs (PV.top 45), defBody (PV.top 45), defScope (PV.top 45), [], []⟩,
  ⟨("_law_n_links", none), "_law_n_links", "_law_n_links", defArgs (PV.top 46), defBody (PV.top 46), defScope (PV.top 46), [], []⟩,
  ⟨("_law_n_distances", none), "_law_n_distances", "_law_n_distances", defArgs (PV.top 47), defBody (PV.top 47), defScope (PV.top 47), [], []⟩,
  ⟨("_law_n_all_links", none), "_law_n_all_links", "_law_n_all_links", defArgs (PV.top 48), defBody (PV.top 48), defScope (PV.top 48), [], []⟩,
  ⟨("_law_n_sums", none), "_law_n_sums", "_law_n_sums", defArgs (PV.top 49), defBody (PV.top 49), defScope (PV.top 49), [], []⟩,
  ⟨("_law_is_less", none), "_law_is_less", "_law_is_less", defArgs (PV.top 50), defBody (PV.top 50), defScope (PV.top 50), [], []⟩,
  ⟨("_law_turned_up", none), "_law_turned_up", "_law_turned_up", defArgs (PV.top 51), defBody (PV.top 51), defScope (PV.top 51), [], []⟩]
def fn2 : List He.DefD := [
  ⟨("_law_n_is_ring", none), "_law_n_is_ring", "_law_n_is_ring", defArgs (PV.top 52), defBody (PV.top 52), defScope (PV.top 52), [], []⟩,
  ⟨("_law_n_asks", none), "_law_n_asks", "_law_n_asks", defArgs (PV.top 53), defBody (PV.top 53), defScope (PV.top 53), [], []⟩,
  ⟨("_law_clash_right", none), "_law_clash_right", "_law_clash_right", defArgs (PV.top 54), defBody (PV.top 54), defScope (PV.top 54), [], []⟩,
  ⟨("_law_starts", none), "_law_starts", "_law_starts", defArgs (PV.top 55), defBody (PV.top 55), defScope (PV.top 55), [], []⟩,
  ⟨("_law_far", none), "_law_far", "_law_far", defArgs (PV.top 56), defBody (PV.top 56), defScope (PV.top 56), [], []⟩,
  ⟨("_law_grows", none), "_law_grows", "_law_grows", defArgs (PV.top 57), defBody (PV.top 57), defScope (PV.top 57), [], []⟩,
  ⟨("_law_two_rings", none), "_law_two_rings", "_law_two_rings", defArgs (PV.top 58), defBody (PV.top 58), defScope (PV.top 58), [], []⟩,
  ⟨("law", none), "law", "law", defArgs (PV.top 59), defBody (PV.top 59), defScope (PV.top 59), [], []⟩]
def fn : List He.DefD := fn0 ++ fn1 ++ fn2
def fa0 : List He.Fa := [.glo "LoadError", .glo "is_list", .glo "is_whole", .glo "is_number", .glo "is_positive", .glo "multiple_of", .glo "lowest", .glo "is_below", .glo "BadMany", .glo "BadArc", .glo "Stuck", .glo "BadDistances", .glo "are_numbers", .glo "is_arc", .glo "checked_arcs", .glo "longer_ways", .glo "rings_of", .glo "order_of", .glo "Net", .glo "led_to", .glo "sums_of", .glo "potentials", .glo "links_with", .glo "asked", .glo "lower_rings", .glo "way_between", .glo "clash_of", .glo "own_clash", .glo "own_periods", .glo "own_plan"]
def fa1 : List He.Fa := [.glo "_law_start", .glo "_law_draw", .glo "_law_pick", .glo "_law_mixed", .glo "_law_loose", .glo "_law_n_net", .glo "_law_n_links", .glo "_law_n_distances", .glo "_law_n_all_links", .glo "_law_n_sums", .glo "_law_is_less", .glo "_law_turned_up", .glo "_law_n_is_ring", .glo "_law_n_asks", .glo "_law_clash_right", .glo "_law_starts", .glo "_law_far", .glo "_law_grows", .glo "_law_two_rings", .glo "law", .free "ValueError", .free "abs", .free "all", .free "any", .free "bool", .free "dict", .free "enumerate", .free "int", .free "isinstance", .free "len"]
def fa2 : List He.Fa := [.free "list", .free "max", .free "min", .free "range", .free "repr", .free "set", .free "sorted", .free "sum", .free "super", .free "tuple", .free "zip", .cls "Net", .mkr "Net", .meth "Net" "events", .meth "Net" "arcs", .meth "Net" "__eq__", .noat "Net" "many", .noat "Net" "own_arcs", .noat "Net" "order", .noat "Net" "links", .noat "Net" "kept"]
def fa : List He.Fa := fa0 ++ fa1 ++ fa2
def lo0 : List PySem.Str := ["LoadError", "is_list", "is_whole", "is_number", "is_positive", "multiple_of", "lowest", "is_below", "BadMany", "BadArc", "Stuck", "BadDistances", "are_numbers", "is_arc", "checked_arcs", "longer_ways", "rings_of", "order_of", "Net", "led_to", "sums_of", "potentials", "links_with", "asked", "lower_rings", "way_between", "clash_of", "own_clash", "own_periods", "own_plan"]
def lo1 : List PySem.Str := ["_law_start", "_law_draw", "_law_pick", "_law_mixed", "_law_loose", "_law_n_net", "_law_n_links", "_law_n_distances", "_law_n_all_links", "_law_n_sums", "_law_is_less", "_law_turned_up", "_law_n_is_ring", "_law_n_asks", "_law_clash_right", "_law_starts", "_law_far", "_law_grows", "_law_two_rings"]
def lo : List PySem.Str := lo0 ++ lo1
abbrev R : PySem.W.OpenRow := PySem.W.OpenLaw.row RL
abbrev hk : PySem.W.Hook := PV.hookM 6 fa fn PV.exGcd
def ob (s : PySem.W.SharedT) : He.AlD × Bool := PV.obsM 6 fa fn PV.exGcd (HandSHeadRun.getT s)
theorem ob_eq (s : PySem.W.SharedT) : ob s = hk.obs s.abs := PV.obsM_eq (HandSHeadRun.getT_eq s)
theorem run (w : World) : HandSHeadRun.RunEqI R (PySem.W.view R.prog [0, 59]) hk ob 6000 lo w := by
  unfold HandSHeadRun.RunEqI
  kernel_rfl
end HB


namespace PV
open PySem PySem.Spec PyProof.Rows L2
theorem factsL {P : Program} {w : World} {K : PySem.W.Frag} {h : Heap} {mg : Str → Option Value} (X : K.In h) (G : h.Ns mainGlobals mg) (c : He.SaysD HB.fa HB.fn K) (cg : exGcd K = true) (base : Heap) : Ct true P w K mg base 8 "law" S_law := by
  have g_is_list := He.glo_ok X G (c.fact 1 (f := .glo "is_list") rfl)
  obtain ⟨d_is_list, F_is_list_⟩ := c.def_ 0 rfl
  have g_is_whole := He.glo_ok X G (c.fact 2 (f := .glo "is_whole") rfl)
  obtain ⟨d_is_whole, F_is_whole_⟩ := c.def_ 1 rfl
  have g_is_number := He.glo_ok X G (c.fact 3 (f := .glo "is_number") rfl)
  obtain ⟨d_is_number, F_is_number_⟩ := c.def_ 2 rfl
  have g_is_positive := He.glo_ok X G (c.fact 4 (f := .glo "is_positive") rfl)
  obtain ⟨d_is_positive, F_is_positive_⟩ := c.def_ 3 rfl
  have g_are_numbers := He.glo_ok X G (c.fact 12 (f := .glo "are_numbers") rfl)
  obtain ⟨d_are_numbers, F_are_numbers_⟩ := c.def_ 7 rfl
  have g_is_arc := He.glo_ok X G (c.fact 13 (f := .glo "is_arc") rfl)
  obtain ⟨d_is_arc, F_is_arc_⟩ := c.def_ 8 rfl
  have g_checked_arcs := He.glo_ok X G (c.fact 14 (f := .glo "checked_arcs") rfl)
  obtain ⟨d_checked_arcs, F_checked_arcs_⟩ := c.def_ 9 rfl
  have g_order_of := He.glo_ok X G (c.fact 17 (f := .glo "order_of") rfl)
  obtain ⟨d_order_of, F_order_of_⟩ := c.def_ 12 rfl
  obtain ⟨d_Net___init__, F_Net___init___⟩ := c.def_ 13 rfl
  have g_lowest := He.glo_ok X G (c.fact 6 (f := .glo "lowest") rfl)
  obtain ⟨d_lowest, F_lowest_⟩ := c.def_ 5 rfl
  have g_is_below := He.glo_ok X G (c.fact 7 (f := .glo "is_below") rfl)
  obtain ⟨d_is_below, F_is_below_⟩ := c.def_ 6 rfl
  have g_sums_of := He.glo_ok X G (c.fact 20 (f := .glo "sums_of") rfl)
  obtain ⟨d_sums_of, F_sums_of_⟩ := c.def_ 18 rfl
  have g_asked := He.glo_ok X G (c.fact 23 (f := .glo "asked") rfl)
  obtain ⟨d_asked, F_asked_⟩ := c.def_ 21 rfl
  have g_longer_ways := He.glo_ok X G (c.fact 15 (f := .glo "longer_ways") rfl)
  obtain ⟨d_longer_ways, F_longer_ways_⟩ := c.def_ 10 rfl
  have g_rings_of := He.glo_ok X G (c.fact 16 (f := .glo "rings_of") rfl)
  obtain ⟨d_rings_of, F_rings_of_⟩ := c.def_ 11 rfl
  have g_potentials := He.glo_ok X G (c.fact 21 (f := .glo "potentials") rfl)
  obtain ⟨d_potentials, F_potentials_⟩ := c.def_ 19 rfl
  have g_links_with := He.glo_ok X G (c.fact 22 (f := .glo "links_with") rfl)
  obtain ⟨d_links_with, F_links_with_⟩ := c.def_ 20 rfl
  have g_multiple_of := He.glo_ok X G (c.fact 5 (f := .glo "multiple_of") rfl)
  obtain ⟨d_multiple_of, F_multiple_of_⟩ := c.def_ 4 rfl
  have g_led_to := He.glo_ok X G (c.fact 19 (f := .glo "led_to") rfl)
  obtain ⟨d_led_to, F_led_to_⟩ := c.def_ 17 rfl
  have g_lower_rings := He.glo_ok X G (c.fact 24 (f := .glo "lower_rings") rfl)
  obtain ⟨d_lower_rings, F_lower_rings_⟩ := c.def_ 22 rfl
  have g_way_between := He.glo_ok X G (c.fact 25 (f := .glo "way_between") rfl)
  obtain ⟨d_way_between, F_way_between_⟩ := c.def_ 23 rfl
  have g_clash_of := He.glo_ok X G (c.fact 26 (f := .glo "clash_of") rfl)
  obtain ⟨d_clash_of, F_clash_of_⟩ := c.def_ 24 rfl
  have g_own_clash := He.glo_ok X G (c.fact 27 (f := .glo "own_clash") rfl)
  obtain ⟨d_own_clash, F_own_clash_⟩ := c.def_ 25 rfl
  have g_own_periods := He.glo_ok X G (c.fact 28 (f := .glo "own_periods") rfl)
  obtain ⟨d_own_periods, F_own_periods_⟩ := c.def_ 26 rfl
  have g_own_plan := He.glo_ok X G (c.fact 29 (f := .glo "own_plan") rfl)
  obtain ⟨d_own_plan, F_own_plan_⟩ := c.def_ 27 rfl
  have g__law_start := He.glo_ok X G (c.fact 30 (f := .glo "_law_start") rfl)
  obtain ⟨d__law_start, F__law_start_⟩ := c.def_ 28 rfl
  have g__law_draw := He.glo_ok X G (c.fact 31 (f := .glo "_law_draw") rfl)
  obtain ⟨d__law_draw, F__law_draw_⟩ := c.def_ 29 rfl
  have g__law_pick := He.glo_ok X G (c.fact 32 (f := .glo "_law_pick") rfl)
  obtain ⟨d__law_pick, F__law_pick_⟩ := c.def_ 30 rfl
  have g__law_mixed := He.glo_ok X G (c.fact 33 (f := .glo "_law_mixed") rfl)
  obtain ⟨d__law_mixed, F__law_mixed_⟩ := c.def_ 31 rfl
  have g__law_n_net := He.glo_ok X G (c.fact 35 (f := .glo "_law_n_net") rfl)
  obtain ⟨d__law_n_net, F__law_n_net_⟩ := c.def_ 33 rfl
  have g__law_n_links := He.glo_ok X G (c.fact 36 (f := .glo "_law_n_links") rfl)
  obtain ⟨d__law_n_links, F__law_n_links_⟩ := c.def_ 34 rfl
  have g__law_loose := He.glo_ok X G (c.fact 34 (f := .glo "_law_loose") rfl)
  obtain ⟨d__law_loose, F__law_loose_⟩ := c.def_ 32 rfl
  have g__law_n_distances := He.glo_ok X G (c.fact 37 (f := .glo "_law_n_distances") rfl)
  obtain ⟨d__law_n_distances, F__law_n_distances_⟩ := c.def_ 35 rfl
  have g__law_n_all_links := He.glo_ok X G (c.fact 38 (f := .glo "_law_n_all_links") rfl)
  obtain ⟨d__law_n_all_links, F__law_n_all_links_⟩ := c.def_ 36 rfl
  have g__law_n_sums := He.glo_ok X G (c.fact 39 (f := .glo "_law_n_sums") rfl)
  obtain ⟨d__law_n_sums, F__law_n_sums_⟩ := c.def_ 37 rfl
  have g__law_is_less := He.glo_ok X G (c.fact 40 (f := .glo "_law_is_less") rfl)
  obtain ⟨d__law_is_less, F__law_is_less_⟩ := c.def_ 38 rfl
  have g__law_turned_up := He.glo_ok X G (c.fact 41 (f := .glo "_law_turned_up") rfl)
  obtain ⟨d__law_turned_up, F__law_turned_up_⟩ := c.def_ 39 rfl
  have g__law_n_is_ring := He.glo_ok X G (c.fact 42 (f := .glo "_law_n_is_ring") rfl)
  obtain ⟨d__law_n_is_ring, F__law_n_is_ring_⟩ := c.def_ 40 rfl
  have g__law_n_asks := He.glo_ok X G (c.fact 43 (f := .glo "_law_n_asks") rfl)
  obtain ⟨d__law_n_asks, F__law_n_asks_⟩ := c.def_ 41 rfl
  have g__law_clash_right := He.glo_ok X G (c.fact 44 (f := .glo "_law_clash_right") rfl)
  obtain ⟨d__law_clash_right, F__law_clash_right_⟩ := c.def_ 42 rfl
  have g__law_starts := He.glo_ok X G (c.fact 45 (f := .glo "_law_starts") rfl)
  obtain ⟨d__law_starts, F__law_starts_⟩ := c.def_ 43 rfl
  have g__law_far := He.glo_ok X G (c.fact 46 (f := .glo "_law_far") rfl)
  obtain ⟨d__law_far, F__law_far_⟩ := c.def_ 44 rfl
  have g__law_grows := He.glo_ok X G (c.fact 47 (f := .glo "_law_grows") rfl)
  obtain ⟨d__law_grows, F__law_grows_⟩ := c.def_ 45 rfl
  have g__law_two_rings := He.glo_ok X G (c.fact 48 (f := .glo "_law_two_rings") rfl)
  obtain ⟨d__law_two_rings, F__law_two_rings_⟩ := c.def_ 46 rfl
  have g_law := He.glo_ok X G (c.fact 49 (f := .glo "law") rfl)
  obtain ⟨d_law, F_law_⟩ := c.def_ 47 rfl
  have B : Bl mg := ⟨He.free_ok X G (c.fact 59 (f := .free "len") rfl), He.free_ok X G (c.fact 60 (f := .free "list") rfl), He.free_ok X G (c.fact 69 (f := .free "tuple") rfl), He.free_ok X G (c.fact 63 (f := .free "range") rfl), He.free_ok X G (c.fact 56 (f := .free "enumerate") rfl), He.free_ok X G (c.fact 70 (f := .free "zip") rfl), He.free_ok X G (c.fact 66 (f := .free "sorted") rfl), He.free_ok X G (c.fact 61 (f := .free "max") rfl), He.free_ok X G (c.fact 62 (f := .free "min") rfl), He.free_ok X G (c.fact 67 (f := .free "sum") rfl), He.free_ok X G (c.fact 52 (f := .free "all") rfl), He.free_ok X G (c.fact 53 (f := .free "any") rfl), He.free_ok X G (c.fact 58 (f := .free "isinstance") rfl), He.free_ok X G (c.fact 57 (f := .free "int") rfl), He.free_ok X G (c.fact 54 (f := .free "bool") rfl), He.free_ok X G (c.fact 55 (f := .free "dict") rfl), He.free_ok X G (c.fact 64 (f := .free "repr") rfl)⟩
  have gg := gcd_ok X G cg
  have gabs := He.free_ok X G (c.fact 51 (f := .free "abs") rfl)
  have gset := He.free_ok X G (c.fact 65 (f := .free "set") rfl)
  have gNet := He.glo_ok X G (c.fact 18 (f := .glo "Net") rfl)
  have NC : NetC K (He.ga K "Net") := ⟨He.cls_ok (c.fact 71 (f := .cls "Net") rfl), He.noat_ok (c.fact 76 (f := .noat "Net" "many") rfl), He.noat_ok (c.fact 77 (f := .noat "Net" "own_arcs") rfl), He.noat_ok (c.fact 78 (f := .noat "Net" "order") rfl), He.noat_ok (c.fact 79 (f := .noat "Net" "links") rfl), He.noat_ok (c.fact 80 (f := .noat "Net" "kept") rfl)⟩
  have MN := He.mkr_ok (c.fact 72 (f := .mkr "Net") rfl)
  have c_il : ∀ g, Ct g P w K mg base 1 "is_list" (SF F_is_list) := fun g => c_is_list F_is_list_ g_is_list B
  have c_iw : ∀ g, Ct g P w K mg base 1 "is_whole" (SF F_is_whole) := fun g => c_is_whole F_is_whole_ g_is_whole B
  have c_in : ∀ g, Ct g P w K mg base 2 "is_number" (SF F_is_number) := fun g => c_is_number F_is_number_ g_is_number (c_iw g)
  have c_ip : ∀ g, Ct g P w K mg base 2 "is_positive" (SF F_is_positive) := fun g => c_is_positive F_is_positive_ g_is_positive (c_iw g)
  have c_an : ∀ g, Ct g P w K mg base 3 "are_numbers" (SF F_are_numbers) := fun g => c_are_numbers F_are_numbers_ g_are_numbers B (c_il g) (c_in g)
  have c_ia : ∀ g, Ct g P w K mg base 4 "is_arc" (SF F_is_arc) := fun g => c_is_arc F_is_arc_ g_is_arc (c_an g)
  have c_ca : ∀ g, Ct g P w K mg base 5 "checked_arcs" (SF F_checked_arcs) := fun g => c_checked_arcs F_checked_arcs_ g_checked_arcs B (c_il g) (c_ia g)
  have c_oo : ∀ g, Ct g P w K mg base 1 "order_of" (SF F_order_of) := fun g => c_order_of F_order_of_ g_order_of B
  have cN := c_net (Pr := P) (w := w) (base := base) MN F_Net___init___ gNet B NC (c_ip false) (c_ca false) (c_oo false)
  have c_lw : Ct true P w K mg base 1 "lowest" (SF F_lowest) := c_lowest F_lowest_ g_lowest gg
  have c_ib : Ct true P w K mg base 1 "is_below" (SF F_is_below) := c_is_below F_is_below_ g_is_below 
  have c_su : Ct true P w K mg base 1 "sums_of" (SF F_sums_of) := c_sums_of F_sums_of_ g_sums_of B
  have c_as : Ct true P w K mg base 2 "asked" (SF F_asked) := c_asked F_asked_ g_asked c_su c_lw
  have c_lg : Ct true P w K mg base 1 "longer_ways" (SF F_longer_ways) := c_longer_ways F_longer_ways_ g_longer_ways 
  have c_ro : Ct true P w K mg base 2 "rings_of" (SF F_rings_of) := c_rings_of F_rings_of_ g_rings_of B c_lg
  have c_po : Ct true P w K mg base 1 "potentials" (SF F_potentials) := c_potentials F_potentials_ g_potentials B
  have c_li : Ct true P w K mg base 5 "links_with" (SF (F_links_with K)) := c_links_with F_links_with_ g_links_with B (c_il true) (c_ia true)
  have c_mo : Ct true P w K mg base 1 "multiple_of" (SF F_multiple_of) := c_multiple_of F_multiple_of_ g_multiple_of gg
  have c_le : Ct true P w K mg base 1 "led_to" (SF F_led_to) := c_led_to F_led_to_ g_led_to B
  have c_lr : Ct true P w K mg base 3 "lower_rings" (SF F_lower_rings) := c_lower_rings F_lower_rings_ g_lower_rings B c_ro c_su c_le c_ib c_as
  have c_wb : Ct true P w K mg base 1 "way_between" (SO F_wayC) := c_wayC F_way_between_ g_way_between B
  have c_co : Ct true P w K mg base 3 "clash_of" S_clash_of := c_clash_of F_clash_of_ g_clash_of B c_ro c_su c_wb c_ib c_as
  have c_oc : Ct true P w K mg base 6 "own_clash" (S_own_clash K) := c_own_clash F_own_clash_ g_own_clash c_li c_lr c_co
  have c_op : Ct true P w K mg base 6 "own_periods" (SF (F_own_periods K)) := c_own_periods F_own_periods_ g_own_periods c_li c_lr c_co c_as
  have c_ow : Ct true P w K mg base 7 "own_plan" (SF (F_own_plan K)) := c_own_plan F_own_plan_ g_own_plan B c_op c_li c_mo c_po c_lw
  have l_st : Ct true P w K mg base 1 "_law_start" S_start := c_law_start F__law_start_ g__law_start B
  have l_dr : Ct true P w K mg base 1 "_law_draw" S_draw := c_law_draw F__law_draw_ g__law_draw B
  have l_pi : Ct true P w K mg base 2 "_law_pick" S_pick := c_law_pick F__law_pick_ g__law_pick B l_dr
  have l_mi : Ct true P w K mg base 2 "_law_mixed" S_mixed := c_law_mixed F__law_mixed_ g__law_mixed B l_dr
  have l_nn : Ct true P w K mg base 3 "_law_n_net" S_net := c_law_n_net F__law_n_net_ g__law_n_net B l_dr l_pi l_mi
  have l_nl : Ct true P w K mg base 1 "_law_n_links" (SF F_law_n_links) := c_law_n_links F__law_n_links_ g__law_n_links B
  have l_lo : ∀ d, Ct true P w K mg base (d + 2) "_law_loose" (S_loose d) := c_law_loose F__law_loose_ g__law_loose B l_dr
  have l_nd : Ct true P w K mg base 3 "_law_n_distances" S_ndist := c_law_n_distances F__law_n_distances_ g__law_n_distances B l_dr l_pi
  have l_al : Ct true P w K mg base 2 "_law_n_all_links" (SF F_law_n_all_links) := c_law_n_all_links F__law_n_all_links_ g__law_n_all_links l_nl
  have l_su : Ct true P w K mg base 1 "_law_n_sums" (SF F_law_n_sums) := c_law_n_sums F__law_n_sums_ g__law_n_sums B
  have l_le : Ct true P w K mg base 1 "_law_is_less" (SF F_is_below) := c_law_is_less F__law_is_less_ g__law_is_less 
  have l_tu : Ct true P w K mg base 1 "_law_turned_up" (SF F_law_turned_up) := c_law_turned_up F__law_turned_up_ g__law_turned_up gabs
  have l_ir : Ct true P w K mg base 1 "_law_n_is_ring" (SF F_law_n_is_ring) := c_law_n_is_ring F__law_n_is_ring_ g__law_n_is_ring B gset
  have l_as : Ct true P w K mg base 2 "_law_n_asks" (SF F_asked) := c_law_n_asks F__law_n_asks_ g__law_n_asks l_su l_tu
  have l_cr : Ct true P w K mg base 3 "_law_clash_right" (SF F_clash_right) := c_law_clash_right F__law_clash_right_ g__law_clash_right B l_ir l_su l_as l_le
  have l_ss : Ct true P w K mg base 1 "_law_starts" (SF F_law_starts) := c_law_starts F__law_starts_ g__law_starts B
  have l_fa : Ct true P w K mg base 3 "_law_far" (SF F_law_far) := c_law_far F__law_far_ g__law_far B gabs l_as
  have l_gr : Ct true P w K mg base 4 "_law_grows" (SF F_law_grows) := c_law_grows F__law_grows_ g__law_grows B l_ss l_fa
  have l_ti : Ct true P w K mg base 3 "_law_two_rings" S_two := c_law_two_rings F__law_two_rings_ g__law_two_rings B l_dr l_mi
  exact c_law F_law_ g_law B NC l_st l_dr l_nn l_nd l_ti cN l_al l_lo c_oc c_ow c_op l_ss l_cr l_gr
end PV
open PySem PySem.W PySem.Calls PyProof.Rows
theorem PySem.Challenge.cw_anyload_k86_whole_clashes_of_own_plans_holds : PySem.Challenge.rw_anyload_k86_whole_clashes_of_own_plans.Holds := by
  w_on; o_law
  refine HandSHeadRun.head_imp (r := HB.R) (q := view HB.R.prog [0, 59]) (H := HB.hk) (ob := HB.ob) (M := 6000) (loose := HB.lo) (d := HandSHeadRun.topDef HB.R.prog 59) (kwd := []) HB.ob_eq HB.run
    (by kernel_rfl) (by kernel_rfl) (by kernel_rfl) (by rfl) (by first | assumption | decide +kernel) (by decide +kernel) ⟨rfl, rfl, rfl, rfl, rfl, by decide +kernel⟩ ?hw ?hc
  case hw => w_witness2
  case hc =>
    refine PV.walk_ofG (l := HB.RL) (n := 63) (k := 8) (S := PV.S_law) rfl (by decide) (by kernel_rfl) ⟨rfl, by decide, by decide⟩ (fun w mg fa h Y G hmg => ?_) fun ns hl => ⟨ns, rfl, Nat.le_trans hl (by decide), fun _ => rfl⟩
    obtain ⟨K, KX, c, cg⟩ := Y
    have en : (HandSHeadRun.topDef HB.R.prog 59).name = ("law" : PySem.Str) := by kernel_rfl
    rw [en]
    exact ⟨K, KX, fun base _ _ => PV.factsL KX G c cg base⟩
