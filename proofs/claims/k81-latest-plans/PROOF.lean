import PyProof.Rows.All
import Wide.All
import OpenK.AllK
import Wide.FinOn
import HandS.ForMost
import HandS.Star
import HandS.IsInst
import HandS.DictTup
import HandS.Conv
import HandS.Flow
import HandS.Style
import HandS.NoneIn
import HandS.TupSets
import HandS.TupLen
import HandS.Defaults
import HandS.DeepEq
import HandS.Keys
import HandS.Walk
import HandS.Zip
import KE.GoesEnum
import HandS.DictComp
import KE.KDictWalk
import HandS.SortRule
import KE.KDictCopyH
import KE.KDictSum
import HandS.ListItems
import KE.KDictItemsList
import PyProof.ReprRoads
import KE.KDictPairs
import HandS.HeadEnd
import HandS.Head0
import HandS.Head1
import HandS.Head2
import HandS.HeadHook1
import HandS.HeadHook2
import PySem.Challenge.RW_anyload_k81_whole_latest_plans
set_option Elab.async false
set_option linter.all false
set_option maxRecDepth 100000
set_option maxHeartbeats 4000000
/-! Pure values over the layer: a value without addresses, the world (base heap, cells), what an expression yields. -/
namespace PV
open PySem PySem.Spec PyProof.Rows L2

/-- a value without addresses -/
inductive P where
  | non | bl (b : Bool) | int (i : Int) | str (x : Str) | ty (n : String) | fn (a : Addr)
  | lst (xs : List P) | tup (xs : List P)
  | dT (kvs : List (List Key × P)) | dK (kvs : List (Key × P))
  | obj (C : Addr) (fs : List (Str × P))
  | scr (xs : List P)

/-- v stands for x, by what the heap H holds -/
inductive Rep (K : PySem.W.Frag) (H : Hp) : V → P → Prop
  | non : Rep K H .non .non
  | bl (b : Bool) : Rep K H (.bl b) (.bl b)
  | int (i : Int) : Rep K H (.int i) (.int i)
  | str (x : Str) : Rep K H (.str x) (.str x)
  | ty (n : String) : Rep K H (.ty n) (.ty n)
  | fn (a : Addr) : Rep K H (.ref a) (.fn a)
  | lst {a : Addr} {vs : List V} {xs : List P} (h : H a = some (.lst vs)) (l : vs.length = xs.length)
      (e : ∀ (i : Nat) (v : V) (x : P), vs[i]? = some v → xs[i]? = some x → Rep K H v x) : Rep K H (.ref a) (.lst xs)
  | scr {a : Addr} {vs : List V} {xs : List P} (h : SqL K H a vs) (l : vs.length = xs.length)
      (e : ∀ (i : Nat) (v : V) (x : P), vs[i]? = some v → xs[i]? = some x → Rep K H v x) : Rep K H (.ref a) (.scr xs)
  | tup {a : Addr} {vs : List V} {xs : List P} (h : H a = some (.tup vs)) (l : vs.length = xs.length)
      (e : ∀ (i : Nat) (v : V) (x : P), vs[i]? = some v → xs[i]? = some x → Rep K H v x) : Rep K H (.ref a) (.tup xs)
  | dT {a : Addr} {ks : List (List Key × V)} {kvs : List (List Key × P)} (h : H a = some (.dT ks)) (l : ks.map (·.1) = kvs.map (·.1))
      (e : ∀ (i : Nat) (v : List Key × V) (x : List Key × P), ks[i]? = some v → kvs[i]? = some x → Rep K H v.2 x.2) : Rep K H (.ref a) (.dT kvs)
  | dK {a : Addr} {ks : List (Key × V)} {kvs : List (Key × P)} (h : H a = some (.dK ks)) (l : ks.map (·.1) = kvs.map (·.1))
      (e : ∀ (i : Nat) (v : Key × V) (x : Key × P), ks[i]? = some v → kvs[i]? = some x → Rep K H v.2 x.2) : Rep K H (.ref a) (.dK kvs)
  | obj {a C dx : Addr} {fs : List (Str × V)} {gs : List (Str × P)} (h : H a = some (.ins C dx fs)) (l : fs.map (·.1) = gs.map (·.1))
      (e : ∀ (i : Nat) (v : Str × V) (x : Str × P), fs[i]? = some v → gs[i]? = some x → Rep K H v.2 x.2) : Rep K H (.ref a) (.obj C gs)

def Ex (H H' : Hp) : Prop := ∀ a o, H a = some o → H' a = some o
theorem Ex.refl (H : Hp) : Ex H H := fun _ _ h => h
theorem Ex.trans {H H1 H2 : Hp} (a : Ex H H1) (b : Ex H1 H2) : Ex H H2 := fun x o h => b x o (a x o h)
theorem Ex.new {H : Hp} {p : Addr} {o : HO} (h : H p = none) : Ex H (upd H p o) := fun a u e => by
  rw [upd_ne (ne_of_none e h)]; exact e
theorem Ex.back {H H' : Hp} {p : Addr} (e : Ex H H') (h : H' p = none) : H p = none := by
  cases q : H p with
  | none => rfl
  | some o => rw [e p o q] at h; cases h
theorem Ex.sqL {K : PySem.W.Frag} {H H' : Hp} {a : Addr} {xs : List V} (e : Ex H H') (h : SqL K H a xs) : SqL K H' a xs := by
  rcases h with (h | ⟨o, h⟩) | h
  · exact .inl (.inl (e _ _ h))
  · exact .inl (.inr ⟨o, e _ _ h⟩)
  · exact .inr h
theorem Rep.mono {K : PySem.W.Frag} {H H' : Hp} (x : Ex H H') {v : V} {p : P} (r : Rep K H v p) : Rep K H' v p := by
  induction r with
  | non => exact .non
  | bl b => exact .bl b
  | int i => exact .int i
  | str y => exact .str y
  | ty n => exact .ty n
  | fn a => exact .fn a
  | lst h l _ ih => exact .lst (x _ _ h) l ih
  | scr h l _ ih => exact .scr (x.sqL h) l ih
  | tup h l _ ih => exact .tup (x _ _ h) l ih
  | dT h l _ ih => exact .dT (x _ _ h) l ih
  | dK h l _ ih => exact .dK (x _ _ h) l ih
  | obj h l _ ih => exact .obj (x _ _ h) l ih

/-! ### lists side by side -/
theorem pd_get {α β : Type} {F : α → β → Prop} : ∀ {l₁ : List α} {l₂ : List β}, Paired F l₁ l₂ → ∀ (i : Nat) (a : α) (b : β), l₁[i]? = some a → l₂[i]? = some b → F a b
  | _, _, .nil, _, _, _, h, _ => by simp at h
  | _, _, .cons r _, 0, _, _, h, k => by simp at h k; subst h; subst k; exact r
  | _, _, .cons _ t, i + 1, a, b, h, k => pd_get t i a b (by simpa using h) (by simpa using k)
theorem pd_of {α β : Type} {F : α → β → Prop} : ∀ {l₁ : List α} {l₂ : List β}, l₁.length = l₂.length → (∀ (i : Nat) (a : α) (b : β), l₁[i]? = some a → l₂[i]? = some b → F a b) → Paired F l₁ l₂
  | [], [], _, _ => .nil
  | [], _ :: _, h, _ => by simp at h
  | _ :: _, [], h, _ => by simp at h
  | a :: l₁, b :: l₂, h, e => .cons (e 0 a b rfl rfl) (pd_of (by simpa using h) fun i x y p q => e (i + 1) x y (by simpa using p) (by simpa using q))
theorem pd_left {α β : Type} {F : α → β → Prop} : ∀ {l₁ : List α} {l₂ : List β}, Paired F l₁ l₂ → ∀ (i : Nat) (b : β), l₂[i]? = some b → ∃ a, l₁[i]? = some a ∧ F a b
  | _, _, .nil, _, _, h => by simp at h
  | _, _, .cons r _, 0, _, h => by simp at h; subst h; exact ⟨_, rfl, r⟩
  | _, _, .cons _ t, i + 1, b, h => by
    obtain ⟨a, p, q⟩ := pd_left t i b (by simpa using h)
    exact ⟨a, by simpa using p, q⟩
theorem pd_right {α β : Type} {F : α → β → Prop} : ∀ {l₁ : List α} {l₂ : List β}, Paired F l₁ l₂ → ∀ (i : Nat) (a : α), l₁[i]? = some a → ∃ b, l₂[i]? = some b ∧ F a b
  | _, _, .nil, _, _, h => by simp at h
  | _, _, .cons r _, 0, _, h => by simp at h; subst h; exact ⟨_, rfl, r⟩
  | _, _, .cons _ t, i + 1, b, h => by
    obtain ⟨a, p, q⟩ := pd_right t i b (by simpa using h)
    exact ⟨a, by simpa using p, q⟩
theorem pd_app {α β : Type} {F : α → β → Prop} : ∀ {l₁ k₁ : List α} {l₂ k₂ : List β}, Paired F l₁ l₂ → Paired F k₁ k₂ → Paired F (l₁ ++ k₁) (l₂ ++ k₂)
  | _, _, _, _, .nil, s => s
  | _, _, _, _, .cons r t, s => .cons r (pd_app t s)
theorem pd_imp {α β : Type} {F G : α → β → Prop} (h : ∀ a b, F a b → G a b) : ∀ {l₁ : List α} {l₂ : List β}, Paired F l₁ l₂ → Paired G l₁ l₂
  | _, _, .nil => .nil
  | _, _, .cons r t => .cons (h _ _ r) (pd_imp h t)
theorem pd_set {α β : Type} {F : α → β → Prop} {a : α} {b : β} (r : F a b) : ∀ {l₁ : List α} {l₂ : List β} (i : Nat), Paired F l₁ l₂ → Paired F (l₁.set i a) (l₂.set i b)
  | _, _, _, .nil => .nil
  | _, _, 0, .cons _ t => .cons r t
  | _, _, i + 1, .cons q t => .cons q (pd_set r i t)

abbrev RepL (K : PySem.W.Frag) (H : Hp) : List V → List P → Prop := Paired (Rep K H)
theorem Rep.lstL {K : PySem.W.Frag} {H : Hp} {a : Addr} {vs : List V} {xs : List P} (h : H a = some (.lst vs)) (r : RepL K H vs xs) : Rep K H (.ref a) (.lst xs) := .lst h r.length (pd_get r)
theorem Rep.tupL {K : PySem.W.Frag} {H : Hp} {a : Addr} {vs : List V} {xs : List P} (h : H a = some (.tup vs)) (r : RepL K H vs xs) : Rep K H (.ref a) (.tup xs) := .tup h r.length (pd_get r)
theorem Rep.lst_inv {K : PySem.W.Frag} {H : Hp} {v : V} {xs : List P} (r : Rep K H v (.lst xs)) : ∃ a vs, v = .ref a ∧ SqL K H a vs ∧ RepL K H vs xs := by
  cases r with
  | lst h l e => exact ⟨_, _, rfl, .inl (.inl h), pd_of l e⟩
theorem Rep.lst_at {K : PySem.W.Frag} {H : Hp} {v : V} {xs : List P} (r : Rep K H v (.lst xs)) : ∃ a vs, v = .ref a ∧ H a = some (.lst vs) ∧ RepL K H vs xs := by
  cases r with
  | lst h l e => exact ⟨_, _, rfl, h, pd_of l e⟩
theorem Rep.scr_inv {K : PySem.W.Frag} {H : Hp} {v : V} {xs : List P} (r : Rep K H v (.scr xs)) : ∃ a vs, v = .ref a ∧ SqL K H a vs ∧ RepL K H vs xs := by
  cases r with
  | scr h l e => exact ⟨_, _, rfl, h, pd_of l e⟩
theorem Rep.tup_inv {K : PySem.W.Frag} {H : Hp} {v : V} {xs : List P} (r : Rep K H v (.tup xs)) : ∃ a vs, v = .ref a ∧ H a = some (.tup vs) ∧ RepL K H vs xs := by
  cases r with
  | tup h l e => exact ⟨_, _, rfl, h, pd_of l e⟩
theorem Rep.int_inv {K : PySem.W.Frag} {H : Hp} {v : V} {i : Int} (r : Rep K H v (.int i)) : v = .int i := by cases r; rfl
theorem Rep.bl_inv {K : PySem.W.Frag} {H : Hp} {v : V} {i : Bool} (r : Rep K H v (.bl i)) : v = .bl i := by cases r; rfl
theorem Rep.str_inv {K : PySem.W.Frag} {H : Hp} {v : V} {i : Str} (r : Rep K H v (.str i)) : v = .str i := by cases r; rfl
theorem Rep.non_inv {K : PySem.W.Frag} {H : Hp} {v : V} (r : Rep K H v .non) : v = .non := by cases r; rfl
theorem Rep.obj_inv {K : PySem.W.Frag} {H : Hp} {v : V} {C : Addr} {gs : List (Str × P)} (r : Rep K H v (.obj C gs)) :
    ∃ a dx fs, v = .ref a ∧ H a = some (.ins C dx fs) ∧ Paired (fun (p : Str × V) (q : Str × P) => p.1 = q.1 ∧ Rep K H p.2 q.2) fs gs := by
  cases r with
  | obj h l e =>
    refine ⟨_, _, _, rfl, h, pd_of (by simpa using congrArg List.length l) fun i p q hp hq => ⟨?_, e i p q hp hq⟩⟩
    have h1 := congrArg (·[i]?) l
    simp only [List.getElem?_map, hp, hq, Option.map_some, Option.some.injEq] at h1
    exact h1
theorem Rep.dT_inv {K : PySem.W.Frag} {H : Hp} {v : V} {kvs : List (List Key × P)} (r : Rep K H v (.dT kvs)) :
    ∃ a ks, v = .ref a ∧ H a = some (.dT ks) ∧ Paired (fun (p : List Key × V) (q : List Key × P) => p.1 = q.1 ∧ Rep K H p.2 q.2) ks kvs := by
  cases r with
  | dT h l e =>
    refine ⟨_, _, rfl, h, pd_of (by simpa using congrArg List.length l) fun i p q hp hq => ⟨?_, e i p q hp hq⟩⟩
    have h1 := congrArg (·[i]?) l
    simp only [List.getElem?_map, hp, hq, Option.map_some, Option.some.injEq] at h1
    exact h1
theorem Rep.dK_inv {K : PySem.W.Frag} {H : Hp} {v : V} {kvs : List (Key × P)} (r : Rep K H v (.dK kvs)) :
    ∃ a ks, v = .ref a ∧ H a = some (.dK ks) ∧ Paired (fun (p : Key × V) (q : Key × P) => p.1 = q.1 ∧ Rep K H p.2 q.2) ks kvs := by
  cases r with
  | dK h l e =>
    refine ⟨_, _, rfl, h, pd_of (by simpa using congrArg List.length l) fun i p q hp hq => ⟨?_, e i p q hp hq⟩⟩
    have h1 := congrArg (·[i]?) l
    simp only [List.getElem?_map, hp, hq, Option.map_some, Option.some.injEq] at h1
    exact h1

/-! ### values and cells -/
/-- a value of a body: without addresses, or the cell j (a list, dict, instance that may change) -/
inductive E where
  | sh (x : P) | pt (j : Nat)
inductive Cell where
  | lst (xs : List E) | dT (kvs : List (List Key × E)) | dK (kvs : List (Key × E)) | obj (C : Addr) (fs : List (Str × E)) | lk (o : Obj) (ks : List (List Key × V)) (kvs : List (List Key × E))
abbrev Mu := List (Option Cell)
def RepE (K : PySem.W.Frag) (ad : List Addr) (H : Hp) (v : V) : E → Prop
  | .sh x => Rep K H v x
  | .pt j => ∃ a, ad[j]? = some a ∧ v = .ref a
def CellOk (K : PySem.W.Frag) (ad : List Addr) (Hb H : Hp) (a : Addr) : Cell → Prop
  | .lst xs => ∃ vs, H a = some (.lst vs) ∧ Paired (RepE K ad Hb) vs xs
  | .dT kvs => ∃ ks, H a = some (.dT ks) ∧ Paired (fun (p : List Key × V) (q : List Key × E) => p.1 = q.1 ∧ RepE K ad Hb p.2 q.2) ks kvs
  | .dK kvs => ∃ ks, H a = some (.dK ks) ∧ Paired (fun (p : Key × V) (q : Key × E) => p.1 = q.1 ∧ RepE K ad Hb p.2 q.2) ks kvs
  | .lk o ks kvs => H a = some (.frz o (.dT ks)) ∧ Paired (fun (p : List Key × V) (q : List Key × E) => p.1 = q.1 ∧ RepE K ad Hb p.2 q.2) ks kvs
  | .obj C gs => ∃ dx fs, H a = some (.ins C dx fs) ∧ Paired (fun (p : Str × V) (q : Str × E) => p.1 = q.1 ∧ RepE K ad Hb p.2 q.2) fs gs
/-- a base object as it stands in the heap: it, or (a dict while it is walked) it locked -/
def Std (H : Hp) (a : Addr) : HO → Prop
  | .dK kvs => Rd H a (.dK kvs)
  | .dT kvs => Rd H a (.dT kvs)
  | o => H a = some o
theorem Std.of {H : Hp} {a : Addr} {o : HO} (h : H a = some o) : Std H a o := by
  cases o <;> first | exact h | exact .inl h
structure Wd (K : PySem.W.Frag) (ad : List Addr) (Hb H : Hp) (μ : Mu) : Prop where
  len : ad.length = μ.length
  inc : ∀ a u, Hb a = some u → Std H a u
  off : ∀ (j : Nat) (a : Addr) (c : Cell), ad[j]? = some a → μ[j]? = some (some c) → Hb a = none ∧ CellOk K ad Hb H a c
  nd : ∀ (i j : Nat) (a : Addr) (c d : Cell), ad[i]? = some a → ad[j]? = some a → μ[i]? = some (some c) → μ[j]? = some (some d) → i = j
  trk : ∀ a ∈ ad, H a ≠ none
def isTup : HO → Bool
  | .tup _ => true
  | _ => false
/-- from one world to a later one -/
def isD : HO → Bool
  | .dT _ => true
  | .dK _ => true
  | _ => false
structure Step (ad : List Addr) (Hb H : Hp) (ad' : List Addr) (Hb' H' : Hp) : Prop where
  ex : Ex Hb Hb'
  pre : ∃ l, ad' = ad ++ l
  new : ∀ a ∈ ad', a ∈ ad ∨ H a = none
  fr : ∀ a o, a ∉ ad → H a = some o → H' a = some o ∨ (∃ q, isD o = true ∧ Hb a = some o ∧ H' a = some (.frz q o))
  fgn : ∀ a o, a ∉ ad → H a = some o → isTup o = false → Hb a = none → Hb' a = none
  bs : ∀ a u q, Hb a = some u → H a = some (.frz q u) → H' a = some (.frz q u)
theorem Step.refl (ad : List Addr) (Hb H : Hp) : Step ad Hb H ad Hb H := ⟨Ex.refl _, ⟨[], by simp⟩, fun _ h => .inl h, fun _ _ _ h => .inl h, fun _ _ _ _ _ h => h, fun _ _ _ _ h => h⟩
theorem Step.fr0 {ad ad' : List Addr} {Hb H Hb' H' : Hp} (s : Step ad Hb H ad' Hb' H') {a : Addr} {o : HO} (h : a ∉ ad) (n : Hb a = none) (e : H a = some o) : H' a = some o := by
  rcases s.fr a o h e with z | ⟨_, _, z, _⟩
  · exact z
  · rw [n] at z; cases z
theorem Step.fr1 {ad ad' : List Addr} {Hb H Hb' H' : Hp} (s : Step ad Hb H ad' Hb' H') {a : Addr} {o : HO} (h : a ∉ ad) (e : H a = some o) : H' a ≠ none := by
  rcases s.fr a o h e with z | ⟨_, _, _, z⟩ <;> (rw [z]; exact fun z => nomatch z)
theorem Step.trans {ad ad1 ad2 : List Addr} {Hb H Hb1 H1 Hb2 H2 : Hp} (a : Step ad Hb H ad1 Hb1 H1) (b : Step ad1 Hb1 H1 ad2 Hb2 H2) : Step ad Hb H ad2 Hb2 H2 where
  ex := a.ex.trans b.ex
  pre := by
    obtain ⟨l, e⟩ := a.pre
    obtain ⟨k, f⟩ := b.pre
    exact ⟨l ++ k, by rw [f, e, List.append_assoc]⟩
  new := fun x h => by
    rcases b.new x h with h1 | h1
    · exact a.new x h1
    · by_cases hx : x ∈ ad
      · exact .inl hx
      · cases q : H x with
        | none => exact .inr rfl
        | some o => exact absurd h1 (a.fr1 hx q)
  fr := fun x o hx q => by
    have nx : x ∉ ad1 := fun h => by
      rcases a.new x h with h1 | h1
      · exact hx h1
      · rw [q] at h1; cases h1
    rcases a.fr x o hx q with z | ⟨l, d, n, z⟩
    · rcases b.fr x o nx z with y | ⟨l, d, n, y⟩
      · exact .inl y
      · refine .inr ⟨l, d, ?_, y⟩
        cases e : Hb x with
        | none =>
          have t : isTup o = false := by cases o <;> first | rfl | cases d
          rw [a.fgn x o hx q t e] at n
          cases n
        | some u => exact (a.ex x u e).symm.trans n
    · rcases b.fr x _ nx z with y | ⟨_, d2, _⟩
      · exact .inr ⟨l, d, n, y⟩
      · cases d2
  fgn := fun x o hx q t n => by
    refine b.fgn x o (fun h => ?_) (a.fr0 hx n q) t (a.fgn x o hx q t n)
    rcases a.new x h with h1 | h1
    · exact hx h1
    · rw [q] at h1; cases h1
  bs := fun x u q h e => b.bs x u q (a.ex x u h) (a.bs x u q h e)
theorem Step.at_ {ad ad' : List Addr} {Hb H Hb' H' : Hp} (s : Step ad Hb H ad' Hb' H') {j : Nat} {a : Addr} (h : ad[j]? = some a) : ad'[j]? = some a := by
  obtain ⟨l, e⟩ := s.pre
  rw [e, List.getElem?_append_left (List.getElem?_eq_some_iff.mp h).1]
  exact h
theorem RepE.step {K : PySem.W.Frag} {ad ad' : List Addr} {Hb H Hb' H' : Hp} (s : Step ad Hb H ad' Hb' H') {v : V} {x : E} (r : RepE K ad Hb v x) : RepE K ad' Hb' v x := by
  cases x with
  | sh x => exact Rep.mono s.ex r
  | pt j => obtain ⟨a, h, e⟩ := r; exact ⟨a, s.at_ h, e⟩
abbrev RepEs (K : PySem.W.Frag) (ad : List Addr) (H : Hp) : List V → List E → Prop := Paired (RepE K ad H)
theorem RepEs.step {K : PySem.W.Frag} {ad ad' : List Addr} {Hb H Hb' H' : Hp} (s : Step ad Hb H ad' Hb' H') {vs : List V} {xs : List E} (r : RepEs K ad Hb vs xs) : RepEs K ad' Hb' vs xs := pd_imp (fun _ _ h => RepE.step s h) r
/-- the slots -/
abbrev Rho := List (Option E)
def Env (K : PySem.W.Frag) (ad : List Addr) (Hb : Hp) (σ : L2.St) (ρ : Rho) : Prop := σ.length = ρ.length ∧ ∀ (i : Nat) (x : E), ρ[i]? = some (some x) → ∃ v, σ[i]? = some (some v) ∧ RepE K ad Hb v x
theorem Env.step {K : PySem.W.Frag} {ad ad' : List Addr} {Hb H Hb' H' : Hp} (s : Step ad Hb H ad' Hb' H') {σ : L2.St} {ρ : Rho} (r : Env K ad Hb σ ρ) : Env K ad' Hb' σ ρ :=
  ⟨r.1, fun i x h => let ⟨v, a, b⟩ := r.2 i x h; ⟨v, a, RepE.step s b⟩⟩
theorem Env.set {K : PySem.W.Frag} {ad : List Addr} {Hb : Hp} {σ : L2.St} {ρ : Rho} (r : Env K ad Hb σ ρ) (i : Nat) {v : V} {x : E} (q : RepE K ad Hb v x) : Env K ad Hb (σ.set i (some v)) (ρ.set i (some x)) := by
  refine ⟨by rw [List.length_set, List.length_set]; exact r.1, fun j y h => ?_⟩
  by_cases e : i = j
  · subst e
    have hl : i < ρ.length := by
      have := (List.getElem?_eq_some_iff.mp h).1
      rwa [List.length_set] at this
    rw [List.getElem?_set_self hl] at h
    cases h
    exact ⟨v, by rw [List.getElem?_set_self (by rw [r.1]; exact hl)], q⟩
  · rw [List.getElem?_set_ne e] at h
    obtain ⟨w, a, b⟩ := r.2 j y h
    exact ⟨w, by rw [List.getElem?_set_ne e]; exact a, b⟩
/-- slots forgotten -/
theorem Env.weak {K : PySem.W.Frag} {ad : List Addr} {Hb : Hp} {σ : L2.St} {ρ ρ' : Rho} (r : Env K ad Hb σ ρ) (l : ρ'.length = ρ.length) (h : ∀ (i : Nat) (x : E), ρ'[i]? = some (some x) → ρ[i]? = some (some x)) : Env K ad Hb σ ρ' :=
  ⟨r.1.trans l.symm, fun i x e => r.2 i x (h i x e)⟩
end PV

/-! The judgements over pure values, the rules for expressions. -/
namespace PV
open PySem PySem.Spec PyProof.Rows L2

/-! ### what a piece of syntax asks, by itself -/
def TEV (X : Cx) (e : Expr) : TE := fun σ H Q => ∀ pins s, Inv X pins σ H s → wpAny (model X.prog X.w) X.A (eval e X.env) (EP X pins σ Q) X.xe s
def TTV (X : Cx) (e : Expr) : TT := fun σ H Q => ∀ pins s, Inv X pins σ H s → wpAny (model X.prog X.w) X.A (isTrue e X.env (eval e X.env)) (TP X pins σ Q) X.xe s
def TAV (X : Cx) (es : List Expr) : TA := fun σ H Q => ∀ pos pins s, Inv X pins σ H s → wpAny (model X.prog X.w) X.A (spliced (backTo pos (starEach es X.env))) (AP X pins σ Q) X.xe s
theorem pe_self {X : Cx} {e : Expr} : PE X e (TEV X e) := ⟨fun pins s _ _ _ I h => h pins s I⟩
theorem pt_self {X : Cx} {e : Expr} : PT X e (TTV X e) := ⟨fun pins s _ _ _ I h => h pins s I⟩
theorem pa_self {X : Cx} {es : List Expr} : PA X es (TAV X es) := ⟨fun pos pins s _ _ _ I h => h pos pins s I⟩
theorem pe_go {X : Cx} {e : Expr} {t : TE} (h : PE X e t) {σ : L2.St} {H : Hp} {Q : VK} (q : t σ H Q) : TEV X e σ H Q := fun pins s I => h.run pins s σ H Q I q
theorem pt_go {X : Cx} {e : Expr} {t : TT} (h : PT X e t) {σ : L2.St} {H : Hp} {Q : Bool → Hp → Prop} (q : t σ H Q) : TTV X e σ H Q := fun pins s I => h.run pins s σ H Q I q
theorem pa_go {X : Cx} {es : List Expr} {t : TA} (h : PA X es t) {σ : L2.St} {H : Hp} {Q : List V → Hp → Prop} (q : t σ H Q) : TAV X es σ H Q := fun pos pins s I => h.run pos pins s σ H Q I q

/-! ### the judgements -/
/-- from the world (ad, Hb, H): whatever is yielded under Q is what Q' wants -/
def Goes (K : PySem.W.Frag) (ad : List Addr) (Hb H : Hp) (Q : E → Mu → Prop) (Q' : VK) : Prop :=
  ∀ (v : V) (x : E) (μ' : Mu) (ad' : List Addr) (Hb' H' : Hp), Q x μ' → Step ad Hb H ad' Hb' H' → Wd K ad' Hb' H' μ' → RepE K ad' Hb' v x → Q' v H'
def GoesT (K : PySem.W.Frag) (ad : List Addr) (Hb H : Hp) (Q : Bool → Mu → Prop) (Q' : Bool → Hp → Prop) : Prop :=
  ∀ (b : Bool) (μ' : Mu) (ad' : List Addr) (Hb' H' : Hp), Q b μ' → Step ad Hb H ad' Hb' H' → Wd K ad' Hb' H' μ' → Q' b H'
def GoesL (K : PySem.W.Frag) (ad : List Addr) (Hb H : Hp) (Q : List E → Mu → Prop) (Q' : List V → Hp → Prop) : Prop :=
  ∀ (vs : List V) (xs : List E) (μ' : Mu) (ad' : List Addr) (Hb' H' : Hp), Q xs μ' → Step ad Hb H ad' Hb' H' → Wd K ad' Hb' H' μ' → RepEs K ad' Hb' vs xs → Q' vs H'
def TEP (X : Cx) (e : Expr) (ρ : Rho) (μ : Mu) (Q : E → Mu → Prop) : Prop :=
  ∀ (ad : List Addr) (Hb H : Hp) (σ : L2.St), Wd X.K ad Hb H μ → Env X.K ad Hb σ ρ → ∀ Q' : VK, Goes X.K ad Hb H Q Q' → TEV X e σ H Q'
def TTP (X : Cx) (e : Expr) (ρ : Rho) (μ : Mu) (Q : Bool → Mu → Prop) : Prop :=
  ∀ (ad : List Addr) (Hb H : Hp) (σ : L2.St), Wd X.K ad Hb H μ → Env X.K ad Hb σ ρ → ∀ Q', GoesT X.K ad Hb H Q Q' → TTV X e σ H Q'
def TAP (X : Cx) (es : List Expr) (ρ : Rho) (μ : Mu) (Q : List E → Mu → Prop) : Prop :=
  ∀ (ad : List Addr) (Hb H : Hp) (σ : L2.St), Wd X.K ad Hb H μ → Env X.K ad Hb σ ρ → ∀ Q', GoesL X.K ad Hb H Q Q' → TAV X es σ H Q'
/-- operations by values -/
def V1 (K : PySem.W.Frag) (r : V → Hp → VK → Prop) (x : E) (μ : Mu) (Q : E → Mu → Prop) : Prop :=
  ∀ (ad : List Addr) (Hb H : Hp) (v : V), Wd K ad Hb H μ → RepE K ad Hb v x → ∀ Q', Goes K ad Hb H Q Q' → r v H Q'
def V2 (K : PySem.W.Frag) (r : R2) (x y : E) (μ : Mu) (Q : E → Mu → Prop) : Prop :=
  ∀ (ad : List Addr) (Hb H : Hp) (v w : V), Wd K ad Hb H μ → RepE K ad Hb v x → RepE K ad Hb w y → ∀ Q', Goes K ad Hb H Q Q' → r v w H Q'
def VL (K : PySem.W.Frag) (r : List V → Hp → VK → Prop) (xs : List E) (μ : Mu) (Q : E → Mu → Prop) : Prop :=
  ∀ (ad : List Addr) (Hb H : Hp) (vs : List V), Wd K ad Hb H μ → RepEs K ad Hb vs xs → ∀ Q', Goes K ad Hb H Q Q' → r vs H Q'
/-- a method's rule: the object, the arguments -/
def VM (K : PySem.W.Frag) (r : V → List V → Hp → VK → Prop) (x : E) (xs : List E) (μ : Mu) (Q : E → Mu → Prop) : Prop :=
  ∀ (ad : List Addr) (Hb H : Hp) (v : V) (vs : List V), Wd K ad Hb H μ → RepE K ad Hb v x → RepEs K ad Hb vs xs → ∀ Q', Goes K ad Hb H Q Q' → r v vs H Q'

section
variable {K : PySem.W.Frag} {ad ad1 : List Addr} {Hb H Hb1 H1 : Hp} {μ μ1 : Mu} {Q : E → Mu → Prop} {Q' : VK}
theorem Goes.after (g : Goes K ad Hb H Q Q') (s : Step ad Hb H ad1 Hb1 H1) : Goes K ad1 Hb1 H1 Q Q' := fun v x μ' ad' Hb' H' q s' W r => g v x μ' ad' Hb' H' q (s.trans s') W r
theorem GoesT.after {Q : Bool → Mu → Prop} {Q' : Bool → Hp → Prop} (g : GoesT K ad Hb H Q Q') (s : Step ad Hb H ad1 Hb1 H1) : GoesT K ad1 Hb1 H1 Q Q' := fun b μ' ad' Hb' H' q s' W => g b μ' ad' Hb' H' q (s.trans s') W
theorem GoesL.after {Q : List E → Mu → Prop} {Q' : List V → Hp → Prop} (g : GoesL K ad Hb H Q Q') (s : Step ad Hb H ad1 Hb1 H1) : GoesL K ad1 Hb1 H1 Q Q' := fun v x μ' ad' Hb' H' q s' W r => g v x μ' ad' Hb' H' q (s.trans s') W r
theorem Goes.now (g : Goes K ad Hb H Q Q') (W : Wd K ad Hb H μ) {v : V} {x : E} (r : RepE K ad Hb v x) (q : Q x μ) : Q' v H := g v x μ ad Hb H q (Step.refl _ _ _) W r
/-- an address that the heap does not hold is none of the base's, of the living cells' -/
theorem Wd.base_none (W : Wd K ad Hb H μ) {p : Addr} (h : H p = none) : Hb p = none := by
  cases q : Hb p with
  | none => rfl
  | some u =>
    have z := W.inc p u q
    cases u <;> (simp only [Std, Rd] at z; rw [h] at z; first | (rcases z with z | ⟨_, z⟩ <;> cases z; done) | cases z)
theorem CellOk.some {a : Addr} {c : Cell} (h : CellOk K ad Hb H a c) : ∃ o, H a = some o ∧ isTup o = false := by
  cases c with
  | lst xs => obtain ⟨vs, e, _⟩ := h; exact ⟨_, e, rfl⟩
  | dT kvs => obtain ⟨vs, e, _⟩ := h; exact ⟨_, e, rfl⟩
  | dK kvs => obtain ⟨vs, e, _⟩ := h; exact ⟨_, e, rfl⟩
  | lk o ks kvs => exact ⟨_, h.1, rfl⟩
  | obj C kvs => obtain ⟨dx, vs, e, _⟩ := h; exact ⟨_, e, rfl⟩
theorem CellOk.keep {a : Addr} {c : Cell} (h : CellOk K ad Hb H a c) (e : H1 a = H a) (m : ∀ v x, RepE K ad Hb v x → RepE K ad1 Hb1 v x) : CellOk K ad1 Hb1 H1 a c := by
  cases c with
  | lst xs => obtain ⟨vs, e1, r⟩ := h; exact ⟨vs, e.trans e1, pd_imp m r⟩
  | dT kvs => obtain ⟨vs, e1, r⟩ := h; exact ⟨vs, e.trans e1, pd_imp (fun _ _ q => ⟨q.1, m _ _ q.2⟩) r⟩
  | dK kvs => obtain ⟨vs, e1, r⟩ := h; exact ⟨vs, e.trans e1, pd_imp (fun _ _ q => ⟨q.1, m _ _ q.2⟩) r⟩
  | lk o ks kvs => exact ⟨e.trans h.1, pd_imp (fun _ _ q => ⟨q.1, m _ _ q.2⟩) h.2⟩
  | obj C kvs => obtain ⟨dx, vs, e1, r⟩ := h; exact ⟨dx, vs, e.trans e1, pd_imp (fun _ _ q => ⟨q.1, m _ _ q.2⟩) r⟩
theorem Std.keep {a : Addr} {o : HO} (h : Std H a o) (e : H1 a = H a) : Std H1 a o := by
  cases o <;> (simp only [Std, Rd, e] at h ⊢; exact h)
theorem repE_mono {ad' : List Addr} {Hb' : Hp} (x : Ex Hb Hb') (p : ∃ l, ad' = ad ++ l) {v : V} {e : E} (r : RepE K ad Hb v e) : RepE K ad' Hb' v e := by
  cases e with
  | sh x' => exact Rep.mono x r
  | pt j =>
    obtain ⟨a, h, e⟩ := r
    obtain ⟨l, rfl⟩ := p
    exact ⟨a, by rw [List.getElem?_append_left (List.getElem?_eq_some_iff.mp h).1]; exact h, e⟩
theorem upd_trk {a p : Addr} {o : HO} (h : H a ≠ none) : upd H p o a ≠ none := by
  by_cases e : a = p
  · subst e; rw [upd_same]; exact fun z => nomatch z
  · rw [upd_ne e]; exact h
/-- a new object, shared from now on -/
theorem Wd.alloc (W : Wd K ad Hb H μ) {p : Addr} {o : HO} (h : H p = none) : Wd K ad (upd Hb p o) (upd H p o) μ ∧ Step ad Hb H ad (upd Hb p o) (upd H p o) := by
  have hb := W.base_none h
  refine ⟨⟨W.len, fun a u e => ?_, fun j a c ha hc => ?_, W.nd, fun a ha => upd_trk (W.trk a ha)⟩, ⟨Ex.new hb, ⟨[], by simp⟩, fun _ z => .inl z, fun a u _ e => .inl (by rw [upd_ne (ne_of_none e h)]; exact e), fun a u _ e _ n => ?_, fun a u q _ e => by rw [upd_ne (ne_of_none e h)]; exact e⟩⟩
  · by_cases ea : a = p
    · subst ea
      rw [upd_same] at e
      cases e
      exact Std.of upd_same
    · rw [upd_ne ea] at e
      exact (W.inc a u e).keep (upd_ne ea)
  · obtain ⟨h1, h2⟩ := W.off j a c ha hc
    obtain ⟨o', h3, _⟩ := h2.some
    have ea : a ≠ p := ne_of_none h3 h
    exact ⟨by rw [upd_ne ea]; exact h1, h2.keep (upd_ne ea) fun v x r => repE_mono (Ex.new hb) ⟨[], by simp⟩ r⟩
  · rw [upd_ne (ne_of_none e h)]
    exact n
/-- a new object, a cell -/
theorem Wd.cell (W : Wd K ad Hb H μ) {p : Addr} {o : HO} {c : Cell} (h : H p = none) (ok : CellOk K (ad ++ [p]) Hb (upd H p o) p c) :
    Wd K (ad ++ [p]) Hb (upd H p o) (μ ++ [some c]) ∧ Step ad Hb H (ad ++ [p]) Hb (upd H p o) := by
  have hb := W.base_none h
  have live : ∀ (j : Nat) (a : Addr) (d : Cell), ad[j]? = some a → μ[j]? = some (some d) → a ≠ p := fun j a d ha hd => by
    obtain ⟨_, h2⟩ := W.off j a d ha hd
    obtain ⟨o', h3, _⟩ := h2.some
    exact ne_of_none h3 h
  have sp : ∀ (j : Nat) (a : Addr) (d : Cell), (ad ++ [p])[j]? = some a → (μ ++ [some c])[j]? = some (some d) → (ad[j]? = some a ∧ μ[j]? = some (some d)) ∨ (j = ad.length ∧ a = p ∧ d = c) := fun j a d ha hd => by
    by_cases hj : j < ad.length
    · rw [List.getElem?_append_left hj] at ha
      rw [List.getElem?_append_left (by rw [← W.len]; exact hj)] at hd
      exact .inl ⟨ha, hd⟩
    · have hj2 : j = ad.length := by
        have := (List.getElem?_eq_some_iff.mp ha).1
        rw [List.length_append, List.length_singleton] at this
        omega
      subst hj2
      rw [List.getElem?_append_right (Nat.le_refl _)] at ha
      rw [W.len, List.getElem?_append_right (Nat.le_refl _)] at hd
      simp at ha hd
      exact .inr ⟨rfl, ha.symm, hd.symm⟩
  refine ⟨⟨by simp [W.len], fun a u e => ?_, fun j a d ha hd => ?_, fun i j a d e hi hj hd he => ?_, fun a ha => ?_⟩, ⟨Ex.refl _, ⟨[p], rfl⟩, fun a z => ?_, fun a u _ e => .inl (by rw [upd_ne (ne_of_none e h)]; exact e), fun a u _ _ _ n => n, fun a u q _ e => by rw [upd_ne (ne_of_none e h)]; exact e⟩⟩
  · have ea : a ≠ p := by
      rintro rfl
      rw [hb] at e
      cases e
    exact (W.inc a u e).keep (upd_ne ea)
  · rcases sp j a d ha hd with ⟨h1, h2⟩ | ⟨_, rfl, rfl⟩
    · obtain ⟨h3, h4⟩ := W.off j a d h1 h2
      exact ⟨h3, h4.keep (upd_ne (live j a d h1 h2)) fun v x r => repE_mono (Ex.refl _) ⟨[p], rfl⟩ r⟩
    · exact ⟨hb, ok⟩
  · rcases sp i a d hi hd with ⟨h1, h2⟩ | ⟨h1, h2, h3⟩
    · rcases sp j a e hj he with ⟨h4, h5⟩ | ⟨h4, h5, h6⟩
      · exact W.nd i j a d e h1 h4 h2 h5
      · exact absurd h5 (live i a d h1 h2)
    · rcases sp j a e hj he with ⟨h4, h5⟩ | ⟨h4, h5, h6⟩
      · exact absurd h2 (live j a e h4 h5)
      · omega
  · rcases List.mem_append.mp ha with z | z
    · exact upd_trk (W.trk a z)
    · have : a = p := by simpa using z
      subst this
      rw [upd_same]
      exact fun z => nomatch z
  · rcases List.mem_append.mp z with z | z
    · exact .inl z
    · have : a = p := by simpa using z
      subst this
      exact .inr h
/-- a cell's object is changed -/
theorem Wd.put (W : Wd K ad Hb H μ) {j : Nat} {p : Addr} {o : HO} {c d : Cell} (hj : ad[j]? = some p) (hc : μ[j]? = some (some c)) (ok : CellOk K ad Hb (upd H p o) p d) :
    Wd K ad Hb (upd H p o) (μ.set j (some d)) ∧ Step ad Hb H ad Hb (upd H p o) := by
  obtain ⟨h1, h2⟩ := W.off j p c hj hc
  have hl : j < μ.length := (List.getElem?_eq_some_iff.mp hc).1
  have sp : ∀ (i : Nat) (a : Addr) (e : Cell), ad[i]? = some a → (μ.set j (some d))[i]? = some (some e) → (i ≠ j ∧ a ≠ p ∧ μ[i]? = some (some e)) ∨ (i = j ∧ a = p ∧ e = d) := fun i a e ha he => by
    by_cases hi : j = i
    · subst hi
      rw [List.getElem?_set_self hl] at he
      rw [hj] at ha
      cases ha
      cases he
      exact .inr ⟨rfl, rfl, rfl⟩
    · rw [List.getElem?_set_ne hi] at he
      refine .inl ⟨fun z => hi z.symm, fun z => ?_, he⟩
      subst z
      exact hi (W.nd j i a c e hj ha hc he)
  refine ⟨⟨by rw [List.length_set]; exact W.len, fun a u e => ?_, fun i a e ha he => ?_, fun i k a e f hi hk he hf => ?_, fun a ha => upd_trk (W.trk a ha)⟩, ⟨Ex.refl _, ⟨[], by simp⟩, fun _ z => .inl z, fun a u hn e => .inl ?_, fun a u _ _ _ n => n, fun a u q hb e => by
    have ea : a ≠ p := by
      rintro rfl
      rw [h1] at hb
      cases hb
    rw [upd_ne ea]
    exact e⟩⟩
  · have ea : a ≠ p := by
      rintro rfl
      rw [h1] at e
      cases e
    exact (W.inc a u e).keep (upd_ne ea)
  · rcases sp i a e ha he with ⟨_, na, h3⟩ | ⟨rfl, rfl, rfl⟩
    · obtain ⟨h4, h5⟩ := W.off i a e ha h3
      exact ⟨h4, h5.keep (upd_ne na) fun _ _ r => r⟩
    · exact ⟨h1, ok⟩
  · rcases sp i a e hi he with ⟨_, na, h3⟩ | ⟨h3, h4, _⟩
    · rcases sp k a f hk hf with ⟨_, _, h5⟩ | ⟨_, h5, _⟩
      · exact W.nd i k a e f hi hk h3 h5
      · exact absurd h5 na
    · rcases sp k a f hk hf with ⟨_, na, _⟩ | ⟨h5, _, _⟩
      · exact absurd h4 na
      · exact h3.trans h5.symm
  · have ea : a ≠ p := by
      rintro rfl
      exact hn (List.mem_of_getElem? hj)
    rw [upd_ne ea]
    exact e
/-- a tuple of the heap joins the base -/
theorem Wd.join (W : Wd K ad Hb H μ) {p : Addr} {vs : List V} (h : H p = some (.tup vs)) : ∃ Hb', Hb' p = some (.tup vs) ∧ Wd K ad Hb' H μ ∧ Step ad Hb H ad Hb' H := by
  cases q : Hb p with
  | some u =>
    have z := W.inc p u q
    have e : u = .tup vs := by
      cases u <;> (simp only [Std, Rd] at z; rw [h] at z; first | (cases z; rfl) | (rcases z with z | ⟨_, z⟩ <;> cases z; done) | (cases z; done))
    subst e
    exact ⟨Hb, q, W, Step.refl _ _ _⟩
  | none =>
    refine ⟨upd Hb p (.tup vs), upd_same, ⟨W.len, fun a u e => ?_, fun j a c ha hc => ?_, W.nd, W.trk⟩, ⟨Ex.new q, ⟨[], by simp⟩, fun _ z => .inl z, fun _ _ _ e => .inl e, fun a u _ e t n => ?_, fun _ _ _ _ e => e⟩⟩
    · by_cases ea : a = p
      · subst ea
        rw [upd_same] at e
        cases e
        exact h
      · rw [upd_ne ea] at e
        exact W.inc a u e
    · obtain ⟨h1, h2⟩ := W.off j a c ha hc
      obtain ⟨o', h3, h4⟩ := h2.some
      have ea : a ≠ p := by
        rintro rfl
        rw [h] at h3
        cases h3
        cases h4
      exact ⟨by rw [upd_ne ea]; exact h1, h2.keep rfl fun v x r => repE_mono (Ex.new q) ⟨[], by simp⟩ r⟩
    · have ea : a ≠ p := by
        rintro rfl
        rw [h] at e
        cases e
        cases t
      rw [upd_ne ea]
      exact n
/-- what is read of the base -/
theorem Wd.tup (W : Wd K ad Hb H μ) {p : Addr} {vs : List V} (h : Hb p = some (.tup vs)) : H p = some (.tup vs) := W.inc p _ h
theorem Wd.sqL (W : Wd K ad Hb H μ) {p : Addr} {vs : List V} (h : SqL K Hb p vs) : SqL K H p vs := by
  rcases h with (h | ⟨o, h⟩) | h
  · exact .inl (.inl (W.inc p _ h))
  · exact .inl (.inr ⟨o, W.inc p _ h⟩)
  · exact .inr h
theorem Wd.ins (W : Wd K ad Hb H μ) {p C dx : Addr} {fs : List (Str × V)} (h : Hb p = some (.ins C dx fs)) : H p = some (.ins C dx fs) := W.inc p _ h
end

/-! ### expressions -/
section
variable {X : Cx} {a b e o : Expr} {es : List Expr} {ρ : Rho} {μ : Mu} {Q : E → Mu → Prop} {pos apos cpos : Pos}
theorem tep_name (i : Nat) {x : Str} {z : E} (hN : X.N[i]? = some x) (hv : Vis X.env.scope x) (hx : ρ[i]? = some (some z)) (q : Q z μ) (hd : (x == ("__debug__" : Str)) = false := by decide) (hcd : (x == ("__classdict__" : Str)) = false := by decide) : TEP X (.Name x pos) ρ μ Q := fun ad Hb H σ W N Q' g => by
  obtain ⟨v, h1, h2⟩ := N.2 i z hx
  exact pe_go (pe_var hN hv hd hcd) ⟨v, h1, g.now W h2 q⟩
theorem tep_int {i : Int} {j} (q : Q (.sh (.int i)) μ) : TEP X (.Constant (.int i) j pos) ρ μ Q := fun ad Hb H σ W N Q' g => pe_go pe_int (g.now W (x := .sh (.int i)) (.int i) q)
theorem tep_bl {i : Bool} {j} (q : Q (.sh (.bl i)) μ) : TEP X (.Constant (.bool i) j pos) ρ μ Q := fun ad Hb H σ W N Q' g => pe_go pe_bl (g.now W (x := .sh (.bl i)) (.bl i) q)
theorem tep_non {j} (q : Q (.sh .non) μ) : TEP X (.Constant .none j pos) ρ μ Q := fun ad Hb H σ W N Q' g => pe_go pe_non (g.now W (x := .sh .non) .non q)
theorem tep_str {i : Str} {j} (q : Q (.sh (.str i)) μ) : TEP X (.Constant (.str i) j pos) ρ μ Q := fun ad Hb H σ W N Q' g => pe_go pe_str (g.now W (x := .sh (.str i)) (.str i) q)
theorem tep_fn {x : Str} {f : Addr} (hg : Gl X x) (hm : X.mg x = some (.ref f)) (q : Q (.sh (.fn f)) μ) (hd : (x == ("__debug__" : Str)) = false := by decide) : TEP X (.Name x pos) ρ μ Q := fun ad Hb H σ W N Q' g =>
  pe_go (pe_glob hg hm (v := .ref f) rfl hd) (g.now W (x := .sh (.fn f)) (.fn f) q)
theorem tep_ty {x : Str} {T : String} (hg : Gl X x) (hm : X.mg x = none) (hv : bootBuiltins x = some (.type T)) (q : Q (.sh (.ty T)) μ) (hn : x ≠ "__name__" := by decide) (hd : (x == ("__debug__" : Str)) = false := by decide) : TEP X (.Name x pos) ρ μ Q := fun ad Hb H σ W N Q' g =>
  pe_go (pe_bltn hg hm hv (v := .ty T) rfl hn hd) (g.now W (x := .sh (.ty T)) (.ty T) q)
theorem tep_op {op : Operator} {r : R2} (ho : OpR X (binaryOp op) r) (h : TEP X a ρ μ fun x μ1 => TEP X b ρ μ1 fun y μ2 => V2 X.K r x y μ2 Q) : TEP X (.BinOp a op b pos) ρ μ Q := fun ad Hb H σ W N Q' g => by
  refine pe_go (pe_op ho pe_self pe_self) (h ad Hb H σ W N _ fun v x μ1 ad1 Hb1 H1 hx s1 W1 r1 => hx ad1 Hb1 H1 σ W1 (N.step s1) _ fun w y μ2 ad2 Hb2 H2 hy s2 W2 r2 => ?_)
  exact hy ad2 Hb2 H2 v w W2 (RepE.step s2 r1) r2 _ ((g.after s1).after s2)
theorem tep_cmp {op : CmpOp} {r : R2} (ho : OpR X (compareOp op) r) (hm : behindInMarks op b = false) (h : TEP X a ρ μ fun x μ1 => TEP X b ρ μ1 fun y μ2 => V2 X.K r x y μ2 Q) : TEP X (.Compare a [op] [b] pos) ρ μ Q := fun ad Hb H σ W N Q' g => by
  refine pe_go (pe_cmpR ho pe_self pe_self hm) (h ad Hb H σ W N _ fun v x μ1 ad1 Hb1 H1 hx s1 W1 r1 => hx ad1 Hb1 H1 σ W1 (N.step s1) _ fun w y μ2 ad2 Hb2 H2 hy s2 W2 r2 => ?_)
  exact hy ad2 Hb2 H2 v w W2 (RepE.step s2 r1) r2 _ ((g.after s1).after s2)
theorem tep_un {op : UnaryOp} {r : V → Hp → VK → Prop} (ho : UnR X (unaryOp op) r) (h : TEP X a ρ μ fun x μ1 => V1 X.K r x μ1 Q) : TEP X (.UnaryOp op a pos) ρ μ Q := fun ad Hb H σ W N Q' g =>
  pe_go (pe_un ho pe_self) (h ad Hb H σ W N _ fun v x μ1 ad1 Hb1 H1 hx s1 W1 r1 => hx ad1 Hb1 H1 v W1 r1 _ (g.after s1))
/-- the argument lists -/
theorem tap_nil {Q : List E → Mu → Prop} (q : Q [] μ) : TAP X [] ρ μ Q := fun ad Hb H σ W N Q' g => pa_go pa_nil (g [] [] μ ad Hb H q (Step.refl _ _ _) W .nil)
theorem tap_cons {Q : List E → Mu → Prop} (h : TEP X e ρ μ fun x μ1 => TAP X es ρ μ1 fun xs μ2 => Q (x :: xs) μ2) (hs : starEach (e :: es) X.env = (false, eval e X.env) :: starEach es X.env := by rfl) : TAP X (e :: es) ρ μ Q := fun ad Hb H σ W N Q' g => by
  refine pa_go (pa_cons pe_self pa_self hs) (h ad Hb H σ W N _ fun v x μ1 ad1 Hb1 H1 hx s1 W1 r1 => hx ad1 Hb1 H1 σ W1 (N.step s1) _ fun vs xs μ2 ad2 Hb2 H2 hq s2 W2 r2 => ?_)
  exact g (v :: vs) (x :: xs) μ2 ad2 Hb2 H2 hq (s1.trans s2) W2 (.cons (RepE.step s2 r1) r2)
end
end PV

/-! Pure expressions: what they yield, whatever follows. -/
namespace PV
open PySem PySem.Spec PyProof.Rows L2

/-- e yields x, and no cell changes -/
def EV (X : Cx) (e : Expr) (ρ : Rho) (μ : Mu) (x : E) : Prop := ∀ Q : E → Mu → Prop, Q x μ → TEP X e ρ μ Q
def ET (X : Cx) (e : Expr) (ρ : Rho) (μ : Mu) (b : Bool) : Prop := ∀ Q : Bool → Mu → Prop, Q b μ → TTP X e ρ μ Q
def EA (X : Cx) (es : List Expr) (ρ : Rho) (μ : Mu) (xs : List E) : Prop := ∀ Q : List E → Mu → Prop, Q xs μ → TAP X es ρ μ Q
theorem EV.is {X : Cx} {e : Expr} {ρ : Rho} {μ : Mu} {x y : E} (h : EV X e ρ μ x) (q : x = y) : EV X e ρ μ y := q ▸ h
theorem ET.is {X : Cx} {e : Expr} {ρ : Rho} {μ : Mu} {x y : Bool} (h : ET X e ρ μ x) (q : x = y) : ET X e ρ μ y := q ▸ h

/-! ### the built-ins that a module leaves alone -/
structure Bl (mg : Str → Option Value) : Prop where
  len : mg "len" = none
  list : mg "list" = none
  tuple : mg "tuple" = none
  range : mg "range" = none
  enumerate : mg "enumerate" = none
  zip : mg "zip" = none
  sorted : mg "sorted" = none
  max : mg "max" = none
  min : mg "min" = none
  sum : mg "sum" = none
  all : mg "all" = none
  any : mg "any" = none
  isinstance : mg "isinstance" = none
  int : mg "int" = none
  bool : mg "bool" = none
  dict : mg "dict" = none
  repr : mg "repr" = none

section
variable {X : Cx} {a b c e o : Expr} {es rest : List Expr} {ρ : Rho} {μ : Mu} {Q : E → Mu → Prop} {pos apos cpos : Pos} {x y z : E}
theorem ev_name (i : Nat) {x : Str} {z : E} (hx : ρ[i]? = some (some z) := by rfl) (hN : X.N[i]? = some x := by rfl) (hv : Vis X.env.scope x := by first | exact Or.inl rfl | exact Or.inr (Or.inl rfl) | exact Or.inr (Or.inr rfl))
    (hd : (x == ("__debug__" : Str)) = false := by decide) (hcd : (x == ("__classdict__" : Str)) = false := by decide) : EV X (.Name x pos) ρ μ z := fun Q q => tep_name i hN hv hx q hd hcd
theorem ev_int {i : Int} {j} : EV X (.Constant (.int i) j pos) ρ μ (.sh (.int i)) := fun Q q => tep_int q
theorem ev_bl {i : Bool} {j} : EV X (.Constant (.bool i) j pos) ρ μ (.sh (.bl i)) := fun Q q => tep_bl q
theorem ev_non {j} : EV X (.Constant .none j pos) ρ μ (.sh .non) := fun Q q => tep_non q
theorem ev_str {i : Str} {j} : EV X (.Constant (.str i) j pos) ρ μ (.sh (.str i)) := fun Q q => tep_str q
theorem ev_fn {x : Str} {f : Addr} (hm : X.mg x = some (.ref f)) (hg : Gl X x := by rfl) (hd : (x == ("__debug__" : Str)) = false := by decide) : EV X (.Name x pos) ρ μ (.sh (.fn f)) := fun Q q => tep_fn hg hm q hd
theorem ev_ty {x : Str} {T : String} (hm : X.mg x = none) (hv : bootBuiltins x = some (.type T)) (hg : Gl X x := by rfl) (hn : x ≠ "__name__" := by decide) (hd : (x == ("__debug__" : Str)) = false := by decide) : EV X (.Name x pos) ρ μ (.sh (.ty T)) := fun Q q => tep_ty hg hm hv q hn hd

/-! ### operators -/
theorem v2_i {K : PySem.W.Frag} {C : Int → Int → Prop} {g : Int → Int → P} {g' : Int → Int → V} {i j : Int} (hg : ∀ H, Rep K H (g' i j) (g i j)) (hc : C i j) (q : Q (.sh (g i j)) μ) : V2 K (rI C g') (.sh (.int i)) (.sh (.int j)) μ Q := fun ad Hb H v w W r1 r2 Q' k => by
  obtain rfl := Rep.int_inv r1
  obtain rfl := Rep.int_inv r2
  exact ⟨i, j, rfl, rfl, hc, k.now W (x := .sh (g i j)) (hg _) q⟩
theorem v2_i0 {K : PySem.W.Frag} {g : Int → Int → P} {g' : Int → Int → V} {i j : Int} (hg : ∀ H, Rep K H (g' i j) (g i j)) (q : Q (.sh (g i j)) μ) : V2 K (rI0 g') (.sh (.int i)) (.sh (.int j)) μ Q := fun ad Hb H v w W r1 r2 Q' k => by
  obtain rfl := Rep.int_inv r1
  obtain rfl := Rep.int_inv r2
  exact ⟨i, j, rfl, rfl, k.now W (x := .sh (g i j)) (hg _) q⟩
theorem tep_add (h : TEP X a ρ μ fun x μ1 => TEP X b ρ μ1 fun y μ2 => ∃ i j, x = .sh (.int i) ∧ y = .sh (.int j) ∧ Q (.sh (.int (i + j))) μ2) : TEP X (.BinOp a .Add b pos) ρ μ Q := by
  refine tep_op op_add ?_
  intro ad Hb H σ W N Q' g
  refine h ad Hb H σ W N Q' fun v x μ1 ad1 Hb1 H1 hx s W1 r => g v x μ1 ad1 Hb1 H1 ?_ s W1 r
  intro ad Hb H σ W N Q' g
  refine hx ad Hb H σ W N Q' fun v x μ1 ad1 Hb1 H1 hx s W1 r => g v x μ1 ad1 Hb1 H1 ?_ s W1 r
  obtain ⟨i, j, rfl, rfl, q⟩ := hx
  exact v2_i0 (g := fun i j => .int (i + j)) (fun _ => .int _) q
/-- two-place operations on what two pure expressions yield -/
theorem ev_op {op : Operator} {r : R2} (ho : OpR X (binaryOp op) r) (ha : EV X a ρ μ x) (hb : EV X b ρ μ y) (h : ∀ Q : E → Mu → Prop, Q z μ → V2 X.K r x y μ Q) : EV X (.BinOp a op b pos) ρ μ z := fun Q q => tep_op ho (ha _ (hb _ (h Q q)))
theorem ev_cmp {op : CmpOp} {r : R2} (ho : OpR X (compareOp op) r) (hm : behindInMarks op b = false) (ha : EV X a ρ μ x) (hb : EV X b ρ μ y) (h : ∀ Q : E → Mu → Prop, Q z μ → V2 X.K r x y μ Q) : EV X (.Compare a [op] [b] pos) ρ μ z := fun Q q => tep_cmp ho hm (ha _ (hb _ (h Q q)))
section
variable {i j : Int}
theorem ev_add (ha : EV X a ρ μ (.sh (.int i))) (hb : EV X b ρ μ (.sh (.int j))) : EV X (.BinOp a .Add b pos) ρ μ (.sh (.int (i + j))) := ev_op op_add ha hb fun Q q => v2_i0 (g := fun i j => .int (i + j)) (fun _ => .int _) q
theorem ev_sub (ha : EV X a ρ μ (.sh (.int i))) (hb : EV X b ρ μ (.sh (.int j))) : EV X (.BinOp a .Sub b pos) ρ μ (.sh (.int (i - j))) := ev_op op_sub ha hb fun Q q => v2_i0 (g := fun i j => .int (i - j)) (fun _ => .int _) q
theorem ev_mul (ha : EV X a ρ μ (.sh (.int i))) (hb : EV X b ρ μ (.sh (.int j))) (hc : CMul i j) : EV X (.BinOp a .Mult b pos) ρ μ (.sh (.int (i * j))) := ev_op op_mul ha hb fun Q q => v2_i (g := fun i j => .int (i * j)) (fun _ => .int _) hc q
theorem ev_mod (ha : EV X a ρ μ (.sh (.int i))) (hb : EV X b ρ μ (.sh (.int j))) (hc : 0 < j) : EV X (.BinOp a .Mod b pos) ρ μ (.sh (.int (i % j))) := ev_op op_mod ha hb fun Q q => v2_i (g := fun i j => .int (i % j)) (fun _ => .int _) hc q
theorem ev_fdiv (ha : EV X a ρ μ (.sh (.int i))) (hb : EV X b ρ μ (.sh (.int j))) (hc : CDiv i j) : EV X (.BinOp a .FloorDiv b pos) ρ μ (.sh (.int (i / j))) := ev_op op_fdiv ha hb fun Q q => v2_i (g := fun i j => .int (i / j)) (fun _ => .int _) hc q
theorem ev_pow (ha : EV X a ρ μ (.sh (.int i))) (hb : EV X b ρ μ (.sh (.int j))) (hc : CPow i j) : EV X (.BinOp a .Pow b pos) ρ μ (.sh (.int (i ^ j.toNat))) := ev_op op_pow ha hb fun Q q => v2_i (g := fun i j => .int (i ^ j.toNat)) (fun _ => .int _) hc q
theorem ev_lt (ha : EV X a ρ μ (.sh (.int i))) (hb : EV X b ρ μ (.sh (.int j))) : EV X (.Compare a [.Lt] [b] pos) ρ μ (.sh (.bl (decide (i < j)))) := ev_cmp op_lt (nomark _) ha hb fun Q q => v2_i0 (g := fun i j => .bl (decide (i < j))) (fun _ => .bl _) q
theorem ev_le (ha : EV X a ρ μ (.sh (.int i))) (hb : EV X b ρ μ (.sh (.int j))) : EV X (.Compare a [.LtE] [b] pos) ρ μ (.sh (.bl (decide (i ≤ j)))) := ev_cmp op_le (nomark _) ha hb fun Q q => v2_i0 (g := fun i j => .bl (decide (i ≤ j))) (fun _ => .bl _) q
theorem ev_gt (ha : EV X a ρ μ (.sh (.int i))) (hb : EV X b ρ μ (.sh (.int j))) : EV X (.Compare a [.Gt] [b] pos) ρ μ (.sh (.bl (decide (j < i)))) := ev_cmp op_gt (nomark _) ha hb fun Q q => v2_i0 (g := fun i j => .bl (decide (j < i))) (fun _ => .bl _) q
theorem ev_ge (ha : EV X a ρ μ (.sh (.int i))) (hb : EV X b ρ μ (.sh (.int j))) : EV X (.Compare a [.GtE] [b] pos) ρ μ (.sh (.bl (decide (j ≤ i)))) := ev_cmp op_ge (nomark _) ha hb fun Q q => v2_i0 (g := fun i j => .bl (decide (j ≤ i))) (fun _ => .bl _) q
theorem ev_eqI (ha : EV X a ρ μ (.sh (.int i))) (hb : EV X b ρ μ (.sh (.int j))) : EV X (.Compare a [.Eq] [b] pos) ρ μ (.sh (.bl (decide (i = j)))) := ev_cmp op_eq (nomark _) ha hb fun Q q ad Hb H v w W r1 r2 Q' k => by
  obtain rfl := Rep.int_inv r1
  obtain rfl := Rep.int_inv r2
  refine ⟨rfl, ?_⟩
  rw [dec_int, Bool.beq_eq_decide_eq]
  exact k.now W (x := .sh (.bl (decide (i = j)))) (.bl _) q
theorem ev_neI (ha : EV X a ρ μ (.sh (.int i))) (hb : EV X b ρ μ (.sh (.int j))) : EV X (.Compare a [.NotEq] [b] pos) ρ μ (.sh (.bl (!decide (i = j)))) := ev_cmp op_ne (nomark _) ha hb fun Q q ad Hb H v w W r1 r2 Q' k => by
  obtain rfl := Rep.int_inv r1
  obtain rfl := Rep.int_inv r2
  refine ⟨rfl, ?_⟩
  rw [dec_int, Bool.beq_eq_decide_eq]
  exact k.now W (x := .sh (.bl (!decide (i = j)))) (.bl _) q
theorem ev_neg (ha : EV X a ρ μ (.sh (.int i))) : EV X (.UnaryOp .USub a pos) ρ μ (.sh (.int (-i))) := fun Q q => tep_un un_neg (ha _ fun ad Hb H v W r Q' k => by
  obtain rfl := Rep.int_inv r
  exact ⟨i, rfl, k.now W (x := .sh (.int (-i))) (.int _) q⟩)
theorem ev_eqB {i j : Bool} (ha : EV X a ρ μ (.sh (.bl i))) (hb : EV X b ρ μ (.sh (.bl j))) : EV X (.Compare a [.Eq] [b] pos) ρ μ (.sh (.bl (decide (i = j)))) := ev_cmp op_eq (nomark _) ha hb fun Q q ad Hb H v w W r1 r2 Q' k => by
  obtain rfl := Rep.bl_inv r1
  obtain rfl := Rep.bl_inv r2
  refine ⟨rfl, ?_⟩
  rw [dec_bl, Bool.beq_eq_decide_eq]
  exact k.now W (x := .sh (.bl (decide (i = j)))) (.bl _) q
theorem ev_neB {i j : Bool} (ha : EV X a ρ μ (.sh (.bl i))) (hb : EV X b ρ μ (.sh (.bl j))) : EV X (.Compare a [.NotEq] [b] pos) ρ μ (.sh (.bl (!decide (i = j)))) := ev_cmp op_ne (nomark _) ha hb fun Q q ad Hb H v w W r1 r2 Q' k => by
  obtain rfl := Rep.bl_inv r1
  obtain rfl := Rep.bl_inv r2
  refine ⟨rfl, ?_⟩
  rw [dec_bl, Bool.beq_eq_decide_eq]
  exact k.now W (x := .sh (.bl (!decide (i = j)))) (.bl _) q
end
/-- is it None? -/
def isN : E → Bool
  | .sh .non => true
  | _ => false
theorem isN_rep {K : PySem.W.Frag} {ad : List Addr} {H : Hp} {v : V} {x : E} (r : RepE K ad H v x) : decide (v = .non) = isN x := by
  cases x with
  | pt j => obtain ⟨a, _, rfl⟩ := r; rfl
  | sh x => cases (show Rep K H v x from r) <;> rfl
theorem ev_isN {j pos'} (ha : EV X a ρ μ x) : EV X (.Compare a [.Is] [.Constant .none j pos'] pos) ρ μ (.sh (.bl (isN x))) := fun Q q ad Hb H σ W N Q' g => by
  refine pe_go (pe_cmp (pc_isN pe_self) (by rfl)) (ha (fun y μ1 => y = x ∧ μ1 = μ) ⟨rfl, rfl⟩ ad Hb H σ W N _ ?_)
  rintro v y μ1 ad1 Hb1 H1 ⟨rfl, rfl⟩ s W1 r
  rw [isN_rep r]
  exact g _ (.sh (.bl (isN y))) _ _ _ _ q s W1 (.bl _)
theorem ev_notN {j pos'} (ha : EV X a ρ μ x) : EV X (.Compare a [.IsNot] [.Constant .none j pos'] pos) ρ μ (.sh (.bl (!isN x))) := fun Q q ad Hb H σ W N Q' g => by
  refine pe_go (pe_cmp (pc_notN pe_self) (by rfl)) (ha (fun y μ1 => y = x ∧ μ1 = μ) ⟨rfl, rfl⟩ ad Hb H σ W N _ ?_)
  rintro v y μ1 ad1 Hb1 H1 ⟨rfl, rfl⟩ s W1 r
  rw [isN_rep r]
  exact g _ (.sh (.bl (!isN y))) _ _ _ _ q s W1 (.bl _)

/-! ### and, or, not, if -/
theorem tep_one {op} (h : TEP X a ρ μ Q) : TEP X (.BoolOp op [a] pos) ρ μ Q := fun ad Hb H σ W N Q' g => pe_go (pe_one pe_self) (h ad Hb H σ W N Q' g)
theorem tep_and (h : TEP X a ρ μ fun x μ1 => ∃ c, x = .sh (.bl c) ∧ if c = true then TEP X (.BoolOp .And (b :: rest) pos) ρ μ1 Q else Q (.sh (.bl false)) μ1) : TEP X (.BoolOp .And (a :: b :: rest) pos) ρ μ Q := fun ad Hb H σ W N Q' g => by
  refine pe_go (pe_and pe_self pe_self) (h ad Hb H σ W N _ ?_)
  rintro v x μ1 ad1 Hb1 H1 ⟨c, rfl, q⟩ s W1 r
  obtain rfl := Rep.bl_inv r
  refine ⟨c, rfl, ?_⟩
  cases c with
  | true => exact q ad1 Hb1 H1 σ W1 (N.step s) Q' (g.after s)
  | false => exact g _ (.sh (.bl false)) _ _ _ _ q s W1 (.bl false)
theorem tep_or (h : TEP X a ρ μ fun x μ1 => ∃ c, x = .sh (.bl c) ∧ if c = true then Q (.sh (.bl true)) μ1 else TEP X (.BoolOp .Or (b :: rest) pos) ρ μ1 Q) : TEP X (.BoolOp .Or (a :: b :: rest) pos) ρ μ Q := fun ad Hb H σ W N Q' g => by
  refine pe_go (pe_or pe_self pe_self) (h ad Hb H σ W N _ ?_)
  rintro v x μ1 ad1 Hb1 H1 ⟨c, rfl, q⟩ s W1 r
  obtain rfl := Rep.bl_inv r
  refine ⟨c, rfl, ?_⟩
  cases c with
  | true => exact g _ (.sh (.bl true)) _ _ _ _ q s W1 (.bl true)
  | false => exact q ad1 Hb1 H1 σ W1 (N.step s) Q' (g.after s)
theorem tep_not (h : TEP X a ρ μ fun x μ1 => ∃ c, x = .sh (.bl c) ∧ Q (.sh (.bl (!c))) μ1) : TEP X (.UnaryOp .Not a pos) ρ μ Q := fun ad Hb H σ W N Q' g => by
  refine pe_go (pe_not pe_self) (h ad Hb H σ W N _ ?_)
  rintro v x μ1 ad1 Hb1 H1 ⟨c, rfl, q⟩ s W1 r
  obtain rfl := Rep.bl_inv r
  exact ⟨c, rfl, g _ (.sh (.bl (!c))) _ _ _ _ q s W1 (.bl _)⟩
theorem ev_one {op} (h : EV X a ρ μ x) : EV X (.BoolOp op [a] pos) ρ μ x := fun Q q => tep_one (h Q q)
theorem ev_and {p r : Bool} (ha : EV X a ρ μ (.sh (.bl p))) (hb : p = true → EV X (.BoolOp .And (b :: rest) pos) ρ μ (.sh (.bl r))) : EV X (.BoolOp .And (a :: b :: rest) pos) ρ μ (.sh (.bl (p && r))) := fun Q q => tep_and (ha _ ⟨p, rfl, by
  cases p with
  | true => exact hb rfl Q q
  | false => exact q⟩)
theorem ev_or {p r : Bool} (ha : EV X a ρ μ (.sh (.bl p))) (hb : p = false → EV X (.BoolOp .Or (b :: rest) pos) ρ μ (.sh (.bl r))) : EV X (.BoolOp .Or (a :: b :: rest) pos) ρ μ (.sh (.bl (p || r))) := fun Q q => tep_or (ha _ ⟨p, rfl, by
  cases p with
  | true => exact q
  | false => exact hb rfl Q q⟩)
theorem ev_not {p : Bool} (ha : EV X a ρ μ (.sh (.bl p))) : EV X (.UnaryOp .Not a pos) ρ μ (.sh (.bl (!p))) := fun Q q => tep_not (ha _ ⟨p, rfl, q⟩)

/-! ### tests -/
theorem ttp_val {Q : Bool → Mu → Prop} (h : TEP X e ρ μ fun x μ1 => ∃ c, x = .sh (.bl c) ∧ Q c μ1) (he : ∀ whole, isTrue e X.env whole = (do let v ← whole; standAt e.pos; holding [v] (truthy v)) := by intro _; rfl) : TTP X e ρ μ Q := fun ad Hb H σ W N Q' g => by
  refine pt_go (pt_val pe_self he) (h ad Hb H σ W N _ ?_)
  rintro v x μ1 ad1 Hb1 H1 ⟨c, rfl, q⟩ s W1 r
  obtain rfl := Rep.bl_inv r
  exact ⟨c, rfl, g c _ _ _ _ q s W1⟩
theorem et_val {p : Bool} (h : EV X e ρ μ (.sh (.bl p))) (he : ∀ whole, isTrue e X.env whole = (do let v ← whole; standAt e.pos; holding [v] (truthy v)) := by intro _; rfl) : ET X e ρ μ p := fun Q q => ttp_val (h _ ⟨p, rfl, q⟩) he
theorem ttp_cmp {op : CmpOp} {r : R2} {Q : Bool → Mu → Prop} (ho : OpR X (compareOp op) r) (hm : behindInMarks op b = false) (h : TEP X a ρ μ fun x μ1 => TEP X b ρ μ1 fun y μ2 => V2 X.K r x y μ2 fun z μ3 => ∃ c, z = .sh (.bl c) ∧ Q c μ3) : TTP X (.Compare a [op] [b] pos) ρ μ Q := fun ad Hb H σ W N Q' g => by
  refine pt_go (pt_cmpR ho pe_self pe_self hm) (h ad Hb H σ W N _ fun v x μ1 ad1 Hb1 H1 hx s1 W1 r1 => hx ad1 Hb1 H1 σ W1 (N.step s1) _ fun w y μ2 ad2 Hb2 H2 hy s2 W2 r2 => ?_)
  refine hy ad2 Hb2 H2 v w W2 (RepE.step s2 r1) r2 _ ?_
  rintro v3 x3 μ3 ad3 Hb3 H3 ⟨c, rfl, q⟩ s3 W3 r3
  obtain rfl := Rep.bl_inv r3
  exact ⟨c, rfl, g c _ _ _ _ q ((s1.trans s2).trans s3) W3⟩
theorem et_cmp {op : CmpOp} {r : R2} {p : Bool} (ho : OpR X (compareOp op) r) (hm : behindInMarks op b = false) (ha : EV X a ρ μ x) (hb : EV X b ρ μ y) (h : ∀ Q : E → Mu → Prop, Q (.sh (.bl p)) μ → V2 X.K r x y μ Q) : ET X (.Compare a [op] [b] pos) ρ μ p := fun Q q => ttp_cmp ho hm (ha _ (hb _ (h _ ⟨p, rfl, q⟩)))
theorem et_isN {j pos'} (ha : EV X a ρ μ x) : ET X (.Compare a [.Is] [.Constant .none j pos'] pos) ρ μ (isN x) := fun Q q ad Hb H σ W N Q' g => by
  refine pt_go (pt_cmp (pc_isN pe_self) (by rfl)) (ha (fun y μ1 => y = x ∧ μ1 = μ) ⟨rfl, rfl⟩ ad Hb H σ W N _ ?_)
  rintro v y μ1 ad1 Hb1 H1 ⟨rfl, rfl⟩ s W1 r
  rw [isN_rep r]
  exact ⟨_, rfl, g _ _ _ _ _ q s W1⟩
theorem et_notN {j pos'} (ha : EV X a ρ μ x) : ET X (.Compare a [.IsNot] [.Constant .none j pos'] pos) ρ μ (!isN x) := fun Q q ad Hb H σ W N Q' g => by
  refine pt_go (pt_cmp (pc_notN pe_self) (by rfl)) (ha (fun y μ1 => y = x ∧ μ1 = μ) ⟨rfl, rfl⟩ ad Hb H σ W N _ ?_)
  rintro v y μ1 ad1 Hb1 H1 ⟨rfl, rfl⟩ s W1 r
  rw [isN_rep r]
  exact ⟨_, rfl, g _ _ _ _ _ q s W1⟩
def TWP (X : Cx) (e : Expr) (ρ : Rho) (μ : Mu) (Q : Bool → Mu → Prop) : Prop :=
  ∀ (ad : List Addr) (Hb H : Hp) (σ : L2.St), Wd X.K ad Hb H μ → Env X.K ad Hb σ ρ → ∀ Q', GoesT X.K ad Hb H Q Q' → ∀ whole pins s, Inv X pins σ H s → wpAny (model X.prog X.w) X.A (isTrue e X.env whole) (TP X pins σ Q') X.xe s
theorem twp_pw {t : TT} {Q : Bool → Mu → Prop} (h : PW X e t) (k : ∀ (ad : List Addr) (Hb H : Hp) (σ : L2.St), Wd X.K ad Hb H μ → Env X.K ad Hb σ ρ → ∀ Q', GoesT X.K ad Hb H Q Q' → t σ H Q') : TWP X e ρ μ Q := fun ad Hb H σ W N Q' g whole pins s I => h.run whole pins s σ H Q' I (k ad Hb H σ W N Q' g)
def TWV (X : Cx) (e : Expr) : TT := fun σ H Q => ∀ whole pins s, Inv X pins σ H s → wpAny (model X.prog X.w) X.A (isTrue e X.env whole) (TP X pins σ Q) X.xe s
theorem pw_self : PW X e (TWV X e) := ⟨fun whole pins s _ _ _ I h => h whole pins s I⟩
theorem twp_and1 {Q : Bool → Mu → Prop} (h : TTP X a ρ μ Q) : TWP X (.BoolOp .And [a] pos) ρ μ Q := twp_pw (pw_and1 pt_self) h
theorem twp_or1 {Q : Bool → Mu → Prop} (h : TTP X a ρ μ Q) : TWP X (.BoolOp .Or [a] pos) ρ μ Q := twp_pw (pw_or1 pt_self) h
theorem twp_and {Q : Bool → Mu → Prop} (h : TTP X a ρ μ fun c μ1 => if c = true then TWP X (.BoolOp .And (b :: rest) pos) ρ μ1 Q else Q false μ1) : TWP X (.BoolOp .And (a :: b :: rest) pos) ρ μ Q := twp_pw (pw_and pt_self pw_self) fun ad Hb H σ W N Q' g => by
  refine h ad Hb H σ W N _ fun c μ1 ad1 Hb1 H1 q s W1 => ?_
  cases c with
  | true => exact q ad1 Hb1 H1 σ W1 (N.step s) Q' (g.after s)
  | false => exact g false _ _ _ _ q s W1
theorem twp_or {Q : Bool → Mu → Prop} (h : TTP X a ρ μ fun c μ1 => if c = true then Q true μ1 else TWP X (.BoolOp .Or (b :: rest) pos) ρ μ1 Q) : TWP X (.BoolOp .Or (a :: b :: rest) pos) ρ μ Q := twp_pw (pw_or pt_self pw_self) fun ad Hb H σ W N Q' g => by
  refine h ad Hb H σ W N _ fun c μ1 ad1 Hb1 H1 q s W1 => ?_
  cases c with
  | true => exact g true _ _ _ _ q s W1
  | false => exact q ad1 Hb1 H1 σ W1 (N.step s) Q' (g.after s)
theorem TWP.t {Q : Bool → Mu → Prop} (h : TWP X e ρ μ Q) : TTP X e ρ μ Q := fun ad Hb H σ W N Q' g pins s I => h ad Hb H σ W N Q' g _ pins s I
def EW (X : Cx) (e : Expr) (ρ : Rho) (μ : Mu) (b : Bool) : Prop := ∀ Q : Bool → Mu → Prop, Q b μ → TWP X e ρ μ Q
theorem ew_and1 {p : Bool} (h : ET X a ρ μ p) : EW X (.BoolOp .And [a] pos) ρ μ p := fun Q q => twp_and1 (h Q q)
theorem ew_or1 {p : Bool} (h : ET X a ρ μ p) : EW X (.BoolOp .Or [a] pos) ρ μ p := fun Q q => twp_or1 (h Q q)
theorem ew_and {p r : Bool} (ha : ET X a ρ μ p) (hb : p = true → EW X (.BoolOp .And (b :: rest) pos) ρ μ r) : EW X (.BoolOp .And (a :: b :: rest) pos) ρ μ (p && r) := fun Q q => twp_and (ha _ (by
  cases p with
  | true => exact hb rfl Q q
  | false => exact q))
theorem ew_or {p r : Bool} (ha : ET X a ρ μ p) (hb : p = false → EW X (.BoolOp .Or (b :: rest) pos) ρ μ r) : EW X (.BoolOp .Or (a :: b :: rest) pos) ρ μ (p || r) := fun Q q => twp_or (ha _ (by
  cases p with
  | true => exact q
  | false => exact hb rfl Q q))
theorem et_w {p : Bool} (h : EW X e ρ μ p) : ET X e ρ μ p := fun Q q => (h Q q).t
theorem ttp_not {Q : Bool → Mu → Prop} (h : TTP X a ρ μ fun c μ1 => Q (!c) μ1) : TTP X (.UnaryOp .Not a pos) ρ μ Q := fun ad Hb H σ W N Q' g => pt_go (pt_not pt_self) (h ad Hb H σ W N _ fun c μ1 ad1 Hb1 H1 q s W1 => g (!c) _ _ _ _ q s W1)
theorem et_not {p : Bool} (h : ET X a ρ μ p) : ET X (.UnaryOp .Not a pos) ρ μ (!p) := fun Q q => ttp_not (h _ q)
theorem tep_if (h : TTP X c ρ μ fun d μ1 => if d = true then TEP X a ρ μ1 Q else TEP X b ρ μ1 Q) : TEP X (.IfExp c a b pos) ρ μ Q := fun ad Hb H σ W N Q' g => by
  refine pe_go (pe_ifExp pt_self pe_self pe_self) (h ad Hb H σ W N _ fun d μ1 ad1 Hb1 H1 q s W1 => ?_)
  cases d with
  | true => exact q ad1 Hb1 H1 σ W1 (N.step s) Q' (g.after s)
  | false => exact q ad1 Hb1 H1 σ W1 (N.step s) Q' (g.after s)
theorem ev_if {d : Bool} (hc : ET X c ρ μ d) (h1 : d = true → EV X a ρ μ x) (h2 : d = false → EV X b ρ μ x) : EV X (.IfExp c a b pos) ρ μ x := fun Q q => tep_if (hc _ (by
  cases d with
  | true => exact h1 rfl Q q
  | false => exact h2 rfl Q q))
section
variable {i j : Int}
theorem et_lt (ha : EV X a ρ μ (.sh (.int i))) (hb : EV X b ρ μ (.sh (.int j))) : ET X (.Compare a [.Lt] [b] pos) ρ μ (decide (i < j)) := et_cmp op_lt (nomark _) ha hb fun Q q => v2_i0 (g := fun i j => .bl (decide (i < j))) (fun _ => .bl _) q
theorem et_le (ha : EV X a ρ μ (.sh (.int i))) (hb : EV X b ρ μ (.sh (.int j))) : ET X (.Compare a [.LtE] [b] pos) ρ μ (decide (i ≤ j)) := et_cmp op_le (nomark _) ha hb fun Q q => v2_i0 (g := fun i j => .bl (decide (i ≤ j))) (fun _ => .bl _) q
theorem et_gt (ha : EV X a ρ μ (.sh (.int i))) (hb : EV X b ρ μ (.sh (.int j))) : ET X (.Compare a [.Gt] [b] pos) ρ μ (decide (j < i)) := et_cmp op_gt (nomark _) ha hb fun Q q => v2_i0 (g := fun i j => .bl (decide (j < i))) (fun _ => .bl _) q
theorem et_ge (ha : EV X a ρ μ (.sh (.int i))) (hb : EV X b ρ μ (.sh (.int j))) : ET X (.Compare a [.GtE] [b] pos) ρ μ (decide (j ≤ i)) := et_cmp op_ge (nomark _) ha hb fun Q q => v2_i0 (g := fun i j => .bl (decide (j ≤ i))) (fun _ => .bl _) q
theorem v2_eqI {K : PySem.W.Frag} (q : Q (.sh (.bl (decide (i = j)))) μ) : V2 K rEq (.sh (.int i)) (.sh (.int j)) μ Q := fun ad Hb H v w W r1 r2 Q' k => by
  obtain rfl := Rep.int_inv r1
  obtain rfl := Rep.int_inv r2
  refine ⟨rfl, ?_⟩
  rw [dec_int, Bool.beq_eq_decide_eq]
  exact k.now W (x := .sh (.bl (decide (i = j)))) (.bl _) q
theorem v2_neI {K : PySem.W.Frag} (q : Q (.sh (.bl (!decide (i = j)))) μ) : V2 K rNe (.sh (.int i)) (.sh (.int j)) μ Q := fun ad Hb H v w W r1 r2 Q' k => by
  obtain rfl := Rep.int_inv r1
  obtain rfl := Rep.int_inv r2
  refine ⟨rfl, ?_⟩
  rw [dec_int, Bool.beq_eq_decide_eq]
  exact k.now W (x := .sh (.bl (!decide (i = j)))) (.bl _) q
theorem et_eqI (ha : EV X a ρ μ (.sh (.int i))) (hb : EV X b ρ μ (.sh (.int j))) : ET X (.Compare a [.Eq] [b] pos) ρ μ (decide (i = j)) := et_cmp op_eq (nomark _) ha hb fun Q q => v2_eqI q
theorem et_neI (ha : EV X a ρ μ (.sh (.int i))) (hb : EV X b ρ μ (.sh (.int j))) : ET X (.Compare a [.NotEq] [b] pos) ρ μ (!decide (i = j)) := et_cmp op_ne (nomark _) ha hb fun Q q => v2_neI q
end
end
end PV

/-! Displays, attributes, subscripts, slices, membership, calls of built-ins and of methods of built-in types. -/
namespace PV
open PySem PySem.Spec PyProof.Rows L2

/-! ### values side by side -/
theorem repEs_sh {K : PySem.W.Frag} {ad : List Addr} {H : Hp} : ∀ {vs : List V} {ys : List P}, RepEs K ad H vs (ys.map E.sh) → RepL K H vs ys
  | _, [], .nil => .nil
  | _, _ :: _, .cons r t => .cons r (repEs_sh t)
theorem repEs_of {K : PySem.W.Frag} {ad : List Addr} {H : Hp} : ∀ {vs : List V} {ys : List P}, RepL K H vs ys → RepEs K ad H vs (ys.map E.sh)
  | _, _, .nil => .nil
  | _, _, .cons r t => .cons r (repEs_of t)
theorem RepL.mono {K : PySem.W.Frag} {H H' : Hp} (x : Ex H H') {vs : List V} {ys : List P} (r : RepL K H vs ys) : RepL K H' vs ys := pd_imp (fun _ _ h => Rep.mono x h) r
theorem ixN_len {α β : Type} {xs : List α} {ys : List β} (h : xs.length = ys.length) (i : Int) : ixN xs.length i = ixN ys.length i := by rw [h]
theorem pd_atI {α β : Type} {F : α → β → Prop} {l₁ : List α} {l₂ : List β} (r : Paired F l₁ l₂) {i : Int} {b : β} (h : atI l₂ i = some b) : ∃ a, atI l₁ i = some a ∧ F a b := by
  unfold atI at h ⊢
  rw [ixN_len r.length i]
  cases e : ixN l₂.length i with
  | none => rw [e] at h; cases h
  | some j =>
    rw [e] at h
    exact pd_left r j b h
theorem pd_lookup {K : PySem.W.Frag} {F : V → P → Prop} : ∀ {fs : List (Str × V)} {gs : List (Str × P)}, Paired (fun p q => p.1 = q.1 ∧ F p.2 q.2) fs gs → ∀ {f : Str} {y : P}, gs.lookup f = some y → ∃ v, fs.lookup f = some v ∧ F v y
  | _, _, .nil, _, _, h => by cases h
  | (k, v) :: fs, (k', y') :: gs, .cons r t, f, y, h => by
    obtain ⟨e, q⟩ := r
    have e : k = k' := e
    subst e
    have q : F v y' := q
    rw [List.lookup_cons] at h ⊢
    cases c : f == k with
    | true =>
      rw [c] at h
      have h : y' = y := Option.some.inj h
      subst h
      exact ⟨v, rfl, q⟩
    | false =>
      rw [c] at h
      exact pd_lookup (K := K) t h

section
variable {X : Cx} {a b c e o : Expr} {es rest : List Expr} {ρ : Rho} {μ : Mu} {Q : E → Mu → Prop} {pos apos cpos p2 : Pos} {x y z : E} {xs ys : List P}
/-! ### argument lists -/
def EAs (X : Cx) (es : List Expr) (ρ : Rho) (μ : Mu) (ys : List P) : Prop := EA X es ρ μ (ys.map .sh)
theorem ea_nil : EA X [] ρ μ [] := fun Q q => tap_nil q
theorem ea_cons {zs : List E} (h : EV X e ρ μ x) (t : EA X es ρ μ zs) (hs : starEach (e :: es) X.env = (false, eval e X.env) :: starEach es X.env := by rfl) : EA X (e :: es) ρ μ (x :: zs) := fun Q q => tap_cons (h _ (t _ q)) hs
theorem eas_nil : EAs X [] ρ μ [] := ea_nil
theorem eas_cons {x : P} (h : EV X e ρ μ (.sh x)) (t : EAs X es ρ μ ys) (hs : starEach (e :: es) X.env = (false, eval e X.env) :: starEach es X.env := by rfl) : EAs X (e :: es) ρ μ (x :: ys) := ea_cons h t hs
/-- *e, e a list or a tuple -/
theorem tap_star {Q : List E → Mu → Prop} {zs : List P} (h : EV X e ρ μ (.sh (.lst zs))) (t : TAP X es ρ μ fun ys μ2 => Q (zs.map .sh ++ ys) μ2) (hs : starEach (.Starred e p2 :: es) X.env = (true, eval e X.env) :: starEach es X.env := by rfl) : TAP X (.Starred e p2 :: es) ρ μ Q := fun ad Hb H σ W N Q' g => by
  refine pa_go (StX.pa_star pe_self pa_self hs) (h (fun y μ1 => y = .sh (.lst zs) ∧ μ1 = μ) ⟨rfl, rfl⟩ ad Hb H σ W N _ ?_)
  rintro v x μ1 ad1 Hb1 H1 ⟨rfl, rfl⟩ s1 W1 r1
  obtain ⟨a, vs, rfl, hq, r⟩ := Rep.lst_inv r1
  refine ⟨a, vs, rfl, .inr (W1.sqL hq), t ad1 Hb1 H1 σ W1 (N.step s1) _ fun ws ys μ2 ad2 Hb2 H2 q s2 W2 r2 => ?_⟩
  exact g _ _ _ _ _ _ q (s1.trans s2) W2 (pd_app (repEs_of (RepL.mono s2.ex r)) r2)
theorem eas_star {zs : List P} (h : EV X e ρ μ (.sh (.lst zs))) (t : EAs X es ρ μ ys) (hs : starEach (.Starred e p2 :: es) X.env = (true, eval e X.env) :: starEach es X.env := by rfl) : EAs X (.Starred e p2 :: es) ρ μ (zs ++ ys) := fun Q q => tap_star h (t _ (by
  rw [List.map_append] at q
  exact q)) hs

/-! ### displays -/
theorem tep_tup {k} (h : TAP X es ρ μ fun zs μ1 => ∃ ys : List P, zs = ys.map .sh ∧ ys.length ≤ 100000 ∧ Q (.sh (.tup ys)) μ1) : TEP X (.Tuple es k pos) ρ μ Q := fun ad Hb H σ W N Q' g => by
  refine pe_go (pe_tup pa_self) (h ad Hb H σ W N _ ?_)
  rintro vs zs μ1 ad1 Hb1 H1 ⟨ys, rfl, l, q⟩ s1 W1 r1
  refine ⟨Nat.le_trans (by rw [r1.length, List.length_map]; exact l) (by decide), fun p hp => ?_⟩
  obtain ⟨W2, s2⟩ := W1.alloc (o := .tup vs) hp
  exact g _ (.sh (.tup ys)) _ _ _ _ q (s1.trans s2) W2 (Rep.tupL upd_same (RepL.mono s2.ex (repEs_sh r1)))
theorem tep_lst (h : TAP X es ρ μ fun zs μ1 => ∃ ys : List P, zs = ys.map .sh ∧ ys.length ≤ 100000 ∧ Q (.sh (.lst ys)) μ1) : TEP X (.List es pos) ρ μ Q := fun ad Hb H σ W N Q' g => by
  refine pe_go (pe_lst pa_self) (h ad Hb H σ W N _ ?_)
  rintro vs zs μ1 ad1 Hb1 H1 ⟨ys, rfl, l, q⟩ s1 W1 r1
  refine ⟨Nat.le_trans (by rw [r1.length, List.length_map]; exact l) (by decide), fun p hp => ?_⟩
  obtain ⟨W2, s2⟩ := W1.alloc (o := .lst vs) hp
  exact g _ (.sh (.lst ys)) _ _ _ _ q (s1.trans s2) W2 (Rep.lstL upd_same (RepL.mono s2.ex (repEs_sh r1)))
/-- a list that will change -/
theorem tep_lstC (h : TAP X es ρ μ fun zs μ1 => zs.length ≤ 100000 ∧ Q (.pt μ1.length) (μ1 ++ [some (.lst zs)])) : TEP X (.List es pos) ρ μ Q := fun ad Hb H σ W N Q' g => by
  refine pe_go (pe_lst pa_self) (h ad Hb H σ W N _ ?_)
  rintro vs zs μ1 ad1 Hb1 H1 ⟨l, q⟩ s1 W1 r1
  refine ⟨Nat.le_trans (by rw [r1.length]; exact l) (by decide), fun p hp => ?_⟩
  obtain ⟨W2, s2⟩ := W1.cell (o := .lst vs) (c := .lst zs) hp ⟨vs, upd_same, pd_imp (fun _ _ r => repE_mono (Ex.refl _) ⟨[p], rfl⟩ r) r1⟩
  exact g _ (.pt μ1.length) _ _ _ _ q (s1.trans s2) W2 ⟨p, by rw [← W1.len]; simp, rfl⟩
theorem ev_tup {k} (h : EAs X es ρ μ ys) (l : ys.length ≤ 100000 := by simp) : EV X (.Tuple es k pos) ρ μ (.sh (.tup ys)) := fun Q q => tep_tup (h _ ⟨ys, rfl, l, q⟩)
theorem ev_lst (h : EAs X es ρ μ ys) (l : ys.length ≤ 100000 := by simp) : EV X (.List es pos) ρ μ (.sh (.lst ys)) := fun Q q => tep_lst (h _ ⟨ys, rfl, l, q⟩)
/-- {} that will change: keys tuples, keys ints and texts -/
theorem tep_dTC (q : Q (.pt μ.length) (μ ++ [some (.dT [])])) : TEP X (.Dict [] [] pos) ρ μ Q := fun ad Hb H σ W N Q' g => by
  refine pe_go pe_dnewT fun p hp => ?_
  obtain ⟨W2, s2⟩ := W.cell (o := .dT []) (c := .dT []) hp ⟨[], upd_same, .nil⟩
  exact g _ (.pt μ.length) _ _ _ _ q s2 W2 ⟨p, by rw [← W.len]; simp, rfl⟩
theorem tep_dKC (q : Q (.pt μ.length) (μ ++ [some (.dK [])])) : TEP X (.Dict [] [] pos) ρ μ Q := fun ad Hb H σ W N Q' g => by
  refine pe_go pe_dnewK fun p hp => ?_
  obtain ⟨W2, s2⟩ := W.cell (o := .dK []) (c := .dK []) hp ⟨[], upd_same, .nil⟩
  exact g _ (.pt μ.length) _ _ _ _ q s2 W2 ⟨p, by rw [← W.len]; simp, rfl⟩
theorem ev_dT0 : EV X (.Dict [] [] pos) ρ μ (.sh (.dT [])) := fun Q q ad Hb H σ W N Q' g => by
  refine pe_go pe_dnewT fun p hp => ?_
  obtain ⟨W2, s2⟩ := W.alloc (o := .dT []) hp
  exact g _ (.sh (.dT [])) _ _ _ _ q s2 W2 (.dT upd_same rfl fun _ _ _ h => by cases h)

/-! ### attributes -/
theorem ev_attr {C : Addr} {gs : List (Str × P)} {f : Str} {y : P} (h : EV X o ρ μ (.sh (.obj C gs))) (hC : Cls X.K C) (hn : NoAttr X.K C f) (hl : gs.lookup f = some y) (hb : attributeBase o f X.env (eval o X.env) = eval o X.env := by rfl) : EV X (.Attribute o f pos) ρ μ (.sh y) := fun Q q ad Hb H σ W N Q' g => by
  refine pe_go (pe_fld pe_self hb) (h (fun y μ1 => y = .sh (.obj C gs) ∧ μ1 = μ) ⟨rfl, rfl⟩ ad Hb H σ W N _ ?_)
  rintro v x μ1 ad1 Hb1 H1 ⟨rfl, rfl⟩ s1 W1 r1
  obtain ⟨a, dx, fs, rfl, ha, r⟩ := Rep.obj_inv r1
  obtain ⟨v, hv, rv⟩ := pd_lookup (K := X.K) r hl
  exact ⟨a, C, dx, fs, v, rfl, W1.ins ha, hC, hn, hv, g v (.sh y) _ _ _ _ q s1 W1 rv⟩

/-! ### subscripts -/
theorem tep_ix {r : R2} (hr : IxR X r) (hs : PlainIx b) (h : TEP X a ρ μ fun x μ1 => TEP X b ρ μ1 fun y μ2 => V2 X.K r x y μ2 Q) : TEP X (.Subscript a b pos) ρ μ Q := fun ad Hb H σ W N Q' g => by
  refine pe_go (pe_ix hr pe_self pe_self hs) (h ad Hb H σ W N _ fun v x μ1 ad1 Hb1 H1 hx s1 W1 r1 => hx ad1 Hb1 H1 σ W1 (N.step s1) _ fun w y μ2 ad2 Hb2 H2 hy s2 W2 r2 => ?_)
  exact hy ad2 Hb2 H2 v w W2 (RepE.step s2 r1) r2 _ ((g.after s1).after s2)
theorem v2_ixL {K : PySem.W.Frag} {i : Int} {x : P} (h : atI xs i = some x) (q : Q (.sh x) μ) : V2 K (rIxL K) (.sh (.lst xs)) (.sh (.int i)) μ Q := fun ad Hb H v w W r1 r2 Q' k => by
  obtain ⟨a, vs, rfl, hq, r⟩ := Rep.lst_inv r1
  obtain rfl := Rep.int_inv r2
  obtain ⟨v, hv, rv⟩ := pd_atI r h
  exact ⟨a, vs, i, v, rfl, rfl, W.sqL hq, hv, k.now W (x := .sh x) rv q⟩
theorem v2_ixT {K : PySem.W.Frag} {i : Int} {x : P} (h : atI xs i = some x) (q : Q (.sh x) μ) : V2 K (rIxT K) (.sh (.tup xs)) (.sh (.int i)) μ Q := fun ad Hb H v w W r1 r2 Q' k => by
  obtain ⟨a, vs, rfl, hq, r⟩ := Rep.tup_inv r1
  obtain rfl := Rep.int_inv r2
  obtain ⟨v, hv, rv⟩ := pd_atI r h
  exact ⟨a, vs, i, v, rfl, rfl, .inl (.inl (W.tup hq)), hv, k.now W (x := .sh x) rv q⟩
theorem v2_ixC {K : PySem.W.Frag} {i : Int} {j : Nat} {zs : List E} (hj : μ[j]? = some (some (.lst zs))) (h : atI zs i = some x) (q : Q x μ) : V2 K (rIxL K) (.pt j) (.sh (.int i)) μ Q := fun ad Hb H v w W r1 r2 Q' k => by
  obtain ⟨a, ha, rfl⟩ := r1
  obtain rfl := Rep.int_inv r2
  obtain ⟨_, vs, hv, r⟩ := W.off j a _ ha hj
  obtain ⟨v, hv2, rv⟩ := pd_atI r h
  exact ⟨a, vs, i, v, rfl, rfl, .inl (.inl hv), hv2, k.now W rv q⟩
section
variable {i : Int} {x : P}
theorem ev_ixL (ha : EV X a ρ μ (.sh (.lst xs))) (hb : EV X b ρ μ (.sh (.int i))) (h : atI xs i = some x) (hs : PlainIx b := by intro _ _; rfl) : EV X (.Subscript a b pos) ρ μ (.sh x) := fun Q q => tep_ix ix_list hs (ha _ (hb _ (v2_ixL h q)))
theorem ev_ixT (ha : EV X a ρ μ (.sh (.tup xs))) (hb : EV X b ρ μ (.sh (.int i))) (h : atI xs i = some x) (hs : PlainIx b := by intro _ _; rfl) : EV X (.Subscript a b pos) ρ μ (.sh x) := fun Q q => tep_ix ix_tup hs (ha _ (hb _ (v2_ixT h q)))
theorem ev_ixC {j : Nat} {zs : List E} {x : E} (ha : EV X a ρ μ (.pt j)) (hb : EV X b ρ μ (.sh (.int i))) (hj : μ[j]? = some (some (.lst zs))) (h : atI zs i = some x) (hs : PlainIx b := by intro _ _; rfl) : EV X (.Subscript a b pos) ρ μ x := fun Q q => tep_ix ix_list hs (ha _ (hb _ (v2_ixC hj h q)))
end
/-! ### slices -/
def cutP {α : Type} (xs : List α) (lo hi : Option Int) : List α := (xs.drop (HT.sIx xs.length 0 lo)).take (HT.sIx xs.length xs.length hi - HT.sIx xs.length 0 lo)
theorem pd_drop {α β : Type} {F : α → β → Prop} : ∀ (n : Nat) {l₁ : List α} {l₂ : List β}, Paired F l₁ l₂ → Paired F (l₁.drop n) (l₂.drop n)
  | 0, _, _, r => r
  | _ + 1, _, _, .nil => .nil
  | n + 1, _, _, .cons _ t => pd_drop n t
theorem pd_take {α β : Type} {F : α → β → Prop} : ∀ (n : Nat) {l₁ : List α} {l₂ : List β}, Paired F l₁ l₂ → Paired F (l₁.take n) (l₂.take n)
  | 0, _, _, _ => .nil
  | _ + 1, _, _, .nil => .nil
  | n + 1, _, _, .cons r t => .cons r (pd_take n t)
theorem pd_cut {α : Type} {F : V → α → Prop} {l₁ : List V} {l₂ : List α} (r : Paired F l₁ l₂) (lo hi : Option Int) : Paired F (cutV l₁ lo hi) (cutP l₂ lo hi) := by
  unfold cutV cutP
  rw [r.length]
  exact pd_take _ (pd_drop _ r)
theorem pd_rev {α β : Type} {F : α → β → Prop} : ∀ {l₁ : List α} {l₂ : List β}, Paired F l₁ l₂ → Paired F l₁.reverse l₂.reverse
  | _, _, .nil => .nil
  | _, _, .cons r t => by
    rw [List.reverse_cons, List.reverse_cons]
    exact pd_app (pd_rev t) (.cons r .nil)
/-- a part of a slice -/
def EO (X : Cx) (o : Option Expr) (ρ : Rho) (μ : Mu) (i : Option Int) : Prop := match o, i with
  | none, none => True
  | some e, some i => EV X e ρ μ (.sh (.int i))
  | _, _ => False
def TOV (X : Cx) (o : Option Expr) : TO := match o with
  | none => tNoPart
  | some e => tPart (TEV X e)
theorem po_self {o : Option Expr} : PO X o (TOV X o) := by
  cases o with
  | none => exact po_none
  | some e => exact po_some pe_self
theorem EO.run {o : Option Expr} {i : Option Int} (h : EO X o ρ μ i) {ad : List Addr} {Hb H : Hp} {σ : L2.St} (W : Wd X.K ad Hb H μ) (N : Env X.K ad Hb σ ρ) {Q' : Option Int → Hp → Prop} (g : ∀ ad' Hb' H', Step ad Hb H ad' Hb' H' → Wd X.K ad' Hb' H' μ → Q' i H') : TOV X o σ H Q' := by
  cases o with
  | none =>
    cases i with
    | none => exact g _ _ _ (Step.refl _ _ _) W
    | some i => exact h.elim
  | some e =>
    cases i with
    | none => exact h.elim
    | some i =>
      refine h (fun y μ1 => y = .sh (.int i) ∧ μ1 = μ) ⟨rfl, rfl⟩ ad Hb H σ W N _ ?_
      rintro v x μ1 ad1 Hb1 H1 ⟨rfl, rfl⟩ s1 W1 r1
      obtain rfl := Rep.int_inv r1
      exact ⟨i, rfl, g _ _ _ s1 W1⟩
theorem ev_slice {lo hi : Option Expr} {i j : Option Int} (ha : EV X a ρ μ (.sh (.lst xs))) (hl : EO X lo ρ μ i) (hh : EO X hi ρ μ j) : EV X (.Subscript a (.Slice lo hi none p2) pos) ρ μ (.sh (.lst (cutP xs i j))) := fun Q q ad Hb H σ W N Q' g => by
  refine pe_go (pe_slice sl_list pe_self po_self po_self) (ha (fun y μ1 => y = .sh (.lst xs) ∧ μ1 = μ) ⟨rfl, rfl⟩ ad Hb H σ W N _ ?_)
  rintro v x μ1 ad1 Hb1 H1 ⟨rfl, rfl⟩ s1 W1 r1
  refine hl.run W1 (N.step s1) fun ad2 Hb2 H2 s2 W2 => hh.run W2 ((N.step s1).step s2) fun ad3 Hb3 H3 s3 W3 => ?_
  obtain ⟨a, vs, rfl, hq, r⟩ := Rep.lst_inv (Rep.mono (s2.trans s3).ex r1)
  refine ⟨a, vs, rfl, W3.sqL hq, fun p hp => ?_⟩
  obtain ⟨W4, s4⟩ := W3.alloc (o := .lst (cutV vs i j)) hp
  exact g _ (.sh (.lst (cutP xs i j))) _ _ _ _ q ((s1.trans (s2.trans s3)).trans s4) W4 (Rep.lstL upd_same (RepL.mono s4.ex (pd_cut r i j)))
theorem ev_revL {k : Nat} {p1 p3 : Pos} (ha : EV X a ρ μ (.sh (.lst xs))) : EV X (.Subscript a (.Slice none none (some (.UnaryOp .USub (.Constant (.int 1) k p1) p2)) p3) pos) ρ μ (.sh (.lst xs.reverse)) := fun Q q ad Hb H σ W N Q' g => by
  refine pe_go (pe_revL pe_self) (ha (fun y μ1 => y = .sh (.lst xs) ∧ μ1 = μ) ⟨rfl, rfl⟩ ad Hb H σ W N _ ?_)
  rintro v x μ1 ad1 Hb1 H1 ⟨rfl, rfl⟩ s1 W1 r1
  obtain ⟨a, vs, rfl, hq, r⟩ := Rep.lst_inv r1
  refine ⟨a, vs, rfl, W1.sqL hq, fun p hp => ?_⟩
  obtain ⟨W4, s4⟩ := W1.alloc (o := .lst vs.reverse) hp
  exact g _ (.sh (.lst xs.reverse)) _ _ _ _ q (s1.trans s4) W4 (Rep.lstL upd_same (RepL.mono s4.ex (pd_rev r)))

/-! ### calls of built-ins -/
section
variable {nm : Str} {r : List V → Hp → VK → Prop} {zs : List E} {T id : String}
theorem tep_callB (hc : CallR X (.builtin id) r) (hg : Gl X nm) (hm : X.mg nm = none) (hv : bootBuiltins nm = some (.builtin id)) (h : TAP X (e :: es) ρ μ fun zs μ1 => VL X.K r zs μ1 Q) (hn : nm ≠ "__name__" := by decide) (hdb : (nm == ("__debug__" : Str)) = false := by decide)
    (he : starEach (e :: es) X.env = (false, eval e X.env) :: starEach es X.env := by rfl) (hpl : (backTo pos (starEach es X.env)).any (·.1) = false := by rfl) : TEP X (.Call (.Name nm p2) (e :: es) [] pos) ρ μ Q := fun ad Hb H σ W N Q' g =>
  pe_go (pe_callB hc hg hm hv pa_self hn hdb he hpl) (h ad Hb H σ W N _ fun vs zs μ1 ad1 Hb1 H1 hq s1 W1 r1 => hq ad1 Hb1 H1 vs W1 r1 Q' (g.after s1))
theorem tep_callTy (hc : CallR X (.type T) r) (hg : Gl X nm) (hm : X.mg nm = none) (hv : bootBuiltins nm = some (.type T)) (h : TAP X (e :: es) ρ μ fun zs μ1 => VL X.K r zs μ1 Q) (hn : nm ≠ "__name__" := by decide) (hdb : (nm == ("__debug__" : Str)) = false := by decide)
    (he : starEach (e :: es) X.env = (false, eval e X.env) :: starEach es X.env := by rfl) (hpl : (backTo pos (starEach es X.env)).any (·.1) = false := by rfl) : TEP X (.Call (.Name nm p2) (e :: es) [] pos) ρ μ Q := fun ad Hb H σ W N Q' g =>
  pe_go (pe_callTy hc hg hm hv pa_self hn hdb he hpl) (h ad Hb H σ W N _ fun vs zs μ1 ad1 Hb1 H1 hq s1 W1 r1 => hq ad1 Hb1 H1 vs W1 r1 Q' (g.after s1))
theorem ev_callB (hc : CallR X (.builtin id) r) (hg : Gl X nm) (hm : X.mg nm = none) (hv : bootBuiltins nm = some (.builtin id)) (h : EA X (e :: es) ρ μ zs) (k : ∀ Q : E → Mu → Prop, Q x μ → VL X.K r zs μ Q) (hn : nm ≠ "__name__" := by decide) (hdb : (nm == ("__debug__" : Str)) = false := by decide)
    (he : starEach (e :: es) X.env = (false, eval e X.env) :: starEach es X.env := by rfl) (hpl : (backTo pos (starEach es X.env)).any (·.1) = false := by rfl) : EV X (.Call (.Name nm p2) (e :: es) [] pos) ρ μ x := fun Q q => tep_callB hc hg hm hv (h _ (k Q q)) hn hdb he hpl
theorem ev_callTy (hc : CallR X (.type T) r) (hg : Gl X nm) (hm : X.mg nm = none) (hv : bootBuiltins nm = some (.type T)) (h : EA X (e :: es) ρ μ zs) (k : ∀ Q : E → Mu → Prop, Q x μ → VL X.K r zs μ Q) (hn : nm ≠ "__name__" := by decide) (hdb : (nm == ("__debug__" : Str)) = false := by decide)
    (he : starEach (e :: es) X.env = (false, eval e X.env) :: starEach es X.env := by rfl) (hpl : (backTo pos (starEach es X.env)).any (·.1) = false := by rfl) : EV X (.Call (.Name nm p2) (e :: es) [] pos) ρ μ x := fun Q q => tep_callTy hc hg hm hv (h _ (k Q q)) hn hdb he hpl
end
theorem bo_all : bootBuiltins "all" = some (.builtin "all") := PyProof.Rows.boot_all
theorem bo_any : bootBuiltins "any" = some (.builtin "any") := PyProof.Rows.boot_any
theorem bo_len : bootBuiltins "len" = some (.builtin "len") := PySem.boot_len
theorem bo_max : bootBuiltins "max" = some (.builtin "max") := PyProof.Rows.boot_max
theorem bo_min : bootBuiltins "min" = some (.builtin "min") := PyProof.Rows.boot_min
theorem bo_sum : bootBuiltins "sum" = some (.builtin "sum") := PyProof.Rows.boot_sum
theorem bo_sorted : bootBuiltins "sorted" = some (.builtin "sorted") := PyProof.Rows.boot_sorted
theorem bo_isinstance : bootBuiltins "isinstance" = some (.builtin "isinstance") := PyProof.Rows.boot_isinstance
theorem bo_repr : bootBuiltins "repr" = some (.builtin "repr") := PyProof.Rows.boot_repr
theorem bo_int : bootBuiltins "int" = some (.type "int") := PyProof.Rows.boot_int
theorem bo_bool : bootBuiltins "bool" = some (.type "bool") := PyProof.Rows.boot_bool
theorem bo_list : bootBuiltins "list" = some (.type "list") := PyProof.Rows.boot_list
theorem bo_tuple : bootBuiltins "tuple" = some (.type "tuple") := PyProof.Rows.boot_tuple
theorem bo_dict : bootBuiltins "dict" = some (.type "dict") := PyProof.Rows.boot_dict
theorem bo_str : bootBuiltins "str" = some (.type "str") := PyProof.Rows.boot_str
theorem rep_ints {K : PySem.W.Frag} {H : Hp} : ∀ {vs : List V} {ns : List Int}, RepL K H vs (ns.map P.int) → vs = ns.map V.int
  | _, [], .nil => rfl
  | _, n :: ns, .cons r t => by rw [Rep.int_inv r, rep_ints t]; rfl
theorem rep_bls {K : PySem.W.Frag} {H : Hp} : ∀ {vs : List V} {ns : List Bool}, RepL K H vs (ns.map P.bl) → vs = ns.map V.bl
  | _, [], .nil => rfl
  | _, n :: ns, .cons r t => by rw [Rep.bl_inv r, rep_bls t]; rfl
theorem vals1 {K : PySem.W.Frag} {ad : List Addr} {H : Hp} {vs : List V} {x : E} (r : RepEs K ad H vs [x]) : ∃ v, vs = [v] ∧ RepE K ad H v x := by
  cases r with
  | cons r t => cases t; exact ⟨_, rfl, r⟩
theorem vals2E {K : PySem.W.Frag} {ad : List Addr} {H : Hp} {vs : List V} {x y : E} (r : RepEs K ad H vs [x, y]) : ∃ v w, vs = [v, w] ∧ RepE K ad H v x ∧ RepE K ad H w y := by
  cases r with
  | cons r t => cases t with
    | cons r2 t => cases t; exact ⟨_, _, rfl, r, r2⟩
section
variable {nm : Str} {ns : List Int} {bs : List Bool}
theorem ev_len (hm : X.mg "len" = none) (h : EV X e ρ μ (.sh (.lst xs))) (hg : Gl X "len" := by rfl) (hs : starEach [e] X.env = (false, eval e X.env) :: starEach [] X.env := by rfl) : EV X (.Call (.Name "len" p2) [e] [] pos) ρ μ (.sh (.int (xs.length : Int))) :=
  ev_callB call_len_seq hg hm bo_len (ea_cons h ea_nil hs) (fun Q q ad Hb H vs W r0 Q' g => by
    obtain ⟨v, rfl, r⟩ := vals1 r0
    obtain ⟨a, ws, rfl, hq, r⟩ := Rep.lst_inv r
    refine ⟨a, ws, rfl, .inl (W.sqL hq), ?_⟩
    rw [r.length]
    exact g.now W (x := .sh (.int _)) (.int _) q) (by decide) (by decide) hs rfl
theorem ev_lenT (hm : X.mg "len" = none) (h : EV X e ρ μ (.sh (.tup xs))) (hg : Gl X "len" := by rfl) (hs : starEach [e] X.env = (false, eval e X.env) :: starEach [] X.env := by rfl) : EV X (.Call (.Name "len" p2) [e] [] pos) ρ μ (.sh (.int (xs.length : Int))) :=
  ev_callB call_len_seq hg hm bo_len (ea_cons h ea_nil hs) (fun Q q ad Hb H vs W r0 Q' g => by
    obtain ⟨v, rfl, r⟩ := vals1 r0
    obtain ⟨a, ws, rfl, hq, r⟩ := Rep.tup_inv r
    refine ⟨a, ws, rfl, .inr (.inl (.inl (W.tup hq))), ?_⟩
    rw [r.length]
    exact g.now W (x := .sh (.int _)) (.int _) q) (by decide) (by decide) hs rfl
theorem ev_lenC {j : Nat} {zs : List E} (hm : X.mg "len" = none) (h : EV X e ρ μ (.pt j)) (hj : μ[j]? = some (some (.lst zs))) (hg : Gl X "len" := by rfl) (hs : starEach [e] X.env = (false, eval e X.env) :: starEach [] X.env := by rfl) : EV X (.Call (.Name "len" p2) [e] [] pos) ρ μ (.sh (.int (zs.length : Int))) :=
  ev_callB call_len_seq hg hm bo_len (ea_cons h ea_nil hs) (fun Q q ad Hb H vs W r0 Q' g => by
    obtain ⟨v, rfl, a, ha, rfl⟩ := vals1 r0
    obtain ⟨_, ws, hv, r⟩ := W.off j a _ ha hj
    refine ⟨a, ws, rfl, .inl (.inl (.inl hv)), ?_⟩
    rw [r.length]
    exact g.now W (x := .sh (.int _)) (.int _) q) (by decide) (by decide) hs rfl
theorem ev_all (hc : X.calm = true) (hm : X.mg "all" = none) (h : EV X e ρ μ (.sh (.lst (bs.map .bl)))) (hg : Gl X "all" := by rfl) (hs : starEach [e] X.env = (false, eval e X.env) :: starEach [] X.env := by rfl) : EV X (.Call (.Name "all" p2) [e] [] pos) ρ μ (.sh (.bl (bs.all id))) :=
  ev_callB (cr_all hc) hg hm bo_all (ea_cons h ea_nil hs) (fun Q q ad Hb H vs W r0 Q' g => by
    obtain ⟨v, rfl, r⟩ := vals1 r0
    obtain ⟨a, ws, rfl, hq, r⟩ := Rep.lst_inv r
    rw [rep_bls r] at hq
    exact ⟨a, bs, rfl, W.sqL hq, g.now W (x := .sh (.bl _)) (.bl _) q⟩) (by decide) (by decide) hs rfl
theorem ev_any (hc : X.calm = true) (hm : X.mg "any" = none) (h : EV X e ρ μ (.sh (.lst (bs.map .bl)))) (hg : Gl X "any" := by rfl) (hs : starEach [e] X.env = (false, eval e X.env) :: starEach [] X.env := by rfl) : EV X (.Call (.Name "any" p2) [e] [] pos) ρ μ (.sh (.bl (bs.any id))) :=
  ev_callB (cr_any hc) hg hm bo_any (ea_cons h ea_nil hs) (fun Q q ad Hb H vs W r0 Q' g => by
    obtain ⟨v, rfl, r⟩ := vals1 r0
    obtain ⟨a, ws, rfl, hq, r⟩ := Rep.lst_inv r
    rw [rep_bls r] at hq
    exact ⟨a, bs, rfl, W.sqL hq, g.now W (x := .sh (.bl _)) (.bl _) q⟩) (by decide) (by decide) hs rfl
theorem ev_sum (hc : X.calm = true) (hm : X.mg "sum" = none) (h : EV X e ρ μ (.sh (.lst (ns.map .int)))) (hg : Gl X "sum" := by rfl) (hs : starEach [e] X.env = (false, eval e X.env) :: starEach [] X.env := by rfl) : EV X (.Call (.Name "sum" p2) [e] [] pos) ρ μ (.sh (.int ns.sum)) :=
  ev_callB (cr_sum hc) hg hm bo_sum (ea_cons h ea_nil hs) (fun Q q ad Hb H vs W r0 Q' g => by
    obtain ⟨v, rfl, r⟩ := vals1 r0
    obtain ⟨a, ws, rfl, hq, r⟩ := Rep.lst_inv r
    rw [rep_ints r] at hq
    exact ⟨a, ns, rfl, W.sqL hq, g.now W (x := .sh (.int _)) (.int _) q⟩) (by decide) (by decide) hs rfl
/-- the greatest, the least of a list of ints -/
def maxL : List Int → Int
  | [] => 0
  | n :: ns => ns.foldl max n
def minL : List Int → Int
  | [] => 0
  | n :: ns => ns.foldl min n
theorem foldl_max_mem : ∀ (ns : List Int) (n : Int), ns.foldl max n = n ∨ ns.foldl max n ∈ ns
  | [], _ => .inl rfl
  | m :: ns, n => by
    rw [List.foldl_cons]
    rcases foldl_max_mem ns (max n m) with h | h
    · rw [h]
      by_cases c : n ≤ m
      · right; rw [Int.max_eq_right c]; exact List.mem_cons_self
      · left; rw [Int.max_eq_left (by omega)]
    · exact .inr (List.mem_cons_of_mem _ h)
theorem foldl_max_le : ∀ (ns : List Int) (n y : Int), (y = n ∨ y ∈ ns) → y ≤ ns.foldl max n
  | [], n, y, h => by
    rcases h with rfl | h
    · exact Int.le_refl _
    · cases h
  | m :: ns, n, y, h => by
    rw [List.foldl_cons]
    rcases h with rfl | h
    · exact Int.le_trans (Int.le_max_left y m) (foldl_max_le ns _ _ (.inl rfl))
    · rcases List.mem_cons.mp h with rfl | h
      · exact Int.le_trans (Int.le_max_right n y) (foldl_max_le ns _ _ (.inl rfl))
      · exact foldl_max_le ns _ _ (.inr h)
theorem maxL_mem {ns : List Int} (h : ns ≠ []) : maxL ns ∈ ns := by
  cases ns with
  | nil => exact absurd rfl h
  | cons n ns =>
    rcases foldl_max_mem ns n with e | e
    · show ns.foldl max n ∈ _
      rw [e]; exact List.mem_cons_self
    · exact List.mem_cons_of_mem _ e
theorem le_maxL {ns : List Int} {y : Int} (h : y ∈ ns) : y ≤ maxL ns := by
  cases ns with
  | nil => cases h
  | cons n ns => exact foldl_max_le ns n y (List.mem_cons.mp h)
theorem maxL_uniq {ns : List Int} {m : Int} (h : m ∈ ns) (k : ∀ y, y ∈ ns → y ≤ m) : m = maxL ns :=
  Int.le_antisymm (le_maxL h) (k _ (maxL_mem (List.ne_nil_of_mem h)))
theorem minL_eq : ∀ ns : List Int, minL ns = -(maxL (ns.map (-·)))
  | [] => rfl
  | n :: ns => by
    show ns.foldl min n = -((ns.map (-·)).foldl max (-n))
    induction ns generalizing n with
    | nil => show n = -(-n); omega
    | cons m ns ih =>
      rw [List.foldl_cons, List.map_cons, List.foldl_cons, ih (min n m)]
      congr 2
      omega
theorem minL_mem {ns : List Int} (h : ns ≠ []) : minL ns ∈ ns := by
  rw [minL_eq]
  have := maxL_mem (ns := ns.map (-·)) (by simpa using h)
  obtain ⟨m, hm, e⟩ := List.mem_map.mp this
  rw [← e]
  simpa using hm
theorem minL_le {ns : List Int} {y : Int} (h : y ∈ ns) : minL ns ≤ y := by
  rw [minL_eq]
  have := le_maxL (ns := ns.map (-·)) (y := -y) (List.mem_map.mpr ⟨y, h, rfl⟩)
  omega
theorem minL_uniq {ns : List Int} {m : Int} (h : m ∈ ns) (k : ∀ y, y ∈ ns → m ≤ y) : m = minL ns :=
  Int.le_antisymm (k _ (minL_mem (List.ne_nil_of_mem h))) (minL_le h)
theorem ev_max (hc : X.calm = true) (hm : X.mg "max" = none) (h : EV X e ρ μ (.sh (.lst (ns.map .int)))) (h0 : ns ≠ []) (hg : Gl X "max" := by rfl) (hs : starEach [e] X.env = (false, eval e X.env) :: starEach [] X.env := by rfl) : EV X (.Call (.Name "max" p2) [e] [] pos) ρ μ (.sh (.int (maxL ns))) :=
  ev_callB (cr_max hc) hg hm bo_max (ea_cons h ea_nil hs) (fun Q q ad Hb H vs W r0 Q' g => by
    obtain ⟨v, rfl, r⟩ := vals1 r0
    obtain ⟨a, ws, rfl, hq, r⟩ := Rep.lst_inv r
    rw [rep_ints r] at hq
    refine ⟨a, ns, rfl, W.sqL hq, List.length_pos_iff.mpr h0, fun m h1 h2 => ?_⟩
    rw [maxL_uniq h1 h2]
    exact g.now W (x := .sh (.int _)) (.int _) q) (by decide) (by decide) hs rfl
theorem ev_min (hc : X.calm = true) (hm : X.mg "min" = none) (h : EV X e ρ μ (.sh (.lst (ns.map .int)))) (h0 : ns ≠ []) (hg : Gl X "min" := by rfl) (hs : starEach [e] X.env = (false, eval e X.env) :: starEach [] X.env := by rfl) : EV X (.Call (.Name "min" p2) [e] [] pos) ρ μ (.sh (.int (minL ns))) :=
  ev_callB (cr_min hc) hg hm bo_min (ea_cons h ea_nil hs) (fun Q q ad Hb H vs W r0 Q' g => by
    obtain ⟨v, rfl, r⟩ := vals1 r0
    obtain ⟨a, ws, rfl, hq, r⟩ := Rep.lst_inv r
    rw [rep_ints r] at hq
    refine ⟨a, ns, rfl, W.sqL hq, List.length_pos_iff.mpr h0, fun m h1 h2 => ?_⟩
    rw [minL_uniq h1 h2]
    exact g.now W (x := .sh (.int _)) (.int _) q) (by decide) (by decide) hs rfl
theorem ev_max2 {i j : Int} (hc : X.calm = true) (hm : X.mg "max" = none) (h1 : EV X a ρ μ (.sh (.int i))) (h2 : EV X b ρ μ (.sh (.int j))) (hg : Gl X "max" := by rfl) (hs : starEach [a, b] X.env = (false, eval a X.env) :: starEach [b] X.env := by rfl) (hs2 : starEach [b] X.env = (false, eval b X.env) :: starEach [] X.env := by rfl) : EV X (.Call (.Name "max" p2) [a, b] [] pos) ρ μ (.sh (.int (max i j))) :=
  ev_callB (call_max2 hc) hg hm bo_max (ea_cons h1 (ea_cons h2 ea_nil hs2) hs) (fun Q q ad Hb H vs W r0 Q' g => by
    obtain ⟨v, w, rfl, r1, r2⟩ := vals2E r0
    obtain rfl := Rep.int_inv r1
    obtain rfl := Rep.int_inv r2
    refine ⟨i, j, rfl, ?_⟩
    rw [show (if j > i then j else i) = max i j by split <;> omega]
    exact g.now W (x := .sh (.int _)) (.int _) q) (by decide) (by decide) hs (by rw [hs2]; rfl)
theorem ev_min2 {i j : Int} (hc : X.calm = true) (hm : X.mg "min" = none) (h1 : EV X a ρ μ (.sh (.int i))) (h2 : EV X b ρ μ (.sh (.int j))) (hg : Gl X "min" := by rfl) (hs : starEach [a, b] X.env = (false, eval a X.env) :: starEach [b] X.env := by rfl) (hs2 : starEach [b] X.env = (false, eval b X.env) :: starEach [] X.env := by rfl) : EV X (.Call (.Name "min" p2) [a, b] [] pos) ρ μ (.sh (.int (min i j))) :=
  ev_callB (call_min2 hc) hg hm bo_min (ea_cons h1 (ea_cons h2 ea_nil hs2) hs) (fun Q q ad Hb H vs W r0 Q' g => by
    obtain ⟨v, w, rfl, r1, r2⟩ := vals2E r0
    obtain rfl := Rep.int_inv r1
    obtain rfl := Rep.int_inv r2
    refine ⟨i, j, rfl, ?_⟩
    rw [show (if j < i then j else i) = min i j by split <;> omega]
    exact g.now W (x := .sh (.int _)) (.int _) q) (by decide) (by decide) hs (by rw [hs2]; rfl)
theorem ev_intI {i : Int} (hm : X.mg "int" = none) (h : EV X e ρ μ (.sh (.int i))) (hg : Gl X "int" := by rfl) (hs : starEach [e] X.env = (false, eval e X.env) :: starEach [] X.env := by rfl) : EV X (.Call (.Name "int" p2) [e] [] pos) ρ μ (.sh (.int i)) :=
  ev_callTy call_int1 hg hm bo_int (ea_cons h ea_nil hs) (fun Q q ad Hb H vs W r0 Q' g => by
    obtain ⟨v, rfl, r⟩ := vals1 r0
    obtain rfl := Rep.int_inv r
    exact .inl ⟨i, rfl, g.now W (x := .sh (.int _)) (.int _) q⟩) (by decide) (by decide) hs rfl
theorem ev_intB {k : Bool} (hm : X.mg "int" = none) (h : EV X e ρ μ (.sh (.bl k))) (hg : Gl X "int" := by rfl) (hs : starEach [e] X.env = (false, eval e X.env) :: starEach [] X.env := by rfl) : EV X (.Call (.Name "int" p2) [e] [] pos) ρ μ (.sh (.int (if k then 1 else 0))) :=
  ev_callTy call_int1 hg hm bo_int (ea_cons h ea_nil hs) (fun Q q ad Hb H vs W r0 Q' g => by
    obtain ⟨v, rfl, r⟩ := vals1 r0
    obtain rfl := Rep.bl_inv r
    exact .inr ⟨k, rfl, g.now W (x := .sh (.int _)) (.int _) q⟩) (by decide) (by decide) hs rfl
/-- list(xs), tuple(xs) of a list, of a tuple -/
theorem tep_listC (hm : X.mg "list" = none) (h : TEP X e ρ μ fun z μ1 => ∃ xs : List P, (z = .sh (.lst xs) ∨ z = .sh (.tup xs)) ∧ Q (.pt μ1.length) (μ1 ++ [some (.lst (xs.map .sh))])) (hg : Gl X "list" := by rfl) (hs : starEach [e] X.env = (false, eval e X.env) :: starEach [] X.env := by rfl) : TEP X (.Call (.Name "list" p2) [e] [] pos) ρ μ Q :=
  tep_callTy call_list_of hg hm bo_list (tap_cons (fun ad Hb H σ W N Q' g => h ad Hb H σ W N Q' fun v x μ1 ad1 Hb1 H1 q s W1 r => g v x μ1 ad1 Hb1 H1 (tap_nil (fun ad Hb H vs W r0 Q' g => by
    obtain ⟨v, rfl, r⟩ := vals1 r0
    obtain ⟨xs, e, q⟩ := q
    have fin : ∀ (ws : List V), RepL X.K Hb ws xs → ∀ l, H l = none → Q' (.ref l) (upd H l (.lst ws)) := fun ws rw_ l hl => by
      obtain ⟨W2, s2⟩ := W.cell (o := .lst ws) (c := .lst (xs.map .sh)) hl ⟨ws, upd_same, repEs_of rw_⟩
      exact g _ (.pt μ1.length) _ _ _ _ q s2 W2 ⟨l, by rw [← W.len]; simp, rfl⟩
    rcases e with rfl | rfl
    · obtain ⟨a, ws, rfl, hq, r⟩ := Rep.lst_inv r
      exact ⟨a, ws, rfl, .inl (W.sqL hq), fin ws r⟩
    · obtain ⟨a, ws, rfl, hq, r⟩ := Rep.tup_inv r
      exact ⟨a, ws, rfl, .inr (.inl (.inl (W.tup hq))), fin ws r⟩)) s W1 r) hs) (by decide) (by decide) hs rfl
theorem ev_list {x : P} (hm : X.mg "list" = none) (h : EV X e ρ μ (.sh x)) (hx : x = .lst xs ∨ x = .tup xs) (hg : Gl X "list" := by rfl) (hs : starEach [e] X.env = (false, eval e X.env) :: starEach [] X.env := by rfl) : EV X (.Call (.Name "list" p2) [e] [] pos) ρ μ (.sh (.lst xs)) :=
  ev_callTy call_list_of hg hm bo_list (ea_cons h ea_nil hs) (fun Q q ad Hb H vs W r0 Q' g => by
    obtain ⟨v, rfl, r⟩ := vals1 r0
    have fin : ∀ (ws : List V), RepL X.K Hb ws xs → ∀ l, H l = none → Q' (.ref l) (upd H l (.lst ws)) := fun ws rw_ l hl => by
      obtain ⟨W2, s2⟩ := W.alloc (o := .lst ws) hl
      exact g _ (.sh (.lst xs)) _ _ _ _ q s2 W2 (Rep.lstL upd_same (RepL.mono s2.ex rw_))
    rcases hx with rfl | rfl
    · obtain ⟨a, ws, rfl, hq, r⟩ := Rep.lst_inv r
      exact ⟨a, ws, rfl, .inl (W.sqL hq), fin ws r⟩
    · obtain ⟨a, ws, rfl, hq, r⟩ := Rep.tup_inv r
      exact ⟨a, ws, rfl, .inr (.inl (.inl (W.tup hq))), fin ws r⟩) (by decide) (by decide) hs rfl
theorem ev_tuple {x : P} (hm : X.mg "tuple" = none) (h : EV X e ρ μ (.sh x)) (hx : x = .lst xs ∨ x = .tup xs) (hg : Gl X "tuple" := by rfl) (hs : starEach [e] X.env = (false, eval e X.env) :: starEach [] X.env := by rfl) : EV X (.Call (.Name "tuple" p2) [e] [] pos) ρ μ (.sh (.tup xs)) :=
  ev_callTy call_tuple_of hg hm bo_tuple (ea_cons h ea_nil hs) (fun Q q ad Hb H vs W r0 Q' g => by
    obtain ⟨v, rfl, r⟩ := vals1 r0
    rcases hx with rfl | rfl
    · obtain ⟨a, ws, rfl, hq, r⟩ := Rep.lst_inv r
      refine ⟨a, ws, rfl, .inl ⟨W.sqL hq, fun l hl => ?_⟩⟩
      obtain ⟨W2, s2⟩ := W.alloc (o := .tup ws) hl
      exact g _ (.sh (.tup xs)) _ _ _ _ q s2 W2 (Rep.tupL upd_same (RepL.mono s2.ex r))
    · obtain ⟨a, ws, rfl, hq, r2⟩ := Rep.tup_inv r
      exact ⟨a, ws, rfl, .inr ⟨.inl (.inl (W.tup hq)), g.now W (x := .sh (.tup xs)) r q⟩⟩) (by decide) (by decide) hs rfl
end
end
end PV

/-! What a for walks, targets, comprehensions. -/
namespace PV
open PySem PySem.Spec PyProof.Rows L2

def TIV (X : Cx) (tg iter : Expr) : TI := fun σ H R => ∀ pins s, Inv X pins σ H s → wpAny (model X.prog X.w) X.A (eval iter X.env) (fun v s1 => wpAny (model X.prog X.w) X.A (pyIter v) (PIE X pins σ tg R) X.xe s1) X.xe s
theorem pi_self {X : Cx} {tg iter : Expr} : PI X tg iter (TIV X tg iter) := ⟨fun pins s _ _ _ I h => h pins s I⟩
theorem pi_go {X : Cx} {tg iter : Expr} {t : TI} (h : PI X tg iter t) {σ : L2.St} {H : Hp} {R : It → Hp → Prop} (q : t σ H R) : TIV X tg iter σ H R := fun pins s I => h.run pins s σ H R I q

/-- J walks the items, from the world (ad, Hb, H) on, as long as G holds of the cells -/
structure PWalk (K : PySem.W.Frag) (J : It) (ad : List Addr) (Hb H : Hp) (items : List E) (G : Mu → Prop) : Prop where
  goes : ∀ (i : Nat) (ad2 : List Addr) (Hb2 H2 : Hp) (μ2 : Mu), i < items.length → Step ad Hb H ad2 Hb2 H2 → Wd K ad2 Hb2 H2 μ2 → G μ2 → J.go i H2
  stops : ∀ (ad2 : List Addr) (Hb2 H2 : Hp) (μ2 : Mu), Step ad Hb H ad2 Hb2 H2 → Wd K ad2 Hb2 H2 μ2 → G μ2 → J.stop items.length H2
  yields : ∀ (i : Nat) (ad2 : List Addr) (Hb2 H2 : Hp) (μ2 : Mu) (x : V) (H3 : Hp), i < items.length → Step ad Hb H ad2 Hb2 H2 → Wd K ad2 Hb2 H2 μ2 → G μ2 → J.yld i H2 x H3 →
    ∃ Hb3 e, Step ad2 Hb2 H2 ad2 Hb3 H3 ∧ Wd K ad2 Hb3 H3 μ2 ∧ items[i]? = some e ∧ RepE K ad2 Hb3 x e
def TIP (X : Cx) (tg iter : Expr) (ρ : Rho) (μ : Mu) (R : List E → (Mu → Prop) → Mu → Prop) : Prop :=
  ∀ (ad : List Addr) (Hb H : Hp) (σ : L2.St), Wd X.K ad Hb H μ → Env X.K ad Hb σ ρ → ∀ R' : It → Hp → Prop,
    (∀ (J : It) (items : List E) (G : Mu → Prop) (μ' : Mu) (ad' : List Addr) (Hb' H' : Hp), R items G μ' → Step ad Hb H ad' Hb' H' → Wd X.K ad' Hb' H' μ' → PWalk X.K J ad' Hb' H' items G → R' J H') → TIV X tg iter σ H R'
def EI (X : Cx) (tg iter : Expr) (ρ : Rho) (μ : Mu) (items : List E) : Prop := ∀ R : List E → (Mu → Prop) → Mu → Prop, R items (fun _ => True) μ → TIP X tg iter ρ μ R
/-- a walk that yields what stands side by side with the items, the heap as it was -/
theorem pwalk_at {K : PySem.W.Frag} {J : It} {ad : List Addr} {Hb H : Hp} {items : List E} {vs : List V} {Gh : Hp → Prop} (w : Walk J items.length Gh (YAt vs)) (r : RepEs K ad Hb vs items)
    (hG : ∀ (ad2 : List Addr) (Hb2 H2 : Hp) (μ2 : Mu), Step ad Hb H ad2 Hb2 H2 → Wd K ad2 Hb2 H2 μ2 → Gh H2) : PWalk K J ad Hb H items (fun _ => True) where
  goes := fun i ad2 Hb2 H2 μ2 hi s W _ => w.goes i H2 hi (hG ad2 Hb2 H2 μ2 s W)
  stops := fun ad2 Hb2 H2 μ2 s W _ => w.stops H2 (hG ad2 Hb2 H2 μ2 s W)
  yields := fun i ad2 Hb2 H2 μ2 x H3 hi s W _ y => by
    obtain ⟨rfl, e⟩ := w.yields i H2 x H3 hi (hG ad2 Hb2 H2 μ2 s W) y
    obtain ⟨z, h1, h2⟩ := pd_right r i x e
    exact ⟨Hb2, z, Step.refl _ _ _, W, h1, RepE.step s h2⟩
section
variable {X : Cx} {tg a b c e iter : Expr} {es : List Expr} {ρ : Rho} {μ : Mu} {pos tpos p2 : Pos} {xs ys : List P}
theorem ei_list (h : EV X e ρ μ (.sh (.lst xs))) : EI X tg e ρ μ (xs.map .sh) := fun R q ad Hb H σ W N R' g => by
  refine pi_go (pi_list pe_self) (h (fun y μ1 => y = .sh (.lst xs) ∧ μ1 = μ) ⟨rfl, rfl⟩ ad Hb H σ W N _ ?_)
  rintro v x μ1 ad1 Hb1 H1 ⟨rfl, rfl⟩ s1 W1 r1
  obtain ⟨a, vs, rfl, hq, r⟩ := Rep.lst_inv r1
  refine ⟨a, rfl, ⟨vs, W1.sqL hq⟩, g _ (xs.map .sh) _ _ _ _ _ q s1 W1 (pwalk_at (Gh := fun H => SqL X.K H a vs) ?_ (repEs_of r) fun ad2 Hb2 H2 μ2 s W => W.sqL (s.ex.sqL hq))⟩
  have w := walk_list (K := X.K) (a := a) (xs := vs)
  rw [r.length] at w
  rw [List.length_map]
  exact w
theorem ei_scr (h : EV X e ρ μ (.sh (.scr xs))) : EI X tg e ρ μ (xs.map .sh) := fun R q ad Hb H σ W N R' g => by
  refine pi_go (pi_list pe_self) (h (fun y μ1 => y = .sh (.scr xs) ∧ μ1 = μ) ⟨rfl, rfl⟩ ad Hb H σ W N _ ?_)
  rintro v x μ1 ad1 Hb1 H1 ⟨rfl, rfl⟩ s1 W1 r1
  obtain ⟨a, vs, rfl, hq, r⟩ := Rep.scr_inv r1
  refine ⟨a, rfl, ⟨vs, W1.sqL hq⟩, g _ (xs.map .sh) _ _ _ _ _ q s1 W1 (pwalk_at (Gh := fun H => SqL X.K H a vs) ?_ (repEs_of r) fun ad2 Hb2 H2 μ2 s W => W.sqL (s.ex.sqL hq))⟩
  have w := walk_list (K := X.K) (a := a) (xs := vs)
  rw [r.length] at w
  rw [List.length_map]
  exact w
theorem ei_tup (h : EV X e ρ μ (.sh (.tup xs))) : EI X tg e ρ μ (xs.map .sh) := fun R q ad Hb H σ W N R' g => by
  refine pi_go (pi_tup pe_self) (h (fun y μ1 => y = .sh (.tup xs) ∧ μ1 = μ) ⟨rfl, rfl⟩ ad Hb H σ W N _ ?_)
  rintro v x μ1 ad1 Hb1 H1 ⟨rfl, rfl⟩ s1 W1 r1
  obtain ⟨a, vs, rfl, hq, r⟩ := Rep.tup_inv r1
  refine ⟨a, rfl, ⟨vs, .inl (.inl (W1.tup hq))⟩, g _ (xs.map .sh) _ _ _ _ _ q s1 W1 (pwalk_at (Gh := fun H => SqT X.K H a vs) ?_ (repEs_of r) fun ad2 Hb2 H2 μ2 s W => .inl (.inl (W.tup (s.ex _ _ hq))))⟩
  have w := walk_tup (K := X.K) (a := a) (xs := vs)
  rw [r.length] at w
  rw [List.length_map]
  exact w
/-- over a list that may change, not while it is walked -/
theorem tip_cell {j : Nat} {zs : List E} {R : List E → (Mu → Prop) → Mu → Prop} (h : EV X e ρ μ (.pt j)) (hj : μ[j]? = some (some (.lst zs))) (q : R zs (fun μ2 => μ2[j]? = some (some (.lst zs))) μ) : TIP X tg e ρ μ R := fun ad Hb H σ W N R' g => by
  refine pi_go (pi_list pe_self) (h (fun y μ1 => y = .pt j ∧ μ1 = μ) ⟨rfl, rfl⟩ ad Hb H σ W N _ ?_)
  rintro v x μ1 ad1 Hb1 H1 ⟨rfl, rfl⟩ s1 W1 ⟨a, ha, rfl⟩
  obtain ⟨_, vs, hv, r⟩ := W1.off j a _ ha hj
  refine ⟨a, rfl, ⟨vs, .inl (.inl hv)⟩, g _ zs (fun μ2 => μ2[j]? = some (some (.lst zs))) _ _ _ _ q s1 W1 ⟨?_, ?_, ?_⟩⟩
  · intro i ad2 Hb2 H2 μ2 hi s W G
    obtain ⟨_, ws, hw, r2⟩ := W.off j a _ (s.at_ ha) G
    have hl := r2.length
    exact ⟨ws, ws[i]'(by omega), .inl (.inl hw), by rw [List.getElem?_eq_getElem (by omega)]⟩
  · intro ad2 Hb2 H2 μ2 s W G
    obtain ⟨_, ws, hw, r2⟩ := W.off j a _ (s.at_ ha) G
    exact ⟨ws, .inl (.inl hw), by rw [r2.length]; exact Nat.le_refl _⟩
  · intro i ad2 Hb2 H2 μ2 x H3 hi s W G y
    obtain ⟨_, ws, hw, r2⟩ := W.off j a _ (s.at_ ha) G
    obtain ⟨rfl, y⟩ := y
    obtain ⟨z, h1, h2⟩ := pd_right r2 i x (y ws (.inl (.inl hw)))
    exact ⟨Hb2, z, Step.refl _ _ _, W, h1, h2⟩
theorem pwalk_fn {K : PySem.W.Frag} {J : It} {ad : List Addr} {Hb H : Hp} {n : Nat} {f : Nat → V} {f' : Nat → P} (w : Walk J n (fun _ => True) (YFn f)) (r : ∀ i H, Rep K H (f i) (f' i)) : PWalk K J ad Hb H ((List.range n).map fun i => .sh (f' i)) (fun _ => True) where
  goes := fun i ad2 Hb2 H2 μ2 hi s W _ => w.goes i H2 (by simpa using hi) trivial
  stops := fun ad2 Hb2 H2 μ2 s W _ => by
    have := w.stops H2 trivial
    simpa using this
  yields := fun i ad2 Hb2 H2 μ2 x H3 hi s W _ y => by
    have hi2 : i < n := by simpa using hi
    obtain ⟨rfl, rfl⟩ := w.yields i H2 x H3 hi2 trivial y
    exact ⟨Hb2, .sh (f' i), Step.refl _ _ _, W, by simp [hi2], r i _⟩
theorem ei_range1 {n : Int} (hm : X.mg "range" = none) (h : EV X e ρ μ (.sh (.int n))) (hb : -(2 ^ 62) ≤ n ∧ n < 2 ^ 62) (hg : Gl X "range" := by rfl) (hs : starEach [e] X.env = [(false, eval e X.env)] := by rfl) : EI X tg (.Call (.Name "range" p2) [e] [] pos) ρ μ ((List.range n.toNat).map fun i => .sh (.int (i : Nat))) := fun R q ad Hb H σ W N R' g => by
  refine pi_go (pi_range1 hg hm pa_self hs) ((ea_cons h ea_nil hs) (fun ys μ1 => ys = [.sh (.int n)] ∧ μ1 = μ) ⟨rfl, rfl⟩ ad Hb H σ W N _ ?_)
  rintro vs ys μ1 ad1 Hb1 H1 ⟨rfl, rfl⟩ s1 W1 r1
  obtain ⟨v, rfl, r⟩ := vals1 r1
  obtain rfl := Rep.int_inv r
  refine ⟨n, rfl, hb.1, hb.2, g _ _ _ _ _ _ _ q s1 W1 (pwalk_fn walk_range fun i H => ?_)⟩
  rw [Int.zero_add]
  exact .int _
theorem ei_range2 {i j : Int} (hm : X.mg "range" = none) (ha : EV X a ρ μ (.sh (.int i))) (hb : EV X b ρ μ (.sh (.int j))) (hc : -(2 ^ 62) ≤ i ∧ i < 2 ^ 62 ∧ -(2 ^ 62) ≤ j ∧ j < 2 ^ 62) (hg : Gl X "range" := by rfl) (hs : starEach [a, b] X.env = [(false, eval a X.env), (false, eval b X.env)] := by rfl) (hs2 : starEach [b] X.env = [(false, eval b X.env)] := by rfl) :
    EI X tg (.Call (.Name "range" p2) [a, b] [] pos) ρ μ ((List.range (j - i).toNat).map fun k => .sh (.int (i + (k : Nat)))) := fun R q ad Hb H σ W N R' g => by
  refine pi_go (pi_range2 hg hm pa_self hs hs2) ((ea_cons ha (ea_cons hb ea_nil hs2) (by rw [hs, hs2])) (fun ys μ1 => ys = [.sh (.int i), .sh (.int j)] ∧ μ1 = μ) ⟨rfl, rfl⟩ ad Hb H σ W N _ ?_)
  rintro vs ys μ1 ad1 Hb1 H1 ⟨rfl, rfl⟩ s1 W1 r0
  obtain ⟨v, w, rfl, r1, r2⟩ := vals2E r0
  obtain rfl := Rep.int_inv r1
  obtain rfl := Rep.int_inv r2
  exact ⟨i, j, rfl, hc, g _ _ _ _ _ _ _ q s1 W1 (pwalk_fn walk_range fun k H => .int _)⟩
theorem vals3E {K : PySem.W.Frag} {ad : List Addr} {H : Hp} {vs : List V} {x y z : E} (r : RepEs K ad H vs [x, y, z]) : ∃ u v w, vs = [u, v, w] ∧ RepE K ad H u x ∧ RepE K ad H v y ∧ RepE K ad H w z := by
  cases r with
  | cons r t => cases t with
    | cons r2 t => cases t with
      | cons r3 t => cases t; exact ⟨_, _, _, rfl, r, r2, r3⟩
theorem pwalk_pair {K : PySem.W.Frag} {J : It} {ad : List Addr} {Hb H : Hp} {n : Nat} {f g : Nat → Option V} {f' g' : Nat → P} {Gh : Hp → Prop} (w : Walk J n Gh (YPair f g))
    (hG : ∀ (ad2 : List Addr) (Hb2 H2 : Hp) (μ2 : Mu), Step ad Hb H ad2 Hb2 H2 → Wd K ad2 Hb2 H2 μ2 → Gh H2) (rf : ∀ i v, i < n → f i = some v → Rep K Hb v (f' i)) (rg : ∀ i v, i < n → g i = some v → Rep K Hb v (g' i)) :
    PWalk K J ad Hb H ((List.range n).map fun i => .sh (.tup [f' i, g' i])) (fun _ => True) where
  goes := fun i ad2 Hb2 H2 μ2 hi s W _ => w.goes i H2 (by simpa using hi) (hG ad2 Hb2 H2 μ2 s W)
  stops := fun ad2 Hb2 H2 μ2 s W _ => by
    have := w.stops H2 (hG ad2 Hb2 H2 μ2 s W)
    simpa using this
  yields := fun i ad2 Hb2 H2 μ2 x H3 hi s W _ y => by
    have hi2 : i < n := by simpa using hi
    obtain ⟨T, u, v, rfl, hT, rfl, h1, h2⟩ := w.yields i H2 x H3 hi2 (hG ad2 Hb2 H2 μ2 s W) y
    obtain ⟨W2, s2⟩ := W.alloc (o := .tup [u, v]) hT
    exact ⟨_, .sh (.tup [f' i, g' i]), s2, W2, by simp [hi2], Rep.tupL upd_same (.cons (Rep.mono (s.ex.trans s2.ex) (rf i u hi2 h1)) (.cons (Rep.mono (s.ex.trans s2.ex) (rg i v hi2 h2)) .nil))⟩
theorem ei_enum {elts : List Expr} {kk : Nat} (hm : X.mg "enumerate" = none) (h : EV X e ρ μ (.sh (.lst xs))) (hg : Gl X "enumerate" := by rfl) (hs : starEach [e] X.env = [(false, eval e X.env)] := by rfl) :
    EI X (.Tuple elts kk tpos) (.Call (.Name "enumerate" p2) [e] [] pos) ρ μ ((List.range xs.length).map fun i => .sh (.tup [.int (i : Nat), xs.getD i .non])) := fun R q ad Hb H σ W N R' g => by
  refine pi_go (pi_enum hg hm pa_self hs) ((ea_cons h ea_nil hs) (fun ys μ1 => ys = [.sh (.lst xs)] ∧ μ1 = μ) ⟨rfl, rfl⟩ ad Hb H σ W N _ ?_)
  rintro vs ys μ1 ad1 Hb1 H1 ⟨rfl, rfl⟩ s1 W1 r1
  obtain ⟨v, rfl, r⟩ := vals1 r1
  obtain ⟨a, vs, rfl, hq, r⟩ := Rep.lst_inv r
  have w := walk_enum (K := X.K) (a := a) (xs := vs)
  refine ⟨a, vs, rfl, W1.sqL hq, g _ _ _ _ _ _ _ q s1 W1 (pwalk_pair (K := X.K) (f' := fun i => .int (i : Nat)) (g' := fun i => xs.getD i .non) (by rw [r.length] at w; exact w) (fun ad2 Hb2 H2 μ2 s W => W.sqL (s.ex.sqL hq)) (fun i v _ h => by cases h; exact .int _) fun i v hi h => ?_)⟩
  obtain ⟨z, h1, h2⟩ := pd_right r i v h
  rw [List.getD_eq_getElem?_getD, h1]
  exact h2
theorem ei_zip {elts : List Expr} {kk : Nat} (hm : X.mg "zip" = none) (ha : EV X a ρ μ (.sh (.lst xs))) (hb : EV X b ρ μ (.sh (.lst ys))) (hg : Gl X "zip" := by rfl) (hs : starEach [a, b] X.env = (false, eval a X.env) :: starEach [b] X.env := by rfl) (hs2 : starEach [b] X.env = (false, eval b X.env) :: starEach [] X.env := by rfl) :
    EI X (.Tuple elts kk tpos) (.Call (.Name "zip" p2) [a, b] [] pos) ρ μ ((List.range (min xs.length ys.length)).map fun i => .sh (.tup [xs.getD i .non, ys.getD i .non])) := fun R q ad Hb H σ W N R' g => by
  refine pi_go (pi_zip hg hm pa_self hs (by rw [hs2]; rfl)) ((ea_cons ha (ea_cons hb ea_nil hs2) hs) (fun zs μ1 => zs = [.sh (.lst xs), .sh (.lst ys)] ∧ μ1 = μ) ⟨rfl, rfl⟩ ad Hb H σ W N _ ?_)
  rintro vs zs μ1 ad1 Hb1 H1 ⟨rfl, rfl⟩ s1 W1 r0
  obtain ⟨v, w, rfl, r1, r2⟩ := vals2E r0
  obtain ⟨a, vs, rfl, hq, t1⟩ := Rep.lst_inv r1
  obtain ⟨b, ws, rfl, hq2, t2⟩ := Rep.lst_inv r2
  have w := walk_zip (K := X.K) (a := a) (b := b) (xs := vs) (ys := ws) (n := min xs.length ys.length) (by rw [t1.length, t2.length])
  refine ⟨a, b, vs, ws, rfl, W1.sqL hq, W1.sqL hq2, g _ _ _ _ _ _ _ q s1 W1 (pwalk_pair (K := X.K) (f' := fun i => xs.getD i .non) (g' := fun i => ys.getD i .non) w (fun ad2 Hb2 H2 μ2 s W => ⟨W.sqL (s.ex.sqL hq), W.sqL (s.ex.sqL hq2)⟩) (fun i v hi h => ?_) fun i v hi h => ?_)⟩
  · obtain ⟨z, h1, h2⟩ := pd_right t1 i v h
    rw [List.getD_eq_getElem?_getD, h1]
    exact h2
  · obtain ⟨z, h1, h2⟩ := pd_right t2 i v h
    rw [List.getD_eq_getElem?_getD, h1]
    exact h2

/-! ### targets -/
def TGV (X : Cx) (tg : Expr) : TG := fun v σ H Q => ∀ pins s u, Inv X pins σ H s → RelV v u → wpAny (model X.prog X.w) X.A (assign tg X.env u) (fun _ s' => ∃ σ' H', Inv X pins σ' H' s' ∧ Q σ' H') X.xe s
theorem pg_self : PG X tg (TGV X tg) := ⟨fun pins s _ _ _ u _ I r h => h pins s u I r⟩
theorem pg_go {t : TG} (h : PG X tg t) {v : V} {σ : L2.St} {H : Hp} {Q : L2.St → Hp → Prop} (q : t v σ H Q) : TGV X tg v σ H Q := fun pins s u I r => h.run pins s σ H v u Q I r q
/-- the slots but those of js are as they were -/
def But (js : List Nat) (σ σ' : L2.St) : Prop := σ'.length = σ.length ∧ ∀ i, i ∉ js → σ'[i]? = σ[i]?
theorem But.refl (js : List Nat) (σ : L2.St) : But js σ σ := ⟨rfl, fun _ _ => rfl⟩
theorem But.set {js : List Nat} {σ σ' : L2.St} (h : But js σ σ') {i : Nat} (hi : i ∈ js) (v : Option V) : But js σ (σ'.set i v) := ⟨by rw [List.length_set]; exact h.1, fun k hk => by
  rw [List.getElem?_set_ne (fun z : i = k => hk (by rw [← z]; exact hi))]
  exact h.2 k hk⟩
theorem wipe_get {σ σ' : L2.St} : ∀ (vs : List Nat), σ'.length = σ.length → (∀ i, i ∉ vs → σ'[i]? = σ[i]?) → wipe σ' vs = wipe σ vs := by
  intro vs hl h
  refine List.ext_getElem? fun i => ?_
  by_cases hi : i ∈ vs
  · have key : ∀ (vs : List Nat) (τ : L2.St), i ∈ vs → (wipe τ vs)[i]? = if i < τ.length then some none else none := by
      intro vs
      induction vs with
      | nil => intro τ h; cases h
      | cons v vs ih =>
        intro τ h
        unfold wipe
        by_cases e : v = i
        · subst e
          by_cases hv : v < τ.length
          · rw [List.getElem?_set_self (by rw [wipe_length]; exact hv), if_pos hv]
          · rw [List.getElem?_eq_none (by rw [List.length_set, wipe_length]; omega), if_neg hv]
        · rw [List.getElem?_set_ne e]
          exact ih τ ((List.mem_cons.mp h).resolve_left (fun z => e z.symm))
    rw [key vs σ' hi, key vs σ hi, hl]
  · rw [wipe_out hi, wipe_out hi, h i hi]
def TGP (X : Cx) (tg : Expr) (js : List Nat) (x : E) (ρ : Rho) (μ : Mu) (R : Rho → Mu → Prop) : Prop :=
  ∀ (ad : List Addr) (Hb H : Hp) (σ : L2.St) (v : V), Wd X.K ad Hb H μ → Env X.K ad Hb σ ρ → RepE X.K ad Hb v x → ∀ Q' : L2.St → Hp → Prop,
    (∀ (ρ' : Rho) (μ' : Mu) (ad' : List Addr) (Hb' H' : Hp) (σ' : L2.St), R ρ' μ' → Step ad Hb H ad' Hb' H' → Wd X.K ad' Hb' H' μ' → Env X.K ad' Hb' σ' ρ' → But js σ σ' → Q' σ' H') → TGV X tg v σ H Q'
theorem tgp_name (i : Nat) {js : List Nat} {n : Str} {x : E} {R : Rho → Mu → Prop} (q : R (ρ.set i (some x)) μ) (hj : i ∈ js) (hN : X.N.Nodup) (hi : X.N[i]? = some n) (hx : Loc X.env.scope n) (hf : X.fn n = true ∨ X.env.scope.names.lookup n = some .local) : TGP X (.Name n pos) js x ρ μ R := fun ad Hb H σ v W N r Q' g =>
  pg_go (pg_name hN hi hx hf) (g _ _ _ _ _ _ q (Step.refl _ _ _) W (N.set i r) ((But.refl js σ).set hj _))
def TGsV (X : Cx) (ts : List Expr) : TGs := fun vs σ H Q => ∀ pins s us, Inv X pins σ H s → Vals vs us → wpAny (model X.prog X.w) X.A (assignInOrder ((assignEach ts X.env).map (·.2)) us) (fun _ s' => ∃ σ' H', Inv X pins σ' H' s' ∧ Q σ' H') X.xe s
theorem pgs_self {ts : List Expr} : PGs X ts (TGsV X ts) := ⟨fun pins s _ _ _ us _ I r h => h pins s us I r⟩
theorem pgs_go {ts : List Expr} {t : TGs} (h : PGs X ts t) {vs : List V} {σ : L2.St} {H : Hp} {Q : L2.St → Hp → Prop} (q : t vs σ H Q) : TGsV X ts vs σ H Q := fun pins s us I r => h.run pins s σ H vs us Q I r q
def TGsP (X : Cx) (ts : List Expr) (js : List Nat) (xs : List E) (ρ : Rho) (μ : Mu) (R : Rho → Mu → Prop) : Prop :=
  ∀ (ad : List Addr) (Hb H : Hp) (σ : L2.St) (vs : List V), Wd X.K ad Hb H μ → Env X.K ad Hb σ ρ → RepEs X.K ad Hb vs xs → ∀ Q' : L2.St → Hp → Prop,
    (∀ (ρ' : Rho) (μ' : Mu) (ad' : List Addr) (Hb' H' : Hp) (σ' : L2.St), R ρ' μ' → Step ad Hb H ad' Hb' H' → Wd X.K ad' Hb' H' μ' → Env X.K ad' Hb' σ' ρ' → But js σ σ' → Q' σ' H') → TGsV X ts vs σ H Q'
theorem tgs_nil {js : List Nat} {R : Rho → Mu → Prop} (q : R ρ μ) : TGsP X [] js [] ρ μ R := fun ad Hb H σ vs W N r Q' g => by
  cases r
  exact pgs_go pgs_nil ⟨rfl, g _ _ _ _ _ _ q (Step.refl _ _ _) W N (But.refl _ _)⟩
theorem tgs_cons {js : List Nat} {x : E} {zs : List E} {R : Rho → Mu → Prop} (h : TGP X e js x ρ μ fun ρ1 μ1 => TGsP X es js zs ρ1 μ1 R) (hs : (assignEach (e :: es) X.env).map (·.2) = assign e X.env :: (assignEach es X.env).map (·.2) := by rfl) : TGsP X (e :: es) js (x :: zs) ρ μ R := fun ad Hb H σ vs W N r Q' g => by
  cases r with
  | cons r t =>
    refine pgs_go (pgs_cons pg_self pgs_self hs) ⟨_, _, rfl, h ad Hb H σ _ W N r _ fun ρ1 μ1 ad1 Hb1 H1 σ1 q1 s1 W1 N1 b1 => ?_⟩
    exact q1 ad1 Hb1 H1 σ1 _ W1 N1 (RepEs.step s1 t) Q' fun ρ2 μ2 ad2 Hb2 H2 σ2 q2 s2 W2 N2 b2 => g _ _ _ _ _ _ q2 (s1.trans s2) W2 N2 ⟨b2.1.trans b1.1, fun i hi => (b2.2 i hi).trans (b1.2 i hi)⟩
theorem tgp_tup {js : List Nat} {k n : Nat} {R : Rho → Mu → Prop} (hc : X.calm = true) (h : TGsP X es js (xs.map .sh) ρ μ R) (hl : xs.length = n)
    (hn : (assignEach es X.env).length = n := by rfl) (hst : (assignEach es X.env).findIdx? (·.1) = none := by rfl) : TGP X (.Tuple es k pos) js (.sh (.tup xs)) ρ μ R := fun ad Hb H σ v W N r Q' g => by
  obtain ⟨a, vs, rfl, hq, r⟩ := Rep.tup_inv r
  exact pg_go (pg_tup hc pgs_self hn hst) ⟨a, vs, rfl, .inl (.inl (W.tup hq)), by rw [r.length]; exact hl, h ad Hb H σ vs W N (repEs_of r) Q' g⟩

/-! ### comprehensions -/
def TTsV (X : Cx) (ifs : List Expr) : TT := fun σ H Q => ∀ pins s, Inv X pins σ H s →
  wpAny (model X.prog X.w) X.A (forIn ifs true fun c r => if r = true then do let ok ← isTrue c X.env (eval c X.env); pure (ForInStep.yield ok) else pure (ForInStep.yield r)) (TP X pins σ Q) X.xe s
theorem pts_self {ifs : List Expr} : PTs X ifs (TTsV X ifs) := ⟨fun pins s _ _ _ I h => h pins s I⟩
theorem pts_go {ifs : List Expr} {t : TT} (h : PTs X ifs t) {σ : L2.St} {H : Hp} {Q : Bool → Hp → Prop} (q : t σ H Q) : TTsV X ifs σ H Q := fun pins s I => h.run pins s σ H Q I q
def TTsP (X : Cx) (ifs : List Expr) (ρ : Rho) (μ : Mu) (Q : Bool → Mu → Prop) : Prop :=
  ∀ (ad : List Addr) (Hb H : Hp) (σ : L2.St), Wd X.K ad Hb H μ → Env X.K ad Hb σ ρ → ∀ Q', GoesT X.K ad Hb H Q Q' → TTsV X ifs σ H Q'
theorem tts_nil {Q : Bool → Mu → Prop} (q : Q true μ) : TTsP X [] ρ μ Q := fun ad Hb H σ W N Q' g => pts_go pts_nil (g true μ ad Hb H q (Step.refl _ _ _) W)
theorem tts_one {Q : Bool → Mu → Prop} (h : TTP X c ρ μ Q) : TTsP X [c] ρ μ Q := fun ad Hb H σ W N Q' g => pts_go (pts_one pt_self) (h ad Hb H σ W N Q' g)
/-- within a comprehension's block -/
def blkX (X : Cx) (scope : Scope) (s : Shared) (H : Hp) (C : Addr) (cl : List (Str × Addr)) (fp : List Addr) : Cx := X.blk s H scope (compEnvC scope cl C X.env) fp
def TEB (X : Cx) (scope : Scope) (e : Expr) (ρ : Rho) (μ : Mu) (Q : E → Mu → Prop) : Prop := ∀ s H C cl fp, TEP (X.blk s H scope (compEnvC scope cl C X.env) fp) e ρ μ Q
def TTsB (X : Cx) (scope : Scope) (ifs : List Expr) (ρ : Rho) (μ : Mu) (Q : Bool → Mu → Prop) : Prop := ∀ s H C cl fp, TTsP (X.blk s H scope (compEnvC scope cl C X.env) fp) ifs ρ μ Q
def TGB (X : Cx) (scope : Scope) (tg : Expr) (js : List Nat) (x : E) (ρ : Rho) (μ : Mu) (R : Rho → Mu → Prop) : Prop := ∀ s H C cl fp, TGP (X.blk s H scope (compEnvC scope cl C X.env) fp) tg js x ρ μ R
def wipeR (ρ : Rho) : List Nat → Rho
  | [] => ρ
  | v :: vs => (wipeR ρ vs).set v none
theorem wipeR_len (ρ : Rho) : ∀ vs : List Nat, (wipeR ρ vs).length = ρ.length
  | [] => rfl
  | v :: vs => by unfold wipeR; rw [List.length_set, wipeR_len ρ vs]
theorem wipeR_some {ρ : Rho} {i : Nat} {x : E} : ∀ {vs : List Nat}, (wipeR ρ vs)[i]? = some (some x) → ρ[i]? = some (some x) ∧ i ∉ vs
  | [], h => ⟨h, by simp⟩
  | v :: vs, h => by
    unfold wipeR at h
    by_cases hi : v = i
    · subst hi
      by_cases hv : v < (wipeR ρ vs).length
      · rw [List.getElem?_set_self hv] at h; cases h
      · rw [List.getElem?_eq_none (by simpa using hv)] at h; cases h
    · rw [List.getElem?_set_ne hi] at h
      obtain ⟨h1, h2⟩ := wipeR_some h
      exact ⟨h1, by simp only [List.mem_cons, not_or]; exact ⟨fun e => hi e.symm, h2⟩⟩
theorem Env.wipe {K : PySem.W.Frag} {ad : List Addr} {Hb : Hp} {σ : L2.St} (N : Env K ad Hb σ ρ) (vs : List Nat) : Env K ad Hb (wipe σ vs) (wipeR ρ vs) :=
  ⟨by rw [wipe_length, wipeR_len]; exact N.1, fun i x h => by
    obtain ⟨h1, h2⟩ := wipeR_some h
    obtain ⟨v, a, b⟩ := N.2 i x h1
    exact ⟨v, by rw [wipe_out h2]; exact a, b⟩⟩
/-- an object that is none of the world's is laid, changed -/
theorem Wd.apart {K : PySem.W.Frag} {ad : List Addr} {Hb H : Hp} {μ : Mu} {D : Addr} {o : HO} (W : Wd K ad Hb H μ) (h1 : D ∉ ad) (h2 : Hb D = none) : Wd K ad Hb (upd H D o) μ := by
  refine ⟨W.len, fun a u e => ?_, fun j a c ha hc => ?_, W.nd, fun a ha => upd_trk (W.trk a ha)⟩
  · have ea : a ≠ D := by
      rintro rfl
      rw [h2] at e
      cases e
    exact (W.inc a u e).keep (upd_ne ea)
  · obtain ⟨h3, h4⟩ := W.off j a c ha hc
    have ea : a ≠ D := by
      rintro rfl
      exact h1 (List.mem_of_getElem? ha)
    exact ⟨h3, h4.keep (upd_ne ea) fun _ _ r => r⟩
theorem Step.apart {ad ad2 : List Addr} {Hb H Hb2 H2 : Hp} {D : Addr} {o : HO} (s : Step ad Hb H ad2 Hb2 H2) (h : H D = none) : Step ad Hb H ad2 Hb2 (upd H2 D o) :=
  ⟨s.ex, s.pre, s.new, fun a u ha e => by rw [upd_ne (ne_of_none e h)]; exact s.fr a u ha e, s.fgn, fun a u q hb e => by rw [upd_ne (ne_of_none e h)]; exact s.bs a u q hb e⟩
/-- .. and becomes a part of it: of the base, a cell -/
theorem Wd.adopt {K : PySem.W.Frag} {ad ad2 : List Addr} {Hb H Hb2 H2 : Hp} {μ : Mu} {D : Addr} {o : HO} (s : Step ad Hb H ad2 Hb2 H2) (W : Wd K ad2 Hb2 H2 μ) (h : H D = none) (h1 : D ∉ ad2) (h2 : Hb2 D = none) (h3 : H2 D = some o) :
    Wd K ad2 (upd Hb2 D o) H2 μ ∧ Step ad Hb H ad2 (upd Hb2 D o) H2 := by
  refine ⟨⟨W.len, fun a u e => ?_, fun j a c ha hc => ?_, W.nd, W.trk⟩, ⟨s.ex.trans (Ex.new h2), s.pre, s.new, s.fr, fun a u ha e t n => ?_, s.bs⟩⟩
  · by_cases ea : a = D
    · subst ea
      rw [upd_same] at e
      cases e
      exact Std.of h3
    · rw [upd_ne ea] at e
      exact W.inc a u e
  · obtain ⟨h4, h5⟩ := W.off j a c ha hc
    have ea : a ≠ D := by
      rintro rfl
      exact h1 (List.mem_of_getElem? ha)
    exact ⟨by rw [upd_ne ea]; exact h4, h5.keep rfl fun v x r => repE_mono (Ex.new h2) ⟨[], by simp⟩ r⟩
  · rw [upd_ne (ne_of_none e h)]
    exact s.fgn a u ha e t n
theorem Wd.adoptC {K : PySem.W.Frag} {ad ad2 : List Addr} {Hb H Hb2 H2 : Hp} {μ : Mu} {D : Addr} {c : Cell} (s : Step ad Hb H ad2 Hb2 H2) (W : Wd K ad2 Hb2 H2 μ) (h : H D = none) (h1 : D ∉ ad2) (h2 : Hb2 D = none) (ok : CellOk K ad2 Hb2 H2 D c) :
    Wd K (ad2 ++ [D]) Hb2 H2 (μ ++ [some c]) ∧ Step ad Hb H (ad2 ++ [D]) Hb2 H2 := by
  have sp : ∀ (j : Nat) (a : Addr) (d : Cell), (ad2 ++ [D])[j]? = some a → (μ ++ [some c])[j]? = some (some d) → (ad2[j]? = some a ∧ μ[j]? = some (some d)) ∨ (j = ad2.length ∧ a = D ∧ d = c) := fun j a d ha hd => by
    by_cases hj : j < ad2.length
    · rw [List.getElem?_append_left hj] at ha
      rw [List.getElem?_append_left (by rw [← W.len]; exact hj)] at hd
      exact .inl ⟨ha, hd⟩
    · have hj2 : j = ad2.length := by
        have := (List.getElem?_eq_some_iff.mp ha).1
        rw [List.length_append, List.length_singleton] at this
        omega
      subst hj2
      rw [List.getElem?_append_right (Nat.le_refl _)] at ha
      rw [W.len, List.getElem?_append_right (Nat.le_refl _)] at hd
      simp at ha hd
      exact .inr ⟨rfl, ha.symm, hd.symm⟩
  have tr : H2 D ≠ none := by
    obtain ⟨o, e, _⟩ := ok.some
    rw [e]
    exact fun z => nomatch z
  refine ⟨⟨by simp [W.len], W.inc, fun j a d ha hd => ?_, fun i j a d e hi hj hd he => ?_, fun a ha => ?_⟩, ⟨s.ex, ?_, fun a z => ?_, s.fr, s.fgn, s.bs⟩⟩
  · rcases sp j a d ha hd with ⟨h3, h4⟩ | ⟨_, rfl, rfl⟩
    · obtain ⟨h5, h6⟩ := W.off j a d h3 h4
      exact ⟨h5, h6.keep rfl fun v x r => repE_mono (Ex.refl _) ⟨[D], rfl⟩ r⟩
    · exact ⟨h2, ok.keep rfl fun v x r => repE_mono (Ex.refl _) ⟨[a], rfl⟩ r⟩
  · rcases sp i a d hi hd with ⟨h3, h4⟩ | ⟨h3, h4, _⟩
    · rcases sp j a e hj he with ⟨h5, h6⟩ | ⟨_, h6, _⟩
      · exact W.nd i j a d e h3 h5 h4 h6
      · subst h6
        exact absurd (List.mem_of_getElem? h3) h1
    · rcases sp j a e hj he with ⟨h5, _⟩ | ⟨h5, _, _⟩
      · subst h4
        exact absurd (List.mem_of_getElem? h5) h1
      · omega
  · rcases List.mem_append.mp ha with z | z
    · exact W.trk a z
    · have : a = D := by simpa using z
      subst this
      exact tr
  · obtain ⟨l, e⟩ := s.pre
    exact ⟨l ++ [D], by rw [e, List.append_assoc]⟩
  · rcases List.mem_append.mp z with z | z
    · exact s.new a z
    · have : a = D := by simpa using z
      subst this
      exact .inr h
abbrev gB (X : Cx) (scope : Scope) (tg : Expr) : TG := fun v σ H Q => ∀ s H0 C cl fp, TGV (X.blk s H0 scope (compEnvC scope cl C X.env) fp) tg v σ H Q
abbrev tB (X : Cx) (scope : Scope) (ifs : List Expr) : TT := fun σ H Q => ∀ s H0 C cl fp, TTsV (X.blk s H0 scope (compEnvC scope cl C X.env) fp) ifs σ H Q
abbrev eB (X : Cx) (scope : Scope) (e : Expr) : TE := fun σ H Q => ∀ s H0 C cl fp, TEV (X.blk s H0 scope (compEnvC scope cl C X.env) fp) e σ H Q
theorem pgB {scope : Scope} (s : Shared) (H : Hp) (C : Addr) (cl : List (Str × Addr)) (fp : List Addr) : PG (X.blk s H scope (compEnvC scope cl C X.env) fp) tg (gB X scope tg) := ⟨fun pins s1 σ1 H1 v u Q I r h => h s H C cl fp pins s1 u I r⟩
theorem ptB {scope : Scope} {ifs : List Expr} (s : Shared) (H : Hp) (C : Addr) (cl : List (Str × Addr)) (fp : List Addr) : PTs (X.blk s H scope (compEnvC scope cl C X.env) fp) ifs (tB X scope ifs) := ⟨fun pins s1 σ1 H1 Q I h => h s H C cl fp pins s1 I⟩
theorem peB {scope : Scope} (s : Shared) (H : Hp) (C : Addr) (cl : List (Str × Addr)) (fp : List Addr) : PE (X.blk s H scope (compEnvC scope cl C X.env) fp) e (eB X scope e) := ⟨fun pins s1 σ1 H1 Q I h => h s H C cl fp pins s1 I⟩
/-- the comprehension's loop; Fin: what is wanted of the new list's items -/
theorem lc_main {elt : Expr} {ifs : List Expr} {scope : Scope} {own : List (Str × Nat)} {js : List Nat} {Q' : VK} {ad : List Addr} {Hb H : Hp} {σ : L2.St} {Fin : List E → Mu → Prop} (hjs : ∀ j ∈ js, j ∈ own.map (·.2))
    (h : TIP X tg iter ρ μ fun items G μ1 => ∃ I : Nat → List E → Mu → Prop, I 0 [] μ1 ∧ (∀ i acc μ2, i ≤ items.length → I i acc μ2 → G μ2) ∧
      (∀ i x acc μ2, items[i]? = some x → I i acc μ2 → TGB X scope tg js x (wipeR ρ (own.map (·.2))) μ2 fun ρ3 μ3 => TTsB X scope ifs ρ3 μ3 fun b μ4 => if b = true then TEB X scope elt ρ3 μ4 (fun y μ5 => acc.length < 100000 ∧ I (i + 1) (acc ++ [y]) μ5) else I (i + 1) acc μ4) ∧
      ∀ acc μ2, I items.length acc μ2 → Fin acc μ2)
    (W : Wd X.K ad Hb H μ) (N : Env X.K ad Hb σ ρ)
    (fin : ∀ (D : Addr) (acc : List E) (μ2 : Mu) (vs : List V) (ad1 : List Addr) (Hb1 H1 : Hp) (ad2 : List Addr) (Hb2 H2 : Hp), Step ad Hb H ad1 Hb1 H1 → Step ad1 Hb1 H1 ad2 Hb2 H2 → Wd X.K ad2 Hb2 H2 μ2 → H1 D = none → D ∉ ad2 → Hb2 D = none → H2 D = some (.lst vs) → RepEs X.K ad2 Hb2 vs acc → Fin acc μ2 → Q' (.ref D) H2)
    : tLc (TIV X tg iter) (gB X scope tg) (tB X scope ifs) (eB X scope elt) (own.map (·.2)) σ H Q' := by
  refine h ad Hb H σ W N _ fun J items G μ1 ad1 Hb1 H1 ⟨I, i0, hG, turn, done⟩ s1 W1 w D hD => ?_
  have nD : D ∉ ad1 := fun z => W1.trk D z hD
  have bD : Hb1 D = none := W1.base_none hD
  -- the state between two turns
  let Pv : Nat → Hp → Prop := fun i H' => ∃ acc μ2 vs ad2 Hb2, I i acc μ2 ∧ Step ad1 Hb1 H1 ad2 Hb2 H' ∧ Wd X.K ad2 Hb2 H' μ2 ∧ D ∉ ad2 ∧ Hb2 D = none ∧ H' D = some (.lst vs) ∧ RepEs X.K ad2 Hb2 vs acc
  refine ⟨fun i m H' => m = items.length - i ∧ i ≤ items.length ∧ Pv i H', ⟨items.length, rfl, Nat.zero_le _, [], μ1, [], ad1, Hb1, i0, (Step.refl _ _ _).apart hD, W1.apart nD bD, nD, bD, upd_same, .nil⟩, ?_⟩
  rintro i m H' ⟨rfl, hi, acc, μ2, vs, ad2, Hb2, iI, s2, W2, n2, b2, d2, r2⟩
  by_cases hlt : i < items.length
  · refine .inr ⟨w.goes i ad2 Hb2 H' μ2 hlt s2 W2 (hG i acc μ2 hi iI), Pv (i + 1), fun H'' p => ⟨items.length - (i + 1), by omega, rfl, hlt, p⟩, fun x H3 y => ?_⟩
    obtain ⟨Hb3, e, s3, W3, he, re⟩ := w.yields i ad2 Hb2 H' μ2 x H3 hlt s2 W2 (hG i acc μ2 hi iI) y
    have t3 := s2.trans s3
    intro s H0 C cl fp
    refine turn i e acc μ2 he iI s H0 C cl fp ad2 Hb3 H3 _ x W3 ((Env.step (s1.trans t3) N).wipe _) re _ fun ρ4 μ4 ad4 Hb4 H4 σ4 q4 s4 W4 N4 b4 => ?_
    refine ⟨?_, ?_⟩
    · have e1 := wipe_get (σ := wipe σ (own.map (·.2))) (σ' := σ4) (own.map (·.2)) b4.1 fun k hk => b4.2 k fun z => hk (hjs k z)
      rw [e1]
      exact wipe_get _ (wipe_length _ _) fun k hk => wipe_out hk
    intro s H0 C cl fp
    refine q4 s H0 C cl fp ad4 Hb4 H4 σ4 W4 N4 _ fun b μ5 ad5 Hb5 H5 q5 s5 W5 => ?_
    have k1 : D ∉ ad5 ∧ Hb5 D = none ∧ H5 D = some (.lst vs) := by
      have d3 := s3.fr0 n2 b2 d2
      have b3 := s3.fgn D _ n2 d2 rfl b2
      have d4 := s4.fr0 n2 b3 d3
      have b4' := s4.fgn D _ n2 d3 rfl b3
      have n4 : D ∉ ad4 := fun z => by
        rcases s4.new D z with z | z
        · exact n2 z
        · rw [d3] at z; cases z
      have n5 : D ∉ ad5 := fun z => by
        rcases s5.new D z with z | z
        · exact n4 z
        · rw [d4] at z; cases z
      exact ⟨n5, s5.fgn D _ n4 d4 rfl b4', s5.fr0 n4 b4' d4⟩
    have t5 := t3.trans (s4.trans s5)
    have r5 := RepEs.step (s3.trans (s4.trans s5)) r2
    cases b with
    | false => exact ⟨acc, μ5, vs, ad5, Hb5, q5, t5, W5, k1.1, k1.2.1, k1.2.2, r5⟩
    | true =>
      intro s H0 C cl fp
      refine q5 s H0 C cl fp ad5 Hb5 H5 σ4 W5 (Env.step s5 N4) _ fun z y μ6 ad6 Hb6 H6 q6 s6 W6 r6 => ?_
      have d6 := s6.fr0 k1.1 k1.2.1 k1.2.2
      have b6 := s6.fgn D _ k1.1 k1.2.2 rfl k1.2.1
      have n6 : D ∉ ad6 := fun z => by
        rcases s6.new D z with z | z
        · exact k1.1 z
        · rw [k1.2.2] at z; cases z
      have r7 := RepEs.step s6 r5
      refine ⟨vs, d6, Nat.lt_of_lt_of_le (by rw [r2.length]; exact q6.1) (by decide), acc ++ [y], μ6, vs ++ [z], ad6, Hb6, q6.2, (t5.trans s6).apart hD, W6.apart n6 b6, n6, b6, upd_same, pd_app r7 (.cons r6 .nil)⟩
  · have e : i = items.length := by omega
    subst e
    exact .inl ⟨w.stops ad2 Hb2 H' μ2 s2 W2 (hG _ acc μ2 hi iI), fin D acc μ2 vs ad1 Hb1 H1 ad2 Hb2 H' s1 s2 W2 hD n2 b2 d2 r2 (done acc μ2 iI)⟩

/-- [elt for tg in iter if ..]: shared; a cell -/
theorem tep_lc {elt : Expr} {ifs : List Expr} {scope : Scope} {Q : E → Mu → Prop} (own : List (Str × Nat)) (js : List Nat) (hc : X.calm = true) (hN : X.N.Nodup) (ok : BlkOk X.N X.env.scope scope own) (hjs : ∀ j ∈ js, j ∈ own.map (·.2))
    (h : TIP X tg iter ρ μ fun items G μ1 => ∃ I : Nat → List E → Mu → Prop, I 0 [] μ1 ∧ (∀ i acc μ2, i ≤ items.length → I i acc μ2 → G μ2) ∧
      (∀ i x acc μ2, items[i]? = some x → I i acc μ2 → TGB X scope tg js x (wipeR ρ (own.map (·.2))) μ2 fun ρ3 μ3 => TTsB X scope ifs ρ3 μ3 fun b μ4 => if b = true then TEB X scope elt ρ3 μ4 (fun y μ5 => acc.length < 100000 ∧ I (i + 1) (acc ++ [y]) μ5) else I (i + 1) acc μ4) ∧
      ∀ acc μ2, I items.length acc μ2 → ∃ zs : List P, acc = zs.map .sh ∧ Q (.sh (.lst zs)) μ2)
    (hs : ∀ x, foldedSetIterable iter X.env x = pure x := by intro _; rfl) : TEP X (.ListComp elt [⟨tg, iter, ifs, 0⟩] scope pos) ρ μ Q := fun ad Hb H σ W N Q' g => by
  refine pe_go (pe_lc hc hN pi_self ok pgB ptB peB hs) (lc_main (Fin := fun acc μ2 => ∃ zs : List P, acc = zs.map .sh ∧ Q (.sh (.lst zs)) μ2) hjs h W N ?_)
  rintro D acc μ2 vs ad1 Hb1 H1 ad2 Hb2 H2 s1 s2 W2 h1 h2 h3 h4 r ⟨zs, rfl, q⟩
  obtain ⟨W3, s3⟩ := W2.adopt s2 h1 h2 h3 h4
  exact g _ (.sh (.lst zs)) _ _ _ _ q (s1.trans s3) W3 (Rep.lstL upd_same (RepL.mono (Ex.new h3) (repEs_sh r)))
theorem tep_lcC {elt : Expr} {ifs : List Expr} {scope : Scope} {Q : E → Mu → Prop} (own : List (Str × Nat)) (js : List Nat) (hc : X.calm = true) (hN : X.N.Nodup) (ok : BlkOk X.N X.env.scope scope own) (hjs : ∀ j ∈ js, j ∈ own.map (·.2))
    (h : TIP X tg iter ρ μ fun items G μ1 => ∃ I : Nat → List E → Mu → Prop, I 0 [] μ1 ∧ (∀ i acc μ2, i ≤ items.length → I i acc μ2 → G μ2) ∧
      (∀ i x acc μ2, items[i]? = some x → I i acc μ2 → TGB X scope tg js x (wipeR ρ (own.map (·.2))) μ2 fun ρ3 μ3 => TTsB X scope ifs ρ3 μ3 fun b μ4 => if b = true then TEB X scope elt ρ3 μ4 (fun y μ5 => acc.length < 100000 ∧ I (i + 1) (acc ++ [y]) μ5) else I (i + 1) acc μ4) ∧
      ∀ acc μ2, I items.length acc μ2 → Q (.pt μ2.length) (μ2 ++ [some (.lst acc)]))
    (hs : ∀ x, foldedSetIterable iter X.env x = pure x := by intro _; rfl) : TEP X (.ListComp elt [⟨tg, iter, ifs, 0⟩] scope pos) ρ μ Q := fun ad Hb H σ W N Q' g => by
  refine pe_go (pe_lc hc hN pi_self ok pgB ptB peB hs) (lc_main (Fin := fun acc μ2 => Q (.pt μ2.length) (μ2 ++ [some (.lst acc)])) hjs h W N ?_)
  intro D acc μ2 vs ad1 Hb1 H1 ad2 Hb2 H2 s1 s2 W2 h1 h2 h3 h4 r q
  obtain ⟨W3, s3⟩ := W2.adoptC (c := .lst acc) s2 h1 h2 h3 ⟨vs, h4, r⟩
  exact g _ (.pt μ2.length) _ _ _ _ q (s1.trans s3) W3 ⟨D, by rw [← W2.len]; simp, rfl⟩
/-- a pure one, over what a list of any type gives -/
theorem lc_inv {α : Type} {l : List α} {f : α → P} {p : α → Bool} {g : α → P} {ρ' : α → Rho} {elt : Expr} {ifs : List Expr} {scope : Scope} {own : List (Str × Nat)} {js : List Nat} {Fin : List E → Mu → Prop} (hi : EI X tg iter ρ μ (l.map fun a => .sh (f a))) (hl : l.length ≤ 100000)
    (ht : ∀ a ∈ l, ∀ R : Rho → Mu → Prop, R (ρ' a) μ → TGB X scope tg js (.sh (f a)) (wipeR ρ (own.map (·.2))) μ R)
    (hp : ∀ a ∈ l, ∀ Q : Bool → Mu → Prop, Q (p a) μ → TTsB X scope ifs (ρ' a) μ Q) (he : ∀ a ∈ l, p a = true → ∀ Q : E → Mu → Prop, Q (.sh (g a)) μ → TEB X scope elt (ρ' a) μ Q) (q : Fin (((l.filter p).map g).map .sh) μ) :
    TIP X tg iter ρ μ fun items G μ1 => ∃ I : Nat → List E → Mu → Prop, I 0 [] μ1 ∧ (∀ i acc μ2, i ≤ items.length → I i acc μ2 → G μ2) ∧
      (∀ i x acc μ2, items[i]? = some x → I i acc μ2 → TGB X scope tg js x (wipeR ρ (own.map (·.2))) μ2 fun ρ3 μ3 => TTsB X scope ifs ρ3 μ3 fun b μ4 => if b = true then TEB X scope elt ρ3 μ4 (fun y μ5 => acc.length < 100000 ∧ I (i + 1) (acc ++ [y]) μ5) else I (i + 1) acc μ4) ∧
      ∀ acc μ2, I items.length acc μ2 → Fin acc μ2 := by
  refine hi _ ⟨fun i acc μ2 => μ2 = μ ∧ acc = (((l.take i).filter p).map g).map .sh, ⟨rfl, rfl⟩, fun _ _ _ _ _ => trivial, ?_, ?_⟩
  · rintro i x acc μ2 hx ⟨rfl, rfl⟩
    rw [List.getElem?_map] at hx
    cases e : l[i]? with
    | none => rw [e] at hx; cases hx
    | some a =>
      rw [e] at hx
      cases hx
      have ha : a ∈ l := List.mem_of_getElem? e
      have ht' : l.take (i + 1) = l.take i ++ [a] := by
        rw [List.take_add_one, e]
        rfl
      refine ht a ha _ (hp a ha _ ?_)
      by_cases c : p a = true
      · rw [if_pos c]
        refine he a ha c _ ⟨?_, rfl, ?_⟩
        · have h1 := List.length_filter_le p (l.take i)
          have h2 := (List.getElem?_eq_some_iff.mp e).1
          rw [List.length_map, List.length_map]
          rw [List.length_take] at h1
          omega
        · rw [ht', List.filter_append, List.map_append, List.map_append]
          simp [c]
      · rw [if_neg c]
        refine ⟨rfl, ?_⟩
        rw [ht', List.filter_append, List.map_append, List.map_append]
        simp [c]
  · rintro acc μ2 ⟨rfl, rfl⟩
    rw [List.length_map, List.take_length]
    exact q
theorem ev_lc {α : Type} (l : List α) (f : α → P) (p : α → Bool) (g : α → P) (ρ' : α → Rho) {elt : Expr} {ifs : List Expr} {scope : Scope} (own : List (Str × Nat)) (js : List Nat) (hc : X.calm = true) (hN : X.N.Nodup) (ok : BlkOk X.N X.env.scope scope own) (hjs : ∀ j ∈ js, j ∈ own.map (·.2))
    (hi : EI X tg iter ρ μ (l.map fun a => .sh (f a))) (hl : l.length ≤ 100000)
    (ht : ∀ a ∈ l, ∀ R : Rho → Mu → Prop, R (ρ' a) μ → TGB X scope tg js (.sh (f a)) (wipeR ρ (own.map (·.2))) μ R)
    (hp : ∀ a ∈ l, ∀ Q : Bool → Mu → Prop, Q (p a) μ → TTsB X scope ifs (ρ' a) μ Q) (he : ∀ a ∈ l, p a = true → ∀ Q : E → Mu → Prop, Q (.sh (g a)) μ → TEB X scope elt (ρ' a) μ Q)
    (hs : ∀ x, foldedSetIterable iter X.env x = pure x := by intro _; rfl) : EV X (.ListComp elt [⟨tg, iter, ifs, 0⟩] scope pos) ρ μ (.sh (.lst ((l.filter p).map g))) := fun Q q =>
  tep_lc own js hc hN ok hjs (lc_inv hi hl ht hp he ⟨_, rfl, q⟩) hs
end
end PV

/-! Statements, defs. -/
namespace PV
open PySem PySem.Spec PyProof.Rows L2

def TSV (X : Cx) (st : Stmt) : TS := fun D σ H => ∀ pins s, Inv X pins σ H s → wpAny (model X.prog X.w) X.A (exec st X.env) (SP X pins D) X.xe s
def TSsV (X : Cx) (st : List Stmt) : TS := fun D σ H => ∀ pins s, Inv X pins σ H s → wpAny (model X.prog X.w) X.A (execs st X.env) (SP X pins D) X.xe s
theorem ps_self {X : Cx} {st : Stmt} : PS X st (TSV X st) := ⟨fun pins s _ _ _ I h => h pins s I⟩
theorem pss_self {X : Cx} {st : List Stmt} : PSs X st (TSsV X st) := ⟨fun pins s _ _ _ I h => h pins s I⟩
theorem ps_go {X : Cx} {st : Stmt} {t : TS} (h : PS X st t) {σ : L2.St} {H : Hp} {D : Ends} (q : t D σ H) : TSV X st D σ H := fun pins s I => h.run pins s σ H D I q
theorem pss_go {X : Cx} {st : List Stmt} {t : TS} (h : PSs X st t) {σ : L2.St} {H : Hp} {D : Ends} (q : t D σ H) : TSsV X st D σ H := fun pins s I => h.run pins s σ H D I q

/-- what is wanted behind a statement -/
structure Out where
  nx : Rho → Mu → Prop
  rt : E → Mu → Prop
  bk : Rho → Mu → Prop := fun _ _ => False
  ct : Rho → Mu → Prop := fun _ _ => False
def GoesR (K : PySem.W.Frag) (ad : List Addr) (Hb H : Hp) (R : Rho → Mu → Prop) (R' : L2.St → Hp → Prop) : Prop :=
  ∀ (σ' : L2.St) (ρ' : Rho) (μ' : Mu) (ad' : List Addr) (Hb' H' : Hp), R ρ' μ' → Step ad Hb H ad' Hb' H' → Wd K ad' Hb' H' μ' → Env K ad' Hb' σ' ρ' → R' σ' H'
structure GoesS (K : PySem.W.Frag) (ad : List Addr) (Hb H : Hp) (D : Out) (D' : Ends) : Prop where
  nx : GoesR K ad Hb H D.nx D'.nx
  rt : Goes K ad Hb H D.rt D'.rt
  bk : GoesR K ad Hb H D.bk D'.bk
  ct : GoesR K ad Hb H D.ct D'.ct
section
variable {K : PySem.W.Frag} {ad ad1 : List Addr} {Hb H Hb1 H1 : Hp} {D : Out} {D' : Ends}
theorem GoesR.after {R : Rho → Mu → Prop} {R' : L2.St → Hp → Prop} (g : GoesR K ad Hb H R R') (s : Step ad Hb H ad1 Hb1 H1) : GoesR K ad1 Hb1 H1 R R' := fun σ' ρ' μ' ad' Hb' H' q s' W N => g σ' ρ' μ' ad' Hb' H' q (s.trans s') W N
theorem GoesS.after (g : GoesS K ad Hb H D D') (s : Step ad Hb H ad1 Hb1 H1) : GoesS K ad1 Hb1 H1 D D' := ⟨g.nx.after s, g.rt.after s, g.bk.after s, g.ct.after s⟩
end
def TSP (X : Cx) (st : Stmt) (ρ : Rho) (μ : Mu) (D : Out) : Prop :=
  ∀ (ad : List Addr) (Hb H : Hp) (σ : L2.St), Wd X.K ad Hb H μ → Env X.K ad Hb σ ρ → ∀ D' : Ends, GoesS X.K ad Hb H D D' → TSV X st D' σ H
def TSs (X : Cx) (st : List Stmt) (ρ : Rho) (μ : Mu) (D : Out) : Prop :=
  ∀ (ad : List Addr) (Hb H : Hp) (σ : L2.St), Wd X.K ad Hb H μ → Env X.K ad Hb σ ρ → ∀ D' : Ends, GoesS X.K ad Hb H D D' → TSsV X st D' σ H
section
variable {X : Cx} {st : Stmt} {rest bodyS elseS : List Stmt} {tg a b c e o iter : Expr} {es : List Expr} {ρ : Rho} {μ : Mu} {D : Out} {pos pos' p2 : Pos}
theorem tss_nil (q : D.nx ρ μ) : TSs X [] ρ μ D := fun ad Hb H σ W N D' g => pss_go pss_nil (g.nx _ _ _ _ _ _ q (Step.refl _ _ _) W N)
theorem tss_cons (h : TSP X st ρ μ { D with nx := fun ρ1 μ1 => TSs X rest ρ1 μ1 D }) : TSs X (st :: rest) ρ μ D := fun ad Hb H σ W N D' g =>
  pss_go (pss_cons ps_self pss_self) (h ad Hb H σ W N _ ⟨fun σ' ρ' μ' ad' Hb' H' q s W' N' => q ad' Hb' H' σ' W' N' D' (g.after s), g.rt, g.bk, g.ct⟩)
theorem tss_one (h : TSP X st ρ μ D) : TSs X [st] ρ μ D := fun ad Hb H σ W N D' g => pss_go (pss_one ps_self) (h ad Hb H σ W N D' g)
theorem tsp_pass (q : D.nx ρ μ) : TSP X (.Pass pos) ρ μ D := fun ad Hb H σ W N D' g => ps_go ps_pass (g.nx _ _ _ _ _ _ q (Step.refl _ _ _) W N)
theorem tsp_break (q : D.bk ρ μ) : TSP X (.Break pos) ρ μ D := fun ad Hb H σ W N D' g => ps_go ps_break (g.bk _ _ _ _ _ _ q (Step.refl _ _ _) W N)
theorem tsp_continue (q : D.ct ρ μ) : TSP X (.Continue pos) ρ μ D := fun ad Hb H σ W N D' g => ps_go ps_continue (g.ct _ _ _ _ _ _ q (Step.refl _ _ _) W N)
theorem tsp_expr (h : TEP X e ρ μ fun _ μ1 => D.nx ρ μ1) (hs : swapsWith e none pos.line X.env = pure false := by rfl) : TSP X (.Expr e pos) ρ μ D := fun ad Hb H σ W N D' g =>
  ps_go (ps_expr pe_self hs) (h ad Hb H σ W N _ fun v x μ1 ad1 Hb1 H1 q s W1 r => g.nx _ _ _ _ _ _ q s W1 (N.step s))
theorem tsp_ret (h : TEP X e ρ μ D.rt) : TSP X (.Return (some e) pos) ρ μ D := fun ad Hb H σ W N D' g => ps_go (ps_ret pe_self) (h ad Hb H σ W N _ g.rt)
theorem tsp_retN (h : D.rt (.sh .non) μ) : TSP X (.Return none pos) ρ μ D := fun ad Hb H σ W N D' g => ps_go ps_retN (g.rt _ (.sh .non) _ _ _ _ h (Step.refl _ _ _) W .non)
theorem tsp_if (h : TTP X c ρ μ fun d μ1 => if d = true then TSs X bodyS ρ μ1 D else TSs X elseS ρ μ1 D) : TSP X (.If c bodyS elseS pos) ρ μ D := fun ad Hb H σ W N D' g => by
  refine ps_go (ps_if pt_self pss_self pss_self) (h ad Hb H σ W N _ fun d μ1 ad1 Hb1 H1 q s W1 => ?_)
  cases d with
  | true => exact q ad1 Hb1 H1 σ W1 (N.step s) D' (g.after s)
  | false => exact q ad1 Hb1 H1 σ W1 (N.step s) D' (g.after s)
theorem tsp_ifE {d : Bool} (h : ET X c ρ μ d) (h1 : d = true → TSs X bodyS ρ μ D) (h2 : d = false → TSs X elseS ρ μ D) : TSP X (.If c bodyS elseS pos) ρ μ D := tsp_if (h _ (by
  cases d with
  | true => exact h1 rfl
  | false => exact h2 rfl))
theorem tsp_set (i : Nat) {n : Str} (h : TEP X e ρ μ fun x μ1 => D.nx (ρ.set i (some x)) μ1) (hN : X.N.Nodup) (hi : X.N[i]? = some n) (hx : Loc X.env.scope n) (hf : X.fn n = true ∨ X.env.scope.names.lookup n = some .local) (hs : swapsWith e (some (.Name n pos')) pos.line X.env = pure false := by rfl) : TSP X (.Assign [.Name n pos'] e pos) ρ μ D := fun ad Hb H σ W N D' g =>
  ps_go (ps_set hN hi hx pe_self hs hf) (h ad Hb H σ W N _ fun v x μ1 ad1 Hb1 H1 q s W1 r => g.nx _ _ _ _ _ _ q s W1 ((N.step s).set i r))
theorem tsp_asg (js : List Nat) (h : TEP X e ρ μ fun x μ1 => TGP X tg js x ρ μ1 D.nx) (hs : swapsWithSole [tg] e pos.line X.env = pure false := by rfl) (hw : swappedStores [tg] e X.env = pure none := by rfl) (h1 : (assignEach [tg] X.env).map (·.2) = [assign tg X.env] := by rfl) : TSP X (.Assign [tg] e pos) ρ μ D := fun ad Hb H σ W N D' g =>
  ps_go (ps_asg pe_self pg_self hs hw h1) (h ad Hb H σ W N _ fun v x μ1 ad1 Hb1 H1 q s W1 r => q ad1 Hb1 H1 σ v W1 (N.step s) r _ fun ρ2 μ2 ad2 Hb2 H2 σ2 q2 s2 W2 N2 _ => g.nx _ _ _ _ _ _ q2 (s.trans s2) W2 N2)
/-- x, y = a, b -/
theorem tsp_par2 (i j : Nat) {x y : Str} {px py pt pt2 : Pos} {kt k2} (h : TAP X [a, b] ρ μ fun zs μ1 => ∃ u v, zs = [u, v] ∧ D.nx ((ρ.set i (some u)).set j (some v)) μ1) (hc : X.calm = true) (hN : X.N.Nodup) (hi : X.N[i]? = some x) (hj : X.N[j]? = some y) (hij : i ≠ j)
    (hx : X.env.scope.names.lookup x = some .local) (hy : X.env.scope.names.lookup y = some .local) (hw : swappedStores [.Tuple [.Name x px, .Name y py] kt pt] (.Tuple [a, b] k2 pt2) X.env = pure (some [x, y]) := by rfl)
    (hs : swapsWithSole [.Tuple [.Name x px, .Name y py] kt pt] (.Tuple [a, b] k2 pt2) pos.line X.env = pure false := by rfl) : TSP X (.Assign [.Tuple [.Name x px, .Name y py] kt pt] (.Tuple [a, b] k2 pt2) pos) ρ μ D := fun ad Hb H σ W N D' g => by
  refine ps_go (ps_par hc hN hi hj hij hx hy pa_self hw hs) (h ad Hb H σ W N _ ?_)
  rintro vs zs μ1 ad1 Hb1 H1 ⟨u, v, rfl, q⟩ s W1 r
  obtain ⟨u', v', rfl, r1, r2⟩ := vals2E r
  exact ⟨u', v', rfl, g.nx _ _ _ _ _ _ q s W1 (((N.step s).set i r1).set j r2)⟩
theorem tsp_par3 (i j l : Nat) {x y z : Str} {px py pz pt pt2 : Pos} {kt k2} (h : TAP X [a, b, c] ρ μ fun zs μ1 => ∃ u v w, zs = [u, v, w] ∧ D.nx (((ρ.set i (some u)).set j (some v)).set l (some w)) μ1) (hc : X.calm = true) (hN : X.N.Nodup) (hi : X.N[i]? = some x) (hj : X.N[j]? = some y) (hl : X.N[l]? = some z) (hij : i ≠ j) (hil : i ≠ l) (hjl : j ≠ l)
    (hx : X.env.scope.names.lookup x = some .local) (hy : X.env.scope.names.lookup y = some .local) (hz : X.env.scope.names.lookup z = some .local) (hw : swappedStores [.Tuple [.Name x px, .Name y py, .Name z pz] kt pt] (.Tuple [a, b, c] k2 pt2) X.env = pure (some [x, y, z]) := by rfl)
    (hs : swapsWithSole [.Tuple [.Name x px, .Name y py, .Name z pz] kt pt] (.Tuple [a, b, c] k2 pt2) pos.line X.env = pure false := by rfl) : TSP X (.Assign [.Tuple [.Name x px, .Name y py, .Name z pz] kt pt] (.Tuple [a, b, c] k2 pt2) pos) ρ μ D := fun ad Hb H σ W N D' g => by
  refine ps_go (ps_par3 hc hN hi hj hl hij hil hjl hx hy hz pa_self hw hs) (h ad Hb H σ W N _ ?_)
  rintro vs zs μ1 ad1 Hb1 H1 ⟨u, v, w, rfl, q⟩ s W1 r
  obtain ⟨u', v', w', rfl, r1, r2, r3⟩ := vals3E r
  exact ⟨u', v', w', rfl, g.nx _ _ _ _ _ _ q s W1 ((((N.step s).set i r1).set j r2).set l r3)⟩
/-- a tuple of names = a tuple of values, by way of the tuple (a name is a cell) -/
theorem tsp_parG (js : List Nat) {ts : List Expr} {pt pt2 : Pos} {kt k2 n} (h : TAP X es ρ μ fun zs μ1 => zs.length ≤ 100000 ∧ zs.length = n ∧ TGsP X ts js zs ρ μ1 D.nx) (hc : X.calm = true)
    (hn : (assignEach ts X.env).length = n := by rfl) (hst : (assignEach ts X.env).findIdx? (·.1) = none := by rfl)
    (hs : swapsWithSole [.Tuple ts kt pt] (.Tuple es k2 pt2) pos.line X.env = pure false := by rfl) (hw : swappedStores [.Tuple ts kt pt] (.Tuple es k2 pt2) X.env = pure none := by rfl) (h1 : (assignEach [.Tuple ts kt pt] X.env).map (·.2) = [assign (.Tuple ts kt pt) X.env] := by rfl) :
    TSP X (.Assign [.Tuple ts kt pt] (.Tuple es k2 pt2) pos) ρ μ D := fun ad Hb H σ W N D' g => by
  refine ps_go (ps_asg (pe_tup pa_self) (pg_tup hc pgs_self hn hst) hs hw h1) (h ad Hb H σ W N _ ?_)
  rintro vs zs μ1 ad1 Hb1 H1 ⟨l1, l2, q⟩ s W1 r
  refine ⟨Nat.le_trans (by rw [r.length]; exact l1) (by decide), fun p hp => ?_⟩
  obtain ⟨W2, s2⟩ := W1.alloc (o := .tup vs) hp
  refine ⟨p, vs, rfl, .inl (.inl upd_same), by rw [r.length]; exact l2, q ad1 _ _ σ vs W2 ((N.step s).step s2) (RepEs.step s2 r) _ fun ρ3 μ3 ad3 Hb3 H3 σ3 q3 s3 W3 N3 _ => ?_⟩
  exact g.nx _ _ _ _ _ _ q3 ((s.trans s2).trans s3) W3 N3
/-- name = [..] on one line, the name a local -/
theorem tsp_setLc (i : Nat) {y : Str} {py : Pos} {elt : Expr} {ifs : List Expr} {scope : Scope} {spos : Pos} (own : List (Str × Nat)) (js : List Nat) (hc : X.calm = true) (hN : X.N.Nodup) (hy : X.N[i]? = some y) (hyl : X.env.scope.names.lookup y = some .local) (ok : BlkOk X.N X.env.scope scope own) (hjs : ∀ j ∈ js, j ∈ own.map (·.2))
    (h : TIP X tg iter ρ μ fun items G μ1 => ∃ I : Nat → List E → Mu → Prop, I 0 [] μ1 ∧ (∀ i acc μ2, i ≤ items.length → I i acc μ2 → G μ2) ∧
      (∀ i x acc μ2, items[i]? = some x → I i acc μ2 → TGB X scope tg js x (wipeR ρ (own.map (·.2))) μ2 fun ρ3 μ3 => TTsB X scope ifs ρ3 μ3 fun b μ4 => if b = true then TEB X scope elt ρ3 μ4 (fun y μ5 => acc.length < 100000 ∧ I (i + 1) (acc ++ [y]) μ5) else I (i + 1) acc μ4) ∧
      ∀ acc μ2, I items.length acc μ2 → (∃ zs : List P, acc = zs.map .sh ∧ D.nx (ρ.set i (some (.sh (.lst zs)))) μ2) ∨ D.nx (ρ.set i (some (.pt μ2.length))) (μ2 ++ [some (.lst acc)]))
    (hsw : swapsWith (.ListComp elt [⟨tg, iter, ifs, 0⟩] scope pos) (some (.Name y py)) spos.line X.env = pure true)
    (hs : ∀ x, foldedSetIterable iter X.env x = pure x := by intro _; rfl) : TSP X (.Assign [.Name y py] (.ListComp elt [⟨tg, iter, ifs, 0⟩] scope pos) spos) ρ μ D := fun ad Hb H σ W N D' g => by
  refine ps_go (ps_setLc hc hN hy hyl hsw pi_self ok pgB ptB peB hs) (lc_main (Q' := fun x H1 => gName i x σ H1 D'.nx) (Fin := fun acc μ2 => (∃ zs : List P, acc = zs.map .sh ∧ D.nx (ρ.set i (some (.sh (.lst zs)))) μ2) ∨ D.nx (ρ.set i (some (.pt μ2.length))) (μ2 ++ [some (.lst acc)])) hjs h W N ?_)
  intro Dl acc μ2 vs ad1 Hb1 H1 ad2 Hb2 H2 s1 s2 W2 h1 h2 h3 h4 r q
  rcases q with ⟨zs, rfl, q⟩ | q
  · obtain ⟨W3, s3⟩ := W2.adopt s2 h1 h2 h3 h4
    exact g.nx _ _ _ _ _ _ q (s1.trans s3) W3 ((N.step (s1.trans s3)).set i (x := .sh (.lst zs)) (Rep.lstL upd_same (RepL.mono (Ex.new h3) (repEs_sh r))))
  · obtain ⟨W3, s3⟩ := W2.adoptC (c := .lst acc) s2 h1 h2 h3 ⟨vs, h4, r⟩
    exact g.nx _ _ _ _ _ _ q (s1.trans s3) W3 ((N.step (s1.trans s3)).set i (x := .pt μ2.length) ⟨Dl, by rw [← W2.len]; simp, rfl⟩)
/-- a cell's list | dict is as good as shared from here on -/
theorem tss_share (j : Nat) {zs : List P} {R : Rho} (hj : μ[j]? = some (some (.lst (zs.map .sh)))) (hR : R.length = ρ.length) (hR2 : ∀ (i : Nat) (x : E), R[i]? = some (some x) → ρ[i]? = some (some x) ∨ (ρ[i]? = some (some (.pt j)) ∧ x = .sh (.lst zs))) (h : TSs X rest R (μ.set j none) D) : TSs X rest ρ μ D := fun ad Hb H σ W N D' g => by
  have hl : j < μ.length := (List.getElem?_eq_some_iff.mp hj).1
  have hla : j < ad.length := by rw [W.len]; exact hl
  obtain ⟨a, ha⟩ : ∃ a, ad[j]? = some a := ⟨_, List.getElem?_eq_getElem hla⟩
  obtain ⟨b1, vs, hv, r⟩ := W.off j a _ ha hj
  have s : Step ad Hb H ad (upd Hb a (.lst vs)) H := ⟨Ex.new b1, ⟨[], by simp⟩, fun _ z => .inl z, fun _ _ _ z => .inl z, fun b o hb e t n => by
    rw [upd_ne (fun z => hb (by rw [z]; exact List.mem_of_getElem? ha))]
    exact n, fun _ _ _ _ z => z⟩
  have sp : ∀ (i : Nat) (b : Addr) (c : Cell), ad[i]? = some b → (μ.set j none)[i]? = some (some c) → b ≠ a ∧ μ[i]? = some (some c) := fun i b c hb hc => by
    by_cases e : j = i
    · subst e
      rw [List.getElem?_set_self hl] at hc
      cases hc
    · rw [List.getElem?_set_ne e] at hc
      refine ⟨fun z => ?_, hc⟩
      subst z
      exact e (W.nd j i b _ c ha hb hj hc)
  refine h ad _ H σ ⟨by rw [List.length_set]; exact W.len, fun b u e => ?_, fun i b c hb hc => ?_, fun i k b c d hi hk hc hd => W.nd i k b c d hi hk (sp i b c hi hc).2 (sp k b d hk hd).2, W.trk⟩ ⟨N.1.trans hR.symm, fun i x hx => ?_⟩ D' (g.after s)
  · by_cases eb : b = a
    · subst eb
      rw [upd_same] at e
      cases e
      exact hv
    · rw [upd_ne eb] at e
      exact W.inc b u e
  · obtain ⟨n, hc2⟩ := sp i b c hb hc
    obtain ⟨h3, h4⟩ := W.off i b c hb hc2
    exact ⟨by rw [upd_ne n]; exact h3, h4.keep rfl fun v x r => RepE.step s r⟩
  · rcases hR2 i x hx with h1 | ⟨h1, rfl⟩
    · obtain ⟨v, h2, h3⟩ := N.2 i x h1
      exact ⟨v, h2, RepE.step s h3⟩
    · obtain ⟨v, h2, b, h3, rfl⟩ := N.2 i _ h1
      rw [ha] at h3
      cases h3
      exact ⟨_, h2, Rep.lstL upd_same (RepL.mono s.ex (repEs_sh r))⟩
/-- loops -/
theorem tsp_for (js : List Nat) (h : TIP X tg iter ρ μ fun items G μ1 => ∃ I : Nat → Rho → Mu → Prop, I 0 ρ μ1 ∧ (∀ i ρ2 μ2, i ≤ items.length → I i ρ2 μ2 → G μ2) ∧
      (∀ i x ρ2 μ2, items[i]? = some x → I i ρ2 μ2 → TGP X tg js x ρ2 μ2 fun ρ3 μ3 => TSs X bodyS ρ3 μ3 { D with nx := I (i + 1), ct := I (i + 1), bk := D.nx }) ∧ ∀ ρ2 μ2, I items.length ρ2 μ2 → D.nx ρ2 μ2)
    (hp : PassesOwn (model X.prog X.w) X.A X.env X.xe) (hc : X.calm = true) (hs : ∀ x, foldedSetIterable iter X.env x = pure x := by intro _; rfl) : TSP X (.For tg iter bodyS [] pos) ρ μ D := fun ad Hb H σ W N D' g => by
  refine ps_go (ps_for hp hc pi_self pg_self pss_self hs) ?_
  refine h ad Hb H σ W N _ fun J items G μ1 ad1 Hb1 H1 ⟨I, i0, hG, turn, done⟩ s1 W1 w => ?_
  have N1 := N.step s1
  let Pv : Nat → L2.St → Hp → Prop := fun i σ' H' => ∃ ρ2 μ2 ad2 Hb2, I i ρ2 μ2 ∧ Step ad1 Hb1 H1 ad2 Hb2 H' ∧ Wd X.K ad2 Hb2 H' μ2 ∧ Env X.K ad2 Hb2 σ' ρ2
  refine ⟨fun i m σ' H' => m = items.length - i ∧ i ≤ items.length ∧ Pv i σ' H', ⟨items.length, rfl, Nat.zero_le _, ρ, μ1, ad1, Hb1, i0, Step.refl _ _ _, W1, N1⟩, ?_⟩
  rintro i m σ' H' ⟨rfl, hi, ρ2, μ2, ad2, Hb2, iI, s2, W2, N2⟩
  by_cases hlt : i < items.length
  · refine .inr ⟨w.goes i ad2 Hb2 H' μ2 hlt s2 W2 (hG i ρ2 μ2 hi iI), Pv (i + 1), fun σ'' H'' p => ⟨items.length - (i + 1), by omega, rfl, hlt, p⟩, fun x H3 y => ?_⟩
    obtain ⟨Hb3, e, s3, W3, he, re⟩ := w.yields i ad2 Hb2 H' μ2 x H3 hlt s2 W2 (hG i ρ2 μ2 hi iI) y
    refine turn i e ρ2 μ2 he iI ad2 Hb3 H3 σ' x W3 (N2.step s3) re _ fun ρ4 μ4 ad4 Hb4 H4 σ4 q4 s4 W4 N4 _ => ?_
    have t4 := (s2.trans s3).trans s4
    have nx : GoesR X.K ad4 Hb4 H4 (I (i + 1)) (Pv (i + 1)) := fun σ5 ρ5 μ5 ad5 Hb5 H5 q5 s5 W5 N5 => ⟨ρ5, μ5, ad5, Hb5, q5, t4.trans s5, W5, N5⟩
    exact q4 ad4 Hb4 H4 σ4 W4 N4 _ ⟨nx, (g.rt.after s1).after t4, (g.nx.after s1).after t4, nx⟩
  · have e : i = items.length := by omega
    subst e
    exact .inl ⟨w.stops ad2 Hb2 H' μ2 s2 W2 (hG _ ρ2 μ2 hi iI), g.nx _ _ _ _ _ _ (done ρ2 μ2 iI) (s1.trans s2) W2 N2⟩
theorem tsp_while (I : Nat → Rho → Mu → Prop) (m : Nat) (h0 : I m ρ μ)
    (turn : ∀ m ρ2 μ2, I m ρ2 μ2 → TTP X c ρ2 μ2 fun d μ3 => if d = true then TSs X bodyS ρ2 μ3 { D with nx := fun ρ4 μ4 => ∃ m', m' < m ∧ I m' ρ4 μ4, ct := fun ρ4 μ4 => ∃ m', m' < m ∧ I m' ρ4 μ4, bk := D.nx } else D.nx ρ2 μ3)
    (hp : PassesOwn (model X.prog X.w) X.A X.env X.xe) : TSP X (.While c bodyS [] pos) ρ μ D := fun ad Hb H σ W N D' g => by
  refine ps_go (ps_while hp pt_self pss_self) ?_
  refine ⟨fun m σ' H' => ∃ ρ2 μ2 ad2 Hb2, I m ρ2 μ2 ∧ Step ad Hb H ad2 Hb2 H' ∧ Wd X.K ad2 Hb2 H' μ2 ∧ Env X.K ad2 Hb2 σ' ρ2, ⟨m, ρ, μ, ad, Hb, h0, Step.refl _ _ _, W, N⟩, ?_⟩
  rintro m σ' H' ⟨ρ2, μ2, ad2, Hb2, iI, s2, W2, N2⟩
  refine turn m ρ2 μ2 iI ad2 Hb2 H' σ' W2 N2 _ fun d μ3 ad3 Hb3 H3 q s3 W3 => ?_
  have t3 := s2.trans s3
  cases d with
  | false => exact g.nx _ _ _ _ _ _ q t3 W3 (N2.step s3)
  | true =>
    rw [if_pos rfl]
    have nx : GoesR X.K ad3 Hb3 H3 (fun ρ4 μ4 => ∃ m', m' < m ∧ I m' ρ4 μ4) (fun σ' H' => ∃ m', m' < m ∧ ∃ ρ2 μ2 ad2 Hb2, I m' ρ2 μ2 ∧ Step ad Hb H ad2 Hb2 H' ∧ Wd X.K ad2 Hb2 H' μ2 ∧ Env X.K ad2 Hb2 σ' ρ2) :=
      fun σ5 ρ5 μ5 ad5 Hb5 H5 ⟨m', l, q5⟩ s5 W5 N5 => ⟨m', l, ρ5, μ5, ad5, Hb5, q5, t3.trans s5, W5, N5⟩
    exact ⟨_, fun _ _ z => z, q ad3 Hb3 H3 σ' W3 (N2.step s3) _ ⟨nx, g.rt.after t3, g.nx.after t3, nx⟩⟩
end

/-! ### defs -/
abbrev PSpec := List E → Mu → (E → Mu → Prop) → Prop
/-- a def's promise by values -/
def spOf (K : PySem.W.Frag) (S : PSpec) : Sp := fun vs H Q _ => ∃ (ad : List Addr) (Hb : Hp) (μ : Mu) (xs : List E) (Q0 : E → Mu → Prop), Wd K ad Hb H μ ∧ RepEs K ad Hb vs xs ∧ S xs μ Q0 ∧ Goes K ad Hb H Q0 Q
/-- room for k calls within; g: nothing that guards against going round is under way -/
structure RoomG (g : Bool) (k : Nat) (A : Around) : Prop where
  room : Room k A
  gd : g = true → A.guards = some []
theorem RoomG.mono {g : Bool} {j k : Nat} {A : Around} (r : RoomG g k A) (h : j ≤ k) : RoomG g j A := ⟨r.room.mono h, r.gd⟩
theorem RoomG.deeper {g : Bool} {k : Nat} {A : Around} (r : RoomG g (k + 1) A) (env : PySem.Env) : RoomG g k (A.deeper env) := ⟨r.room.deeper env, r.gd⟩
theorem RoomG.un {g : Bool} {k : Nat} {A : Around} (r : RoomG g k A) : A.units + 1 < cLine := by
  have := r.room.un
  omega
/-- a def that lets no exception out, where the guards are known (g) -/
structure FnG (g : Bool) (P : Program) (w : World) (K : PySem.W.Frag) (mg : Str → Option Value) (base : Heap) (k : Nat) (f : Addr) (fd : FuncData) (ps : List Str) (sp : Sp) : Prop where
  num : ∀ {vs H Q E}, sp vs H Q E → vs.length = ps.length
  go : ∀ {A outer s H args us vs Q E}, RoomG g k A → Env0 P w K mg base A outer s H → BindsTo s fd args (ps.zip us) → Vals vs us → sp vs H Q E →
    codeAny (model P w) A (.call (.ref f) args) (CR CX0 outer P w H s Q E) s
section
variable {g : Bool} {P : Program} {w : World} {K : PySem.W.Frag} {mg : Str → Option Value} {base : Heap} {j k : Nat} {f : Addr} {fd : FuncData} {ps : List Str} {sp sp' : Sp}
theorem FnG.mono (F : FnG g P w K mg base j f fd ps sp) (h : j ≤ k) : FnG g P w K mg base k f fd ps sp := ⟨F.num, fun r => F.go (r.mono h)⟩
theorem FnG.imp (F : FnG g P w K mg base k f fd ps sp) (h : ∀ vs H Q E, sp' vs H Q E → sp vs H Q E) : FnG g P w K mg base k f fd ps sp' :=
  ⟨fun q => F.num (h _ _ _ _ q), fun r e b v q => F.go r e b v (h _ _ _ _ q)⟩
theorem FnG.up (F : FnG false P w K mg base k f fd ps sp) : FnG g P w K mg base k f fd ps sp := ⟨F.num, fun r => F.go ⟨r.room, fun z => nomatch z⟩⟩
theorem FnG.plain (F : FnG false P w K mg base k f fd ps sp) : FnOk P w K mg base CX0 k f fd ps sp := ⟨fun _ _ _ _ q => F.num q, fun _ _ _ _ _ _ _ _ _ r => F.go ⟨r, fun z => nomatch z⟩⟩
/-- .. by its body -/
theorem fnG_of {x qual : Str} {pa : Arguments} {bd : List Stmt} {sc : Scope} {N : List Str} (F : FunD K x qual pa bd sc [] [] f fd) (Sc : FnScope N ps sc) (num : ∀ vs H Q E, sp vs H Q E → vs.length = ps.length)
    (hb : ∀ (cdv : Value) (A : Around) (outer : List PySem.Env) (s : Shared) (H : Hp) (vs : List V) (Q : VK) (E : XK), RoomG g k (A.deeper (envOfC qual sc s.heap.objs.size f cdv)) → sp vs H Q E →
      TSsV (cxOf CX0 P w K mg base N qual sc f cdv A outer s H E).nox bd { nx := fun _ H' => Q .non H', rt := Q } (L2.start N vs) H) : FnG g P w K mg base (k + 1) f fd ps sp := by
  obtain ⟨oc, od, dV, kV, doc, pm, an, cdv, ct, osl, e, lk, cd, _⟩ := F.ex
  subst e
  refine ⟨num _ _ _ _, @fun A outer s H args us vs Q E r e0 b rv q => ?_⟩
  have low := e0.bs
  have inK : K.In s.heap := e0.mod.kin.keeps fun b o h => (low b o h).1
  have known : ∀ z ∈ ps.zip us, sc.names.lookup z.1 = some .local ∨ sc.names.lookup z.1 = some .cell ∧ ((cellsFrom (s.heap.objs.size + 1) sc.names []).lookup z.1).isSome = true := by
    rintro ⟨n, u⟩ hz
    exact (Sc.par n (List.of_mem_zip hz).1).imp id fun c => ⟨c, PySem.W.cellsFrom_some _ _ _ (.inl c)⟩
  refine codeAny_call_function r.room.depth (inK _ _ lk) rfl Sc.co Sc.gen rfl (PySem.W.codeRec_of inK cd) (b _ _ _ _ (wpAny_newFunctionEnv_cells Sc.kind known ?_))
  rintro env rfl s1 into
  refine ⟨Heap.NoLimit.keeps (e0.mod.nolimit.keeps fun b o h => (low b o h).1) into.toInCall.keep, codeAny_func ?_⟩
  have I := inv_start (CX := CX0) (N := N) (E := E) Sc r.room.hd e0 (num _ _ _ _ q) rv into
  refine wpAny_mono ((PSs.nox pss_self).run [] s1 _ _ _ I (hb cdv A outer s H vs Q E (r.deeper _) q)) (fun fl s2 h => ?_) fun _ _ h => h
  cases fl with
  | brk => exact h.elim fun _ h => h.elim fun _ h => False.elim h.2
  | cont => exact h.elim fun _ h => h.elim fun _ h => False.elim h.2
  | next =>
    obtain ⟨_, H2, J, q2⟩ := h
    exact ⟨.non, H2, J.os, J.bare, J.base, J.hok, rfl, q2⟩
  | ret u =>
    obtain ⟨v, _, H2, J, rv2, q2⟩ := h
    exact ⟨v, H2, J.os, J.bare, J.base, J.hok, rv2, q2⟩
end
/-- a call of such a def -/
theorem pe_callG {g : Bool} {X : Cx} {k : Nat} {f : Addr} {fd : FuncData} {ps : List Str} {sp : Sp} {x : Str} {p pos : Pos} {e : Expr} {es : List Expr} {t : TA} {E : XK} (F : FnG g X.prog X.w X.K X.mg X.base k f fd ps sp) (r : RoomG g k X.A) (hg : Gl X x) (hm : X.mg x = some (.ref f))
    (hk : PySem.W.keepIn X.K (.ref f) = true) (hb : Binds X.K fd ps []) (ha : PA X (e :: es) t) (hdb : (x == ("__debug__" : Str)) = false)
    (he : starEach (e :: es) X.env = (false, eval e X.env) :: starEach es X.env) (hpl : (backTo pos (starEach es X.env)).any (·.1) = false) : PE X (.Call (.Name x p) (e :: es) [] pos) (tCall sp [] E t) := .mk fun pins s σ H Q I h => by
  refine wpAny_Call_Name_kw (ld_glob I hg hm (PySem.W.callWith_K (h₀ := X.base) I.ok.mod.kin hk (thn (ha.run pos pins s σ H _ I h) ?_) he hpl) hdb)
  rintro us s1 ⟨vs, H1, I1, rv, q⟩
  rw [List.append_nil] at q
  have hl : us.length = ps.length := rv.length.symm.trans (F.num q)
  have b1 := hb s1 us I1.kIn (by rw [List.append_nil]; exact hl)
  rw [List.append_nil] at b1
  refine ⟨I1.kIn, wpAny_call (codeAny_mono (F.go r I1.env0 b1 rv q) fun res s2 z => ?_)⟩
  rcases res with _ | fl
  · exact z.elim
  · cases fl with
    | ret u => exact I1.after z
    | _ => exact z.elim
/-- the def named x keeps S, at level k -/
structure Ct (g : Bool) (P : Program) (w : World) (K : PySem.W.Frag) (mg : Str → Option Value) (base : Heap) (k : Nat) (x : Str) (S : PSpec) : Prop where
  ok : ∃ (f : Addr) (fd : FuncData) (ps : List Str), mg x = some (.ref f) ∧ PySem.W.keepIn K (.ref f) = true ∧ Binds K fd ps [] ∧ FnG g P w K mg base k f fd ps (spOf K S)
section
variable {g : Bool} {P : Program} {w : World} {K : PySem.W.Frag} {mg : Str → Option Value} {base : Heap} {j k : Nat} {x : Str} {S S' : PSpec}
theorem Ct.mono (c : Ct g P w K mg base j x S) (h : j ≤ k) : Ct g P w K mg base k x S := by
  obtain ⟨f, fd, ps, h1, h2, h3, h4⟩ := c.ok
  exact ⟨f, fd, ps, h1, h2, h3, h4.mono h⟩
theorem Ct.imp (c : Ct g P w K mg base k x S) (h : ∀ xs μ Q, S' xs μ Q → S xs μ Q) : Ct g P w K mg base k x S' := by
  obtain ⟨f, fd, ps, h1, h2, h3, h4⟩ := c.ok
  exact ⟨f, fd, ps, h1, h2, h3, h4.imp fun vs H Q E ⟨ad, Hb, μ, xs, Q0, a, b, d, e⟩ => ⟨ad, Hb, μ, xs, Q0, a, b, h _ _ _ d, e⟩⟩
theorem Ct.up (c : Ct false P w K mg base k x S) : Ct g P w K mg base k x S := by
  obtain ⟨f, fd, ps, h1, h2, h3, h4⟩ := c.ok
  exact ⟨f, fd, ps, h1, h2, h3, h4.up⟩
end
section
variable {g : Bool} {X : Cx} {e : Expr} {es : List Expr} {ρ : Rho} {μ : Mu} {Q : E → Mu → Prop} {pos p2 : Pos} {k : Nat} {x : Str} {S : PSpec}
theorem tep_call (c : Ct g X.prog X.w X.K X.mg X.base k x S) (hr : RoomG g k X.A) (h : TAP X (e :: es) ρ μ fun xs μ1 => S xs μ1 Q) (hg : Gl X x := by rfl) (hdb : (x == ("__debug__" : Str)) = false := by decide)
    (he : starEach (e :: es) X.env = (false, eval e X.env) :: starEach es X.env := by rfl) (hpl : (backTo pos (starEach es X.env)).any (·.1) = false := by rfl) : TEP X (.Call (.Name x p2) (e :: es) [] pos) ρ μ Q := fun ad Hb H σ W N Q' q => by
  obtain ⟨f, fd, ps, h1, h2, h3, h4⟩ := c.ok
  refine pe_go (pe_callG (E := E0) h4 hr hg h1 h2 h3 pa_self hdb he hpl) (h ad Hb H σ W N _ fun vs xs μ1 ad1 Hb1 H1 q1 s W1 r => ?_)
  rw [List.append_nil]
  exact ⟨ad1, Hb1, μ1, xs, Q, W1, r, q1, q.after s⟩
end
/-- the slots at the entry -/
def startR (N : List Str) (xs : List E) : Rho := xs.map some ++ List.replicate (N.length - xs.length) none
theorem start_env {K : PySem.W.Frag} {ad : List Addr} {Hb : Hp} {N : List Str} {vs : List V} {xs : List E} (r : RepEs K ad Hb vs xs) : Env K ad Hb (L2.start N vs) (startR N xs) := by
  have hl := r.length
  refine ⟨by unfold L2.start startR; simp [hl], fun i x h => ?_⟩
  unfold startR at h
  unfold L2.start
  by_cases hi : i < xs.length
  · rw [List.getElem?_append_left (by simpa using hi), List.getElem?_map] at h
    cases e : xs[i]? with
    | none => rw [e] at h; cases h
    | some z =>
      rw [e] at h
      cases h
      obtain ⟨v, h1, h2⟩ := pd_left r i x e
      exact ⟨v, by rw [List.getElem?_append_left (by simp; omega), List.getElem?_map, h1]; rfl, h2⟩
  · rw [List.getElem?_append_right (by simpa using hi), List.getElem?_replicate] at h
    split at h <;> cases h
section
variable {P : Program} {w : World} {K : PySem.W.Frag} {mg : Str → Option Value} {base : Heap}
/-- the context of a def's body -/
abbrev cxB (P : Program) (w : World) (K : PySem.W.Frag) (mg : Str → Option Value) (base : Heap) (N : List Str) (qual : Str) (st : Stmt) (f : Addr) (cdv : Value) (A : Around) (outer : List PySem.Env) (s : Shared) (H : Hp) (E : XK) : Cx :=
  (cxOf CX0 P w K mg base N qual (defScope st) f cdv A outer s H E).nox
/-- how a def of the text binds what it is given -/
abbrev BindsBy (x qual : Str) (st : Stmt) (ps : List Str) : Prop := ∀ (kV doc pm : Value) (an : Option Addr) (cdv ct : Value) (us : List Value), us.length = ps.length → bindArgs (PySem.W.fnOf x qual (defArgs st) (defBody st) (defScope st) .none kV doc pm an cdv ct) ⟨us, []⟩ = pure (ps.zip us)
/-- a def of the text as it stands behind the top -/
abbrev FnP (K : PySem.W.Frag) (x qual : Str) (st : Stmt) (f : Addr) (fd : FuncData) : Prop := FunD K x qual (defArgs st) (defBody st) (defScope st) [] [] f fd
theorem FnP.binds {x qual : Str} {st : Stmt} {f : Addr} {fd : FuncData} {ps : List Str} (F : FnP K x qual st f fd) (hb : BindsBy x qual st ps) : Binds K fd ps [] := by
  obtain ⟨oc, od, dV, kV, doc, pm, an, cdv, ct, osl, e, _, _, d, _⟩ := F.ex
  obtain rfl : dV = .none := d.elim (fun z => z.2) fun z => absurd rfl z.1
  subst e
  exact Binds.all fun us hl => hb kV doc pm an cdv ct us hl
/-- a def of the text: what its body is to show -/
theorem ct_of {g : Bool} {x qual : Str} {st : Stmt} {f : Addr} {fd : FuncData} {N ps : List Str} {k : Nat} {S : PSpec} (F : FnP K x qual st f fd) (hm : mg x = some (.ref f)) (Sc : FnScope N ps (defScope st)) (hb : BindsBy x qual st ps)
    (len : ∀ xs μ Q, S xs μ Q → xs.length = ps.length)
    (body : ∀ (cdv : Value) (A : Around) (outer : List PySem.Env) (s : Shared) (H : Hp) (E : XK), RoomG g k (A.deeper (envOfC qual (defScope st) s.heap.objs.size f cdv)) → ∀ xs μ Q, S xs μ Q →
      TSs (cxB P w K mg base N qual st f cdv A outer s H E) (defBody st) (startR N xs) μ { nx := fun _ μ' => Q (.sh .non) μ', rt := Q }) : Ct g P w K mg base (k + 1) x S := by
  refine ⟨f, fd, ps, hm, F.kp, F.binds hb, fnG_of F Sc (fun vs H Q E ⟨ad, Hb, μ, xs, Q0, W, r, q, _⟩ => ?_) fun cdv A outer s H vs Q E hr ⟨ad, Hb, μ, xs, Q0, W, r, q, g⟩ => ?_⟩
  · rw [r.length]
    exact len _ _ _ q
  · refine body cdv A outer s H E hr xs μ Q0 q ad Hb H _ W (start_env r) _ ⟨fun σ' ρ' μ' ad' Hb' H' q s W' N' => g _ (.sh .non) _ _ _ _ q s W' .non, g, fun _ _ _ _ _ _ z => z.elim, fun _ _ _ _ _ _ z => z.elim⟩

/-! ### a pure def: proved with no cell around, used with any -/
/-- what a cell may be taken for, when nothing changes it any more -/
inductive Frz (μ : Mu) : E → PV.P → Prop
  | sh (x : PV.P) : Frz μ (.sh x) x
  | lst {j : Nat} {zs : List E} {xs : List PV.P} (h : μ[j]? = some (some (.lst zs))) (l : zs.length = xs.length) (e : ∀ (i : Nat) (z : E) (x : PV.P), zs[i]? = some z → xs[i]? = some x → Frz μ z x) : Frz μ (.pt j) (.lst xs)
  | dT {j : Nat} {zs : List (List Key × E)} {xs : List (List Key × PV.P)} (h : μ[j]? = some (some (.dT zs))) (l : zs.map (·.1) = xs.map (·.1)) (e : ∀ (i : Nat) (z : List Key × E) (x : List Key × PV.P), zs[i]? = some z → xs[i]? = some x → Frz μ z.2 x.2) : Frz μ (.pt j) (.dT xs)
  | dK {j : Nat} {zs : List (Key × E)} {xs : List (Key × PV.P)} (h : μ[j]? = some (some (.dK zs))) (l : zs.map (·.1) = xs.map (·.1)) (e : ∀ (i : Nat) (z : Key × E) (x : Key × PV.P), zs[i]? = some z → xs[i]? = some x → Frz μ z.2 x.2) : Frz μ (.pt j) (.dK xs)
  | obj {j : Nat} {C : Addr} {zs : List (Str × E)} {xs : List (Str × PV.P)} (h : μ[j]? = some (some (.obj C zs))) (l : zs.map (·.1) = xs.map (·.1)) (e : ∀ (i : Nat) (z : Str × E) (x : Str × PV.P), zs[i]? = some z → xs[i]? = some x → Frz μ z.2 x.2) : Frz μ (.pt j) (.obj C xs)
theorem Frz.lstS {μ : Mu} {j : Nat} {xs : List PV.P} (h : μ[j]? = some (some (.lst (xs.map .sh)))) : Frz μ (.pt j) (.lst xs) := .lst h (by simp) fun i z x h1 h2 => by
  rw [List.getElem?_map, h2] at h1
  cases h1
  exact .sh x
theorem Frz.dTS {μ : Mu} {j : Nat} {xs : List (List Key × PV.P)} (h : μ[j]? = some (some (.dT (xs.map fun p => (p.1, .sh p.2))))) : Frz μ (.pt j) (.dT xs) := .dT h (by simp) fun i z x h1 h2 => by
  rw [List.getElem?_map, h2] at h1
  cases h1
  exact .sh x.2
/-- all living cells join the base -/
theorem freeze_off {ad : List Addr} {Hb H : Hp} {μ : Mu} (W : Wd K ad Hb H μ) : ∃ Hb2, Ex Hb Hb2 ∧ Wd K [] Hb2 H [] ∧ (∀ a, (¬ ∃ (j : Nat) (c : Cell), ad[j]? = some a ∧ μ[j]? = some (some c)) → Hb2 a = Hb a) ∧ ∀ v x y, RepE K ad Hb v x → Frz μ x y → Rep K Hb2 v y := by
  classical
  let live : Addr → Prop := fun a => ∃ (j : Nat) (c : Cell), ad[j]? = some a ∧ μ[j]? = some (some c)
  let Hb2 : Hp := fun a => if live a then H a else Hb a
  have ex : Ex Hb Hb2 := fun a o h => by
    have n : ¬ live a := fun ⟨j, c, h1, h2⟩ => by
      rw [(W.off j a c h1 h2).1] at h
      cases h
    show (if live a then H a else Hb a) = some o
    rw [if_neg n]
    exact h
  have at_ : ∀ {j : Nat} {a : Addr} {c : Cell}, ad[j]? = some a → μ[j]? = some (some c) → Hb2 a = H a := fun {j a c} h1 h2 => by
    show (if live a then H a else Hb a) = H a
    rw [if_pos ⟨j, c, h1, h2⟩]
  refine ⟨Hb2, ex, ⟨rfl, fun a u h => ?_, fun j a c h => by simp at h, fun i j a c d h => by simp at h, fun a h => by simp at h⟩, fun a h => ?_, fun v x y r f => ?_⟩
  · by_cases n : live a
    · have h2 : (if live a then H a else Hb a) = some u := h
      rw [if_pos n] at h2
      exact Std.of h2
    · have h2 : (if live a then H a else Hb a) = some u := h
      rw [if_neg n] at h2
      exact W.inc a u h2
  · show (if live a then H a else Hb a) = Hb a
    rw [if_neg h]
  · induction f generalizing v with
    | sh x => exact Rep.mono ex r
    | @lst j zs xs h l e ih =>
      obtain ⟨a, ha, rfl⟩ := r
      obtain ⟨_, vs, hv, r⟩ := W.off j a _ ha h
      refine .lst ((at_ ha h).trans hv) (r.length.trans l) fun i v x h1 h2 => ?_
      obtain ⟨z, h3, h4⟩ := pd_right r i v h1
      exact ih i z x h3 h2 v h4
    | @dT j zs xs h l e ih =>
      obtain ⟨a, ha, rfl⟩ := r
      obtain ⟨_, vs, hv, r⟩ := W.off j a _ ha h
      have hk : vs.map (·.1) = zs.map (·.1) := List.ext_getElem? fun i => by
        rw [List.getElem?_map, List.getElem?_map]
        cases e1 : vs[i]? with
        | none =>
          rw [show zs[i]? = none from List.getElem?_eq_none (by rw [← r.length]; exact List.getElem?_eq_none_iff.mp e1)]
          rfl
        | some v =>
          obtain ⟨z, h3, h4⟩ := pd_right r i v e1
          rw [h3]
          exact congrArg some h4.1
      refine .dT ((at_ ha h).trans hv) (hk.trans l) fun i v x h1 h2 => ?_
      obtain ⟨z, h3, h4⟩ := pd_right r i v h1
      exact ih i z x h3 h2 v.2 h4.2
    | @dK j zs xs h l e ih =>
      obtain ⟨a, ha, rfl⟩ := r
      obtain ⟨_, vs, hv, r⟩ := W.off j a _ ha h
      have hk : vs.map (·.1) = zs.map (·.1) := List.ext_getElem? fun i => by
        rw [List.getElem?_map, List.getElem?_map]
        cases e1 : vs[i]? with
        | none =>
          rw [show zs[i]? = none from List.getElem?_eq_none (by rw [← r.length]; exact List.getElem?_eq_none_iff.mp e1)]
          rfl
        | some v =>
          obtain ⟨z, h3, h4⟩ := pd_right r i v e1
          rw [h3]
          exact congrArg some h4.1
      refine .dK ((at_ ha h).trans hv) (hk.trans l) fun i v x h1 h2 => ?_
      obtain ⟨z, h3, h4⟩ := pd_right r i v h1
      exact ih i z x h3 h2 v.2 h4.2
    | @obj j C zs xs h l e ih =>
      obtain ⟨a, ha, rfl⟩ := r
      obtain ⟨_, dx, vs, hv, r⟩ := W.off j a _ ha h
      have hk : vs.map (·.1) = zs.map (·.1) := List.ext_getElem? fun i => by
        rw [List.getElem?_map, List.getElem?_map]
        cases e1 : vs[i]? with
        | none =>
          rw [show zs[i]? = none from List.getElem?_eq_none (by rw [← r.length]; exact List.getElem?_eq_none_iff.mp e1)]
          rfl
        | some v =>
          obtain ⟨z, h3, h4⟩ := pd_right r i v e1
          rw [h3]
          exact congrArg some h4.1
      refine .obj ((at_ ha h).trans hv) (hk.trans l) fun i v x h1 h2 => ?_
      obtain ⟨z, h3, h4⟩ := pd_right r i v h1
      exact ih i z x h3 h2 v.2 h4.2
theorem freeze_all {ad : List Addr} {Hb H : Hp} {μ : Mu} (W : Wd K ad Hb H μ) : ∃ Hb2, Ex Hb Hb2 ∧ Wd K [] Hb2 H [] ∧ (∀ a, a ∉ ad → Hb2 a = Hb a) ∧ ∀ v x y, RepE K ad Hb v x → Frz μ x y → Rep K Hb2 v y := by
  obtain ⟨Hb2, h1, h2, h3, h4⟩ := freeze_off W
  exact ⟨Hb2, h1, h2, fun a h => h3 a fun ⟨j, c, e, _⟩ => h (List.mem_of_getElem? e), h4⟩
/-- cells that a run left alone -/
theorem frame_back {ad : List Addr} {Hb H : Hp} {μ : Mu} {Hb2 H2 : Hp} {μ2 : Mu} (W : Wd K ad Hb H μ) (s : Step [] Hb H [] Hb2 H2) (W2 : Wd K [] Hb2 H2 μ2) : Wd K ad Hb2 H2 μ ∧ Step ad Hb H ad Hb2 H2 := by
  refine ⟨⟨W.len, W2.inc, fun j a c ha hc => ?_, W.nd, fun a ha => ?_⟩, ⟨s.ex, ⟨[], by simp⟩, fun _ z => .inl z, fun a o _ e => s.fr a o (by simp) e, fun a o _ e t n => s.fgn a o (by simp) e t n, s.bs⟩⟩
  · obtain ⟨h1, h2⟩ := W.off j a c ha hc
    obtain ⟨o, h3, h4⟩ := h2.some
    exact ⟨s.fgn a o (by simp) h3 h4 h1, h2.keep ((s.fr0 (by simp) h1 h3).trans h3.symm) fun v x r => repE_mono s.ex ⟨[], by simp⟩ r⟩
  · cases e : H a with
    | none => exact absurd e (W.trk a ha)
    | some o => exact s.fr1 (by simp) e
/-- a function of values: Fr tells its result -/
def SF (Fr : List PV.P → PV.P → Prop) : PSpec := fun xs μ Q => ∃ ps y, xs = ps.map .sh ∧ Fr ps y ∧ Q (.sh y) μ
theorem ct_pure {g : Bool} {x qual : Str} {st : Stmt} {f : Addr} {fd : FuncData} {N ps : List Str} {k : Nat} {Fr : List PV.P → PV.P → Prop} (F : FnP K x qual st f fd) (hm : mg x = some (.ref f)) (Sc : FnScope N ps (defScope st))
    (hb : BindsBy x qual st ps)
    (len : ∀ zs y, Fr zs y → zs.length = ps.length)
    (body : ∀ (cdv : Value) (A : Around) (outer : List PySem.Env) (s : Shared) (H : Hp) (E : XK), RoomG g k (A.deeper (envOfC qual (defScope st) s.heap.objs.size f cdv)) → ∀ zs y, Fr zs y →
      TSs (cxB P w K mg base N qual st f cdv A outer s H E) (defBody st) (startR N (zs.map .sh)) [] { nx := fun _ _ => y = .non, rt := fun z μ' => Frz μ' z y }) : Ct g P w K mg base (k + 1) x (SF Fr) := by
  refine ⟨f, fd, ps, hm, F.kp, F.binds hb, fnG_of F Sc (fun vs H Q E ⟨ad, Hb, μ, xs, Q0, W, r, ⟨zs, y, e, q, _⟩, _⟩ => ?_) fun cdv A outer s H vs Q E hr ⟨ad, Hb, μ, xs, Q0, W, r, ⟨zs, y, e, hF, q⟩, g⟩ => ?_⟩
  · subst e
    rw [r.length, List.length_map]
    exact len _ _ q
  · subst e
    have W0 : Wd K [] Hb H [] := ⟨rfl, W.inc, fun j a c h => by simp at h, fun i j a c d h => by simp at h, fun a h => by simp at h⟩
    have fin : ∀ (v : V) (z : PV.E) (μ' : Mu) (ad' : List Addr) (Hb' H' : Hp), Frz μ' z y → Step [] Hb H ad' Hb' H' → Wd K ad' Hb' H' μ' → RepE K ad' Hb' v z → Q v H' := fun v z μ' ad' Hb' H' fz s' W' r' => by
      obtain ⟨Hb2, ex, W2, off, k2⟩ := freeze_all W'
      have s2 : Step [] Hb H [] Hb2 H' := ⟨s'.ex.trans ex, ⟨[], rfl⟩, fun _ z => .inl z, fun a o _ e => s'.fr a o (by simp) e, fun a o _ e t n => by
        rw [off a fun z => by
          rcases s'.new a z with z | z
          · simp at z
          · rw [e] at z; cases z]
        exact s'.fgn a o (by simp) e t n, s'.bs⟩
      obtain ⟨W3, s3⟩ := frame_back W s2 W2
      exact g v (.sh y) μ ad Hb2 H' q s3 W3 (k2 v z y r' fz)
    refine body cdv A outer s H E hr zs y hF [] Hb H _ W0 (start_env (repEs_of (repEs_sh r))) _ ⟨fun σ' ρ' μ' ad' Hb' H' q1 s1 W1 N1 => ?_, fun v z μ' ad' Hb' H' q1 s1 W1 r1 => fin v z μ' ad' Hb' H' q1 s1 W1 r1, fun _ _ _ _ _ _ z => z.elim, fun _ _ _ _ _ _ z => z.elim⟩
    exact fin .non (.sh .non) μ' ad' Hb' H' (by rw [show y = .non from q1]; exact .sh _) s1 W1 .non
end
section
variable {X : Cx} {e : Expr} {es : List Expr} {ρ : Rho} {μ : Mu} {pos p2 : Pos} {k : Nat} {x : Str} {Fr : List P → P → Prop}
theorem ev_call {g : Bool} (c : Ct g X.prog X.w X.K X.mg X.base k x (SF Fr)) (hr : RoomG g k X.A) {zs : List P} {y : P} (h : EAs X (e :: es) ρ μ zs) (hF : Fr zs y) (hg : Gl X x := by rfl) (hdb : (x == ("__debug__" : Str)) = false := by decide)
    (he : starEach (e :: es) X.env = (false, eval e X.env) :: starEach es X.env := by rfl) (hpl : (backTo pos (starEach es X.env)).any (·.1) = false := by rfl) : EV X (.Call (.Name x p2) (e :: es) [] pos) ρ μ (.sh y) := fun Q q => tep_call c hr (h _ ⟨zs, y, rfl, hF, q⟩) hg hdb he hpl
end
end PV

/-! isinstance, methods of lists, dicts, stores. -/
namespace PV
open PySem PySem.Spec PyProof.Rows L2

/-! ### isinstance -/
/-- as TyX, a locked dict of tuple keys too -/
def TyZ (K : PySem.W.Frag) (H : Hp) (x : V) (t : Value) : Prop := TyX K H x t ∨ ∃ a o kvs, x = .ref a ∧ H a = some (.frz o (.dT kvs)) ∧ t = .type "dict"
theorem kit_z {X : Cx} {pins : List (Addr × Obj)} {σ : L2.St} {H : Hp} {s : Shared} {x : V} {u t : Value} (I : Inv X pins σ H s) (rx : RelV x u) (ty : TyZ X.K H x t) : ∃ P : Heap → Prop, PySem.W.KitX X.K u t P ∧ P s.heap ∧ u ≠ .builtin "__main__.__loader__#opaque" := by
  rcases ty with ty | ⟨a, o, kvs, rfl, e, rfl⟩
  · exact kit_of I rx ty
  · cases (show u = Value.ref a from rx)
    obtain ⟨_, _, _, xs, _, o, es, ep, h1, h2, _⟩ := (show ObjOk X.prog X.w H s.heap a (.frz o (.dT kvs)) from I.hok a _ e)
    exact ⟨_, PySem.W.kitx_dict, ⟨o, h1, h2.1⟩, fun z => nomatch z⟩
def rIz (K : PySem.W.Frag) : List V → Hp → VK → Prop := fun xs H Q => ∃ (x : V) (c : String) (t : Value) (b : Bool), xs = [x, .ty c] ∧ TyZ K H x t ∧ PySem.W.kitOne K t (.type c) = some b ∧ Q (.bl b) H
def rIzT (K : PySem.W.Frag) : List V → Hp → VK → Prop := fun xs H Q => ∃ (x : V) (tp : Addr) (cs : List String) (t : Value) (b : Bool), xs = [x, .ref tp] ∧ H tp = some (.tup (cs.map V.ty)) ∧ TyZ K H x t ∧ PySem.W.kitAny K t (cs.map Value.type) = some b ∧ Q (.bl b) H
theorem call_iz {X : Cx} : CallR X (.builtin "isinstance") (rIz X.K) := by
  intro pins s σ H xs us Q I r h
  obtain ⟨x, c, t, b, rfl, ty, e, q⟩ := h
  obtain ⟨u1, u2, rfl, r1, r2⟩ := vals2 r
  obtain ⟨P, Z, p, hx⟩ := kit_z I r1 ty
  obtain rfl : u2 = .type c := r2
  exact PySem.W.kia_one Z I.kIn p e hx fun tk => ⟨.bl b, H, I.tok tk, rfl, q⟩
theorem vals_ty : ∀ {cs : List String} {its : List Value}, Vals (cs.map V.ty) its → its = cs.map Value.type
  | [], _, .nil => rfl
  | c :: cs, _, .cons a b => by
    obtain rfl : _ = Value.type c := a
    exact congrArg _ (vals_ty b)
theorem repl_ty {K : PySem.W.Frag} {H : Hp} : ∀ {ws : List V} {cs : List String}, RepL K H ws (cs.map P.ty) → ws = cs.map V.ty
  | _, [], .nil => rfl
  | _, c :: cs, .cons a b => by
    cases a
    exact congrArg _ (repl_ty b)
theorem call_izT {X : Cx} : CallR X (.builtin "isinstance") (rIzT X.K) := by
  intro pins s σ H xs us Q I r h
  obtain ⟨x, tp, cs, t, b, rfl, hT, ty, e, q⟩ := h
  obtain ⟨u1, u2, rfl, r1, r2⟩ := vals2 r
  obtain rfl : u2 = .ref tp := r2
  obtain ⟨P, Z, p, hx⟩ := kit_z I r1 ty
  obtain ⟨_, its, rv, o, h1, h2, n, h3⟩ := (show ObjOk X.prog X.w H s.heap tp (.tup (cs.map V.ty)) from I.hok tp _ hT)
  obtain rfl := vals_ty rv
  obtain ⟨oc, od, dt, sl⟩ := o
  simp only at h2 h3
  subst h2 h3
  exact PySem.W.kia_tup Z I.kIn p h1 e hx fun tk => ⟨.bl b, H, I.tok tk, rfl, q⟩
/-- a value's built-in type -/
def tyP : P → Option String
  | .non => some "NoneType"
  | .bl _ => some "bool"
  | .int _ => some "int"
  | .str _ => some "str"
  | .lst _ => some "list"
  | .tup _ => some "tuple"
  | .dT _ => some "dict"
  | .dK _ => some "dict"
  | _ => none
def isaB (t c : String) : Bool := t == c || (t == "bool" && c == "int")
theorem tyZ_of {K : PySem.W.Frag} {ad : List Addr} {Hb H : Hp} {μ : Mu} (W : Wd K ad Hb H μ) {v : V} {x : P} (r : Rep K Hb v x) {T : String} (h : tyP x = some T) : TyZ K H v (.type T) := by
  cases r with
  | non => cases h; exact .inl (.base .non)
  | bl b => cases h; exact .inl (.base (.bl b))
  | int b => cases h; exact .inl (.base (.int b))
  | str b => cases h; exact .inl (.base (.str b))
  | ty n => cases h
  | fn n => cases h
  | scr => cases h
  | obj => cases h
  | lst e => cases h; exact .inl (.base (.lst (W.inc _ _ e)))
  | tup e => cases h; exact .inl (.base (.tup (W.inc _ _ e)))
  | dT e =>
    cases h
    rcases W.inc _ _ e with z | ⟨o, z⟩
    · exact .inl (.base (.dT z))
    · exact .inr ⟨_, o, _, rfl, z, rfl⟩
  | dK e =>
    cases h
    rcases W.inc _ _ e with z | ⟨o, z⟩
    · exact .inl (.base (.dK z))
    · exact .inl (.fDict z)
section
variable {X : Cx} {a b c e o : Expr} {es rest : List Expr} {ρ : Rho} {μ : Mu} {Q : E → Mu → Prop} {pos apos cpos p2 : Pos} {x y z : E} {xs ys : List P}
/-- isinstance(e, T) -/
theorem ev_isi {x : P} {T : String} {C : String} {r : Bool} (hm : X.mg "isinstance" = none) (h1 : EV X a ρ μ (.sh x)) (h2 : EV X b ρ μ (.sh (.ty C))) (ht : tyP x = some T) (hk : PySem.W.kitOne X.K (.type T) (.type C) = some r) (hg : Gl X "isinstance" := by rfl)
    (hs : starEach [a, b] X.env = (false, eval a X.env) :: starEach [b] X.env := by rfl) (hs2 : starEach [b] X.env = (false, eval b X.env) :: starEach [] X.env := by rfl) : EV X (.Call (.Name "isinstance" p2) [a, b] [] pos) ρ μ (.sh (.bl r)) :=
  ev_callB call_iz hg hm bo_isinstance (ea_cons h1 (ea_cons h2 ea_nil hs2) hs) (fun Q q ad Hb H vs W r0 Q' g => by
    obtain ⟨v, w, rfl, r1, r2⟩ := vals2E r0
    cases r2
    exact ⟨v, C, .type T, r, rfl, tyZ_of W r1 ht, hk, g.now W (x := .sh (.bl r)) (.bl r) q⟩) (by decide) (by decide) hs (by rw [hs2]; rfl)
/-- isinstance(e, (T1, ..)) -/
theorem ev_isiT {x : P} {T : String} {cs : List String} {r : Bool} (hm : X.mg "isinstance" = none) (h1 : EV X a ρ μ (.sh x)) (h2 : EV X b ρ μ (.sh (.tup (cs.map .ty)))) (ht : tyP x = some T) (hk : PySem.W.kitAny X.K (.type T) (cs.map Value.type) = some r) (hg : Gl X "isinstance" := by rfl)
    (hs : starEach [a, b] X.env = (false, eval a X.env) :: starEach [b] X.env := by rfl) (hs2 : starEach [b] X.env = (false, eval b X.env) :: starEach [] X.env := by rfl) : EV X (.Call (.Name "isinstance" p2) [a, b] [] pos) ρ μ (.sh (.bl r)) :=
  ev_callB call_izT hg hm bo_isinstance (ea_cons h1 (ea_cons h2 ea_nil hs2) hs) (fun Q q ad Hb H vs W r0 Q' g => by
    obtain ⟨v, w, rfl, r1, r2⟩ := vals2E r0
    obtain ⟨tp, ws, rfl, hT, r2⟩ := Rep.tup_inv r2
    obtain rfl := repl_ty r2
    exact ⟨v, tp, cs, .type T, r, rfl, W.tup hT, tyZ_of W r1 ht, hk, g.now W (x := .sh (.bl r)) (.bl r) q⟩) (by decide) (by decide) hs (by rw [hs2]; rfl)

/-! ### a list, unpacked -/
theorem tgp_unl {js : List Nat} {k n : Nat} {R : Rho → Mu → Prop} (hc : X.calm = true) (h : TGsP X es js (xs.map .sh) ρ μ R) (hl : xs.length = n)
    (hn : (assignEach es X.env).length = n := by rfl) (hst : (assignEach es X.env).findIdx? (·.1) = none := by rfl) : TGP X (.Tuple es k pos) js (.sh (.lst xs)) ρ μ R := fun ad Hb H σ v W N r Q' g => by
  obtain ⟨a, vs, rfl, hq, r⟩ := Rep.lst_inv r
  exact pg_go (pg_unl hc pgs_self hn hst) ⟨a, vs, rfl, W.sqL hq, by rw [r.length]; exact hl, h ad Hb H σ vs W N (repEs_of r) Q' g⟩

/-! ### methods of lists -/
def tyE (μ : Mu) (T : String) : E → Prop
  | .pt j => (T = "list" ∧ ∃ zs, μ[j]? = some (some (.lst zs))) ∨ (T = "dict" ∧ ((∃ zs, μ[j]? = some (some (.dT zs))) ∨ ∃ zs, μ[j]? = some (some (.dK zs))))
  | .sh (.lst _) => T = "list"
  | .sh (.str _) => T = "str"
  | _ => False
theorem tyE_v {K : PySem.W.Frag} {ad : List Addr} {Hb H : Hp} {T : String} {v : V} (W : Wd K ad Hb H μ) (r : RepE K ad Hb v x) (t : tyE μ T x) : tyV K T v H := by
  cases x with
  | pt j =>
    obtain ⟨a, ha, rfl⟩ := r
    rcases t with ⟨rfl, zs, hj⟩ | ⟨rfl, ⟨zs, hj⟩ | ⟨zs, hj⟩⟩
    · obtain ⟨_, vs, hv, _⟩ := W.off j a _ ha hj
      exact .inl ⟨rfl, vs, .inl (.inl hv)⟩
    · obtain ⟨_, vs, hv, _⟩ := W.off j a _ ha hj
      exact .inr (.inr (.inl ⟨rfl, .inr ⟨vs, hv⟩⟩))
    · obtain ⟨_, vs, hv, _⟩ := W.off j a _ ha hj
      exact .inr (.inr (.inl ⟨rfl, .inl ⟨vs, hv⟩⟩))
  | sh x =>
    cases x with
    | lst xs =>
      obtain ⟨a, vs, rfl, hq, _⟩ := Rep.lst_inv r
      exact .inl ⟨t, vs, W.sqL hq⟩
    | str s =>
      obtain rfl := Rep.str_inv r
      exact t
    | _ => exact t.elim
section
variable {name : Str} {T id : String} {r : V → List V → Hp → VK → Prop}
theorem tep_bm (pa : PlainAttrs T) (slot : Slot T name id) (hty : typeOf (.builtin id) = pure (.type "method_descriptor")) (hm : MtR X id r) (h : TEP X o ρ μ fun x μ1 => tyE μ1 T x ∧ TAP X (e :: es) ρ μ1 fun zs μ2 => VM X.K r x zs μ2 Q)
    (hbase : attributeBase o name X.env (eval o X.env) = eval o X.env := by rfl)
    (hfew : ((backTo cpos (starEach (e :: es) X.env)).all (fun x => !x.1) && (backToKw cpos (keywordEach [] X.env)).all (fun x => x.1.isSome) && decide ((e :: es).length + ([] : List Keyword).length + (if ([] : List Keyword).isEmpty then 0 else 1) < 30)) = true := by rfl)
    (hline : (apos.endLine == cpos.line) = true := by rfl) (hs : starEach (e :: es) X.env = (false, eval e X.env) :: starEach es X.env := by rfl) (hplain : (backTo cpos (starEach es X.env)).any (·.1) = false := by rfl) :
    TEP X (.Call (.Attribute o name apos) (e :: es) [] cpos) ρ μ Q := fun ad Hb H σ W N Q' g => by
  refine pe_go (pe_bm pa slot hty hm pe_self pa_self hbase hfew hline hs hplain) (h ad Hb H σ W N _ ?_)
  rintro v x μ1 ad1 Hb1 H1 ⟨t, q⟩ s1 W1 r1
  refine ⟨tyE_v W1 r1 t, q ad1 Hb1 H1 σ W1 (N.step s1) _ fun vs zs μ2 ad2 Hb2 H2 q2 s2 W2 r2 => ?_⟩
  exact q2 ad2 Hb2 H2 v vs W2 (RepE.step s2 r1) r2 Q' ((g.after s1).after s2)
theorem tep_bm0 (pa : PlainAttrs T) (slot : Slot T name id) (hty : typeOf (.builtin id) = pure (.type "method_descriptor")) (hm : MtR X id r) (h : TEP X o ρ μ fun x μ1 => tyE μ1 T x ∧ VM X.K r x [] μ1 Q)
    (hbase : attributeBase o name X.env (eval o X.env) = eval o X.env := by rfl) (hline : (apos.endLine == cpos.line) = true := by rfl) : TEP X (.Call (.Attribute o name apos) [] [] cpos) ρ μ Q := fun ad Hb H σ W N Q' g => by
  refine pe_go (pe_bm0 pa slot hty hm pe_self hbase hline) (h ad Hb H σ W N _ ?_)
  rintro v x μ1 ad1 Hb1 H1 ⟨t, q⟩ s1 W1 r1
  exact ⟨tyE_v W1 r1 t, q ad1 Hb1 H1 v [] W1 r1 .nil Q' (g.after s1)⟩
end
theorem vm_append {K : PySem.W.Frag} {j : Nat} {zs : List E} (hj : μ[j]? = some (some (.lst zs))) (hl : zs.length < 100000) (q : Q (.sh .non) (μ.set j (some (.lst (zs ++ [y]))))) : VM K rAppend (.pt j) [y] μ Q := fun ad Hb H v vs W r0 rs Q' g => by
  obtain ⟨w, rfl, rw_⟩ := vals1 rs
  obtain ⟨a, ha, rfl⟩ := r0
  obtain ⟨_, us, hv, r⟩ := W.off j a _ ha hj
  refine ⟨a, us, w, rfl, rfl, hv, Nat.lt_of_lt_of_le (by rw [r.length]; exact hl) (by decide), ?_⟩
  obtain ⟨W2, s2⟩ := W.put (d := .lst (zs ++ [y])) (o := .lst (us ++ [w])) ha hj ⟨_, upd_same, pd_app r (.cons rw_ .nil)⟩
  exact g _ (.sh .non) _ _ _ _ q s2 W2 .non
theorem vm_extend {K : PySem.W.Frag} {j : Nat} {zs : List E} (hj : μ[j]? = some (some (.lst zs))) (hl : zs.length + xs.length ≤ 100000) (q : Q (.sh .non) (μ.set j (some (.lst (zs ++ xs.map .sh))))) : VM K rExtend (.pt j) [.sh (.lst xs)] μ Q := fun ad Hb H v vs W r0 rs Q' g => by
  obtain ⟨w, rfl, rw_⟩ := vals1 rs
  obtain ⟨a, ha, rfl⟩ := r0
  obtain ⟨_, us, hv, r⟩ := W.off j a _ ha hj
  obtain ⟨b, ws, rfl, hb, rb⟩ := Rep.lst_at rw_
  refine ⟨a, b, us, ws, rfl, rfl, hv, W.inc _ _ hb, Nat.le_trans (by rw [r.length, rb.length]; exact hl) (by decide), ?_⟩
  obtain ⟨W2, s2⟩ := W.put (d := .lst (zs ++ xs.map .sh)) (o := .lst (us ++ ws)) ha hj ⟨_, upd_same, pd_app r (repEs_of rb)⟩
  exact g _ (.sh .non) _ _ _ _ q s2 W2 .non
theorem vm_pop {K : PySem.W.Frag} {j : Nat} {zs : List E} (hj : μ[j]? = some (some (.lst zs))) (hl : zs[zs.length - 1]? = some y) (q : Q y (μ.set j (some (.lst zs.dropLast)))) : VM K rPop (.pt j) [] μ Q := fun ad Hb H v vs W r0 rs Q' g => by
  cases rs
  obtain ⟨a, ha, rfl⟩ := r0
  obtain ⟨_, us, hv, r⟩ := W.off j a _ ha hj
  obtain ⟨u, h1, h2⟩ := pd_left r _ y hl
  refine ⟨a, us, u, rfl, rfl, hv, by rw [r.length]; exact h1, ?_⟩
  obtain ⟨W2, s2⟩ := W.put (d := .lst zs.dropLast) (o := .lst us.dropLast) ha hj ⟨_, upd_same, by rw [List.dropLast_eq_take, List.dropLast_eq_take, r.length]; exact pd_take _ r⟩
  exact g _ y _ _ _ _ q s2 W2 (RepE.step s2 h2)
theorem pd_erase {α β : Type} {F : α → β → Prop} : ∀ {l₁ : List α} {l₂ : List β} (i : Nat), Paired F l₁ l₂ → Paired F (l₁.eraseIdx i) (l₂.eraseIdx i)
  | _, _, _, .nil => .nil
  | _, _, 0, .cons _ t => t
  | _, _, i + 1, .cons r t => .cons r (pd_erase i t)
theorem vm_popAt {K : PySem.W.Frag} {j : Nat} {zs : List E} {i : Nat} (hj : μ[j]? = some (some (.lst zs))) (hl : zs[i]? = some y) (hi : i < 100000) (q : Q y (μ.set j (some (.lst (zs.eraseIdx i))))) : VM K rPopAt (.pt j) [.sh (.int (i : Int))] μ Q := fun ad Hb H v vs W r0 rs Q' g => by
  obtain ⟨w, rfl, rw_⟩ := vals1 rs
  obtain rfl := Rep.int_inv rw_
  obtain ⟨a, ha, rfl⟩ := r0
  obtain ⟨_, us, hv, r⟩ := W.off j a _ ha hj
  obtain ⟨u, h1, h2⟩ := pd_left r _ y hl
  have hlt : i < us.length := (List.getElem?_eq_some_iff.mp h1).1
  refine ⟨a, us, (i : Int), i, u, rfl, rfl, hv, by omega, by omega, (ixN_seq (j := i) ?_).1, h1, ?_⟩
  · unfold ixN
    rw [if_pos (by omega), if_pos (by omega)]
    simp
  · obtain ⟨W2, s2⟩ := W.put (d := .lst (zs.eraseIdx i)) (o := .lst (us.eraseIdx i)) ha hj ⟨_, upd_same, pd_erase i r⟩
    exact g _ y _ _ _ _ q s2 W2 (RepE.step s2 h2)
theorem tep_append (h : TEP X o ρ μ fun x μ1 => ∃ j zs, x = .pt j ∧ μ1[j]? = some (some (.lst zs)) ∧ TEP X e ρ μ1 fun y μ2 => ∃ zs2, μ2[j]? = some (some (.lst zs2)) ∧ zs2.length < 100000 ∧ Q (.sh .non) (μ2.set j (some (.lst (zs2 ++ [y])))))
    (hbase : attributeBase o "append" X.env (eval o X.env) = eval o X.env := by rfl)
    (hfew : ((backTo cpos (starEach [e] X.env)).all (fun x => !x.1) && (backToKw cpos (keywordEach [] X.env)).all (fun x => x.1.isSome) && decide ([e].length + ([] : List Keyword).length + (if ([] : List Keyword).isEmpty then 0 else 1) < 30)) = true := by rfl)
    (hline : (apos.endLine == cpos.line) = true := by rfl) (hs : starEach [e] X.env = (false, eval e X.env) :: starEach [] X.env := by rfl) : TEP X (.Call (.Attribute o "append" apos) [e] [] cpos) ρ μ Q :=
  tep_bm PySem.F.plainAttrs_list PySem.F.slot_list_append PySem.F.type_list_append mt_append (fun ad Hb H σ W N Q' g => h ad Hb H σ W N Q' fun v x μ1 ad1 Hb1 H1 ⟨j, zs, ex, hj, q⟩ s1 W1 r1 => g v x μ1 ad1 Hb1 H1 ⟨by
    subst ex
    exact .inl ⟨rfl, zs, hj⟩, tap_cons (fun ad Hb H σ W N Q' g => q ad Hb H σ W N Q' fun v y μ2 ad1 Hb1 H1 ⟨zs2, hj2, hl, q2⟩ s1 W1 r1 => g v y μ2 ad1 Hb1 H1 (tap_nil (by subst ex; exact vm_append hj2 hl q2)) s1 W1 r1) hs⟩ s1 W1 r1) hbase hfew hline hs rfl
theorem tep_extend {j : Nat} {zs : List E} (ho : EV X o ρ μ (.pt j)) (h : EV X e ρ μ (.sh (.lst xs))) (hj : μ[j]? = some (some (.lst zs))) (hl : zs.length + xs.length ≤ 100000) (q : Q (.sh .non) (μ.set j (some (.lst (zs ++ xs.map .sh)))))
    (hbase : attributeBase o "extend" X.env (eval o X.env) = eval o X.env := by rfl)
    (hfew : ((backTo cpos (starEach [e] X.env)).all (fun x => !x.1) && (backToKw cpos (keywordEach [] X.env)).all (fun x => x.1.isSome) && decide ([e].length + ([] : List Keyword).length + (if ([] : List Keyword).isEmpty then 0 else 1) < 30)) = true := by rfl)
    (hline : (apos.endLine == cpos.line) = true := by rfl) (hs : starEach [e] X.env = (false, eval e X.env) :: starEach [] X.env := by rfl) : TEP X (.Call (.Attribute o "extend" apos) [e] [] cpos) ρ μ Q :=
  tep_bm PySem.F.plainAttrs_list PySem.F.slot_list_extend PySem.F.type_list_extend mt_extend (ho _ ⟨.inl ⟨rfl, zs, hj⟩, tap_cons (h _ (tap_nil (vm_extend hj hl q))) hs⟩) hbase hfew hline hs rfl
theorem tep_pop {j : Nat} {zs : List E} (ho : EV X o ρ μ (.pt j)) (hj : μ[j]? = some (some (.lst zs))) (hl : zs[zs.length - 1]? = some y) (q : Q y (μ.set j (some (.lst zs.dropLast))))
    (hbase : attributeBase o "pop" X.env (eval o X.env) = eval o X.env := by rfl) (hline : (apos.endLine == cpos.line) = true := by rfl) : TEP X (.Call (.Attribute o "pop" apos) [] [] cpos) ρ μ Q :=
  tep_bm0 PySem.F.plainAttrs_list PySem.F.slot_list_pop PySem.F.type_list_pop mt_pop (ho _ ⟨.inl ⟨rfl, zs, hj⟩, vm_pop hj hl q⟩) hbase hline
theorem tep_popAt (h : TEP X o ρ μ fun x μ1 => ∃ j zs, x = .pt j ∧ μ1[j]? = some (some (.lst zs)) ∧ TEP X e ρ μ1 fun y μ2 => ∃ (zs2 : List E) (i : Nat) (z : E), μ2[j]? = some (some (.lst zs2)) ∧ y = .sh (.int (i : Int)) ∧ zs2[i]? = some z ∧ i < 100000 ∧ Q z (μ2.set j (some (.lst (zs2.eraseIdx i)))))
    (hbase : attributeBase o "pop" X.env (eval o X.env) = eval o X.env := by rfl)
    (hfew : ((backTo cpos (starEach [e] X.env)).all (fun x => !x.1) && (backToKw cpos (keywordEach [] X.env)).all (fun x => x.1.isSome) && decide ([e].length + ([] : List Keyword).length + (if ([] : List Keyword).isEmpty then 0 else 1) < 30)) = true := by rfl)
    (hline : (apos.endLine == cpos.line) = true := by rfl) (hs : starEach [e] X.env = (false, eval e X.env) :: starEach [] X.env := by rfl) : TEP X (.Call (.Attribute o "pop" apos) [e] [] cpos) ρ μ Q :=
  tep_bm PySem.F.plainAttrs_list PySem.F.slot_list_pop PySem.F.type_list_pop mt_popAt (fun ad Hb H σ W N Q' g => h ad Hb H σ W N Q' fun v x μ1 ad1 Hb1 H1 ⟨j, zs, ex, hj, q⟩ s1 W1 r1 => g v x μ1 ad1 Hb1 H1 ⟨by
    subst ex
    exact .inl ⟨rfl, zs, hj⟩, tap_cons (fun ad Hb H σ W N Q' g => q ad Hb H σ W N Q' fun v y μ2 ad1 Hb1 H1 ⟨zs2, i, z, hj2, ey, hz, hi, q2⟩ s1 W1 r1 => g v y μ2 ad1 Hb1 H1 (tap_nil (by subst ex; subst ey; exact vm_popAt hj2 hz hi q2)) s1 W1 r1) hs⟩ s1 W1 r1) hbase hfew hline hs rfl

/-! ### lists joined, repeated; membership -/
theorem ev_cat (ha : EV X a ρ μ (.sh (.lst xs))) (hb : EV X b ρ μ (.sh (.lst ys))) (hl : xs.length + ys.length ≤ 100000) : EV X (.BinOp a .Add b pos) ρ μ (.sh (.lst (xs ++ ys))) := ev_op op_cat ha hb fun Q q ad Hb H v w W r1 r2 Q' g => by
  obtain ⟨a, vs, rfl, h1, r1⟩ := Rep.lst_at r1
  obtain ⟨b, ws, rfl, h2, r2⟩ := Rep.lst_at r2
  refine ⟨a, b, vs, ws, rfl, rfl, W.inc _ _ h1, W.inc _ _ h2, Nat.le_trans (by rw [r1.length, r2.length]; exact hl) (by decide), fun p hp => ?_⟩
  obtain ⟨W2, s2⟩ := W.alloc (o := .lst (vs ++ ws)) hp
  exact g _ (.sh (.lst (xs ++ ys))) _ _ _ _ q s2 W2 (Rep.lstL upd_same (RepL.mono s2.ex (pd_app r1 r2)))
theorem pd_rep {α β : Type} {F : α → β → Prop} {l₁ : List α} {l₂ : List β} (r : Paired F l₁ l₂) : ∀ n : Nat, Paired F (List.replicate n l₁).flatten (List.replicate n l₂).flatten
  | 0 => .nil
  | n + 1 => by
    rw [List.replicate_succ, List.replicate_succ, List.flatten_cons, List.flatten_cons]
    exact pd_app r (pd_rep r n)
theorem ev_rep {k : Int} (ha : EV X a ρ μ (.sh (.lst xs))) (hb : EV X b ρ μ (.sh (.int k))) (hk : -(2 ^ 63) ≤ k ∧ k < 2 ^ 63) (hl : xs.length * k.toNat ≤ 100000) : EV X (.BinOp a .Mult b pos) ρ μ (.sh (.lst (List.replicate k.toNat xs).flatten)) := ev_op op_rep ha hb fun Q q ad Hb H v w W r1 r2 Q' g => by
  obtain ⟨a, vs, rfl, h1, r1⟩ := Rep.lst_at r1
  obtain rfl := Rep.int_inv r2
  refine ⟨a, k, vs, rfl, rfl, W.inc _ _ h1, hk.1, hk.2, Nat.le_trans (by rw [r1.length]; exact hl) (by decide), fun p hp => ?_⟩
  obtain ⟨W2, s2⟩ := W.alloc (o := .lst (List.replicate k.toNat vs).flatten) hp
  exact g _ (.sh (.lst _)) _ _ _ _ q s2 W2 (Rep.lstL upd_same (RepL.mono s2.ex (pd_rep r1 _)))
/-- [e, ..] * n that will change -/
theorem tep_repC {k : Int} (ha : EV X a ρ μ (.sh (.lst xs))) (hb : EV X b ρ μ (.sh (.int k))) (hk : -(2 ^ 63) ≤ k ∧ k < 2 ^ 63) (hl : xs.length * k.toNat ≤ 100000) (q : Q (.pt μ.length) (μ ++ [some (.lst ((List.replicate k.toNat xs).flatten.map .sh))])) : TEP X (.BinOp a .Mult b pos) ρ μ Q := tep_op op_rep (ha _ (hb _ fun ad Hb H v w W r1 r2 Q' g => by
  obtain ⟨a, vs, rfl, h1, r1⟩ := Rep.lst_at r1
  obtain rfl := Rep.int_inv r2
  refine ⟨a, k, vs, rfl, rfl, W.inc _ _ h1, hk.1, hk.2, Nat.le_trans (by rw [r1.length]; exact hl) (by decide), fun p hp => ?_⟩
  obtain ⟨W2, s2⟩ := W.cell (o := .lst (List.replicate k.toNat vs).flatten) (c := .lst ((List.replicate k.toNat xs).flatten.map .sh)) hp ⟨_, upd_same, repEs_of (pd_rep r1 _)⟩
  exact g _ (.pt μ.length) _ _ _ _ q s2 W2 ⟨p, by rw [← W.len]; simp, rfl⟩))
theorem inV_int : ∀ (ns : List Int) (i : Int), inV (.int i) (ns.map V.int) = decide (i ∈ ns)
  | [], i => by simp [inV]
  | n :: ns, i => by
    have h := inV_int ns i
    unfold inV at h ⊢
    rw [List.map_cons, List.any_cons, h, Bool.eq_iff_iff]
    simp [eqV]
    constructor
    · rintro (h | h)
      · exact .inl h.symm
      · exact .inr h
    · rintro (h | h)
      · exact .inl h.symm
      · exact .inr h
theorem ints_flat (ns : List Int) : (ns.map V.int).all flatV = true := by
  rw [List.all_map, List.all_eq_true]
  intro n _
  rfl
theorem v2_in {K : PySem.W.Frag} {neg : Bool} {i : Int} {ns : List Int} (q : Q (.sh (.bl (if neg then !decide (i ∈ ns) else decide (i ∈ ns)))) μ) : V2 K (rIn K neg) (.sh (.int i)) (.sh (.lst (ns.map .int))) μ Q := fun ad Hb H v w W r1 r2 Q' g => by
  obtain rfl := Rep.int_inv r1
  obtain ⟨a, vs, rfl, h1, r2⟩ := Rep.lst_inv r2
  obtain rfl := rep_ints r2
  refine ⟨a, _, rfl, .inl (W.sqL h1), rfl, ints_flat ns, ?_⟩
  rw [inV_int]
  exact g.now W (x := .sh (.bl _)) (.bl _) q
theorem v2_inC {K : PySem.W.Frag} {neg : Bool} {i : Int} {j : Nat} {ns : List Int} (hj : μ[j]? = some (some (.lst (ns.map fun n => .sh (.int n))))) (q : Q (.sh (.bl (if neg then !decide (i ∈ ns) else decide (i ∈ ns)))) μ) : V2 K (rIn K neg) (.sh (.int i)) (.pt j) μ Q := fun ad Hb H v w W r1 r2 Q' g => by
  obtain rfl := Rep.int_inv r1
  obtain ⟨a, ha, rfl⟩ := r2
  obtain ⟨_, vs, hv, r⟩ := W.off j a _ ha hj
  have r' : RepEs K ad Hb vs ((ns.map P.int).map .sh) := by
    rw [List.map_map]
    exact r
  obtain rfl := rep_ints (repEs_sh r')
  refine ⟨a, _, rfl, .inl (.inl (.inl hv)), rfl, ints_flat ns, ?_⟩
  rw [inV_int]
  exact g.now W (x := .sh (.bl _)) (.bl _) q
section
variable {i : Int} {ns : List Int}
theorem ev_in (ha : EV X a ρ μ (.sh (.int i))) (hb : EV X b ρ μ (.sh (.lst (ns.map .int)))) (hm : behindInMarks .In b = false := by with_unfolding_all rfl) : EV X (.Compare a [.In] [b] pos) ρ μ (.sh (.bl (decide (i ∈ ns)))) := ev_cmp op_in_seq hm ha hb fun Q q => v2_in (neg := false) q
theorem ev_notIn (ha : EV X a ρ μ (.sh (.int i))) (hb : EV X b ρ μ (.sh (.lst (ns.map .int)))) (hm : behindInMarks .NotIn b = false := by with_unfolding_all rfl) : EV X (.Compare a [.NotIn] [b] pos) ρ μ (.sh (.bl (!decide (i ∈ ns)))) := ev_cmp op_notIn_seq hm ha hb fun Q q => v2_in (neg := true) q
theorem et_in (ha : EV X a ρ μ (.sh (.int i))) (hb : EV X b ρ μ (.sh (.lst (ns.map .int)))) (hm : behindInMarks .In b = false := by with_unfolding_all rfl) : ET X (.Compare a [.In] [b] pos) ρ μ (decide (i ∈ ns)) := et_cmp op_in_seq hm ha hb fun Q q => v2_in (neg := false) q
theorem et_notIn (ha : EV X a ρ μ (.sh (.int i))) (hb : EV X b ρ μ (.sh (.lst (ns.map .int)))) (hm : behindInMarks .NotIn b = false := by with_unfolding_all rfl) : ET X (.Compare a [.NotIn] [b] pos) ρ μ (!decide (i ∈ ns)) := et_cmp op_notIn_seq hm ha hb fun Q q => v2_in (neg := true) q
end

/-! ### dicts -/
section
variable {κ α : Type} [DecidableEq κ]
def dget (kvs : List (κ × α)) (k : κ) : Option α := (kvs.find? fun kv => decide (kv.1 = k)).map (·.2)
def dput (kvs : List (κ × α)) (k : κ) (v : α) : List (κ × α) :=
  if (kvs.any fun kv => decide (kv.1 = k)) = true then kvs.map (fun kv => if kv.1 = k then (kv.1, v) else kv) else kvs ++ [(k, v)]
theorem pd_dget {F : V → α → Prop} : ∀ {ks : List (κ × V)} {kvs : List (κ × α)}, Paired (fun p q => p.1 = q.1 ∧ F p.2 q.2) ks kvs → ∀ k : κ, (∀ y, dget kvs k = some y → ∃ v, valV ks k = some v ∧ F v y) ∧ (dget kvs k = none → valV ks k = none)
  | _, _, .nil, k => ⟨fun _ h => (nomatch h), fun _ => rfl⟩
  | (k1, v1) :: ks, (k2, y2) :: kvs, .cons r t, k => by
    have e : k1 = k2 := r.1
    have q : F v1 y2 := r.2
    clear r
    subst e
    have ih := pd_dget t k
    by_cases c : k1 = k
    · subst c
      refine ⟨fun y h => ⟨v1, by simp [valV], ?_⟩, fun h => ?_⟩
      · simp [dget] at h
        subst h
        exact q
      · simp [dget] at h
    · have h1 : dget ((k1, y2) :: kvs) k = dget kvs k := by simp [dget, c]
      have h2 : valV ((k1, v1) :: ks) k = valV ks k := by simp [valV, c]
      rw [h1, h2]
      exact ih
theorem pd_dput {F : V → α → Prop} {ks : List (κ × V)} {kvs : List (κ × α)} (r : Paired (fun p q => p.1 = q.1 ∧ F p.2 q.2) ks kvs) (k : κ) {v : V} {y : α} (h : F v y) : Paired (fun p q => p.1 = q.1 ∧ F p.2 q.2) (putK ks k v) (dput kvs k y) := by
  have ha : (ks.any fun kv => decide (kv.1 = k)) = (kvs.any fun kv => decide (kv.1 = k)) := by
    induction r with
    | nil => rfl
    | cons r t ih => rw [List.any_cons, List.any_cons, ih, r.1]
  unfold putK dput
  rw [ha]
  split
  · rename_i hh
    clear ha hh
    induction r with
    | nil => exact .nil
    | @cons p q _ _ r t ih =>
      rw [List.map_cons, List.map_cons]
      refine .cons ?_ ih
      by_cases c : p.1 = k
      · rw [if_pos c, if_pos (by rw [← r.1]; exact c)]
        exact ⟨r.1, h⟩
      · rw [if_neg c, if_neg (by rw [← r.1]; exact c)]
        exact r
  · exact pd_app r (.cons ⟨rfl, h⟩ .nil)
theorem dput_len (kvs : List (κ × α)) (k : κ) (v : α) : (dput kvs k v).length ≤ kvs.length + 1 := by
  unfold dput
  split
  · rw [List.length_map]; omega
  · rw [List.length_append]; simp
theorem dget_put (kvs : List (κ × α)) (k k' : κ) (v : α) : dget (dput kvs k v) k' = if k = k' then some v else dget kvs k' := by
  have hf : ∀ (l : List (κ × α)), k ≠ k' → ((l.map (fun kv => if kv.1 = k then (kv.1, v) else kv)).find? fun kv => decide (kv.1 = k')).map (·.2) = (l.find? fun kv => decide (kv.1 = k')).map (·.2) := by
    intro l hk
    induction l with
    | nil => rfl
    | cons p l ih =>
      rw [List.map_cons, List.find?_cons, List.find?_cons]
      by_cases c : p.1 = k
      · rw [if_pos c]
        have : decide (p.1 = k') = false := by simp [c, hk]
        simp only [this]
        exact ih
      · rw [if_neg c]
        by_cases d : p.1 = k'
        · simp [d]
        · simp only [d, decide_false]
          exact ih
  have hs : ∀ (l : List (κ × α)), (l.any fun kv => decide (kv.1 = k)) = true → ((l.map (fun kv => if kv.1 = k then (kv.1, v) else kv)).find? fun kv => decide (kv.1 = k)).map (·.2) = some v := by
    intro l h
    induction l with
    | nil => simp at h
    | cons p l ih =>
      rw [List.map_cons, List.find?_cons]
      by_cases c : p.1 = k
      · rw [if_pos c]
        simp [c]
      · rw [if_neg c]
        simp only [c, decide_false]
        rw [List.any_cons] at h
        simp only [c, decide_false, Bool.false_or] at h
        exact ih h
  unfold dget dput
  split
  · rename_i h
    by_cases e : k = k'
    · subst e
      rw [if_pos rfl]
      exact hs kvs h
    · rw [if_neg e]
      exact hf kvs e
  · rename_i h
    rw [List.find?_append]
    by_cases e : k = k'
    · subst e
      rw [if_pos rfl]
      have : kvs.find? (fun kv => decide (kv.1 = k)) = none := by
        rw [List.find?_eq_none]
        intro p hp c
        exact h (List.any_eq_true.mpr ⟨p, hp, c⟩)
      rw [this]
      simp
    · rw [if_neg e]
      have : [(k, v)].find? (fun kv => decide (kv.1 = k')) = none := by simp [e]
      rw [this, Option.or_none]
end
def kP : Key → P
  | .inl i => .int i
  | .inr x => .str x
theorem rep_key {K : PySem.W.Frag} {H : Hp} {v : V} {k : Key} (r : Rep K H v (kP k)) : v = kV k := by
  cases k with
  | inl i => exact Rep.int_inv r
  | inr x => exact Rep.str_inv r
theorem rep_keys {K : PySem.W.Frag} {H : Hp} : ∀ {vs : List V} {ks : List Key}, RepL K H vs (ks.map kP) → vs = ks.map kV
  | _, [], .nil => rfl
  | _, k :: ks, .cons r t => by rw [rep_key r, rep_keys t]; rfl
theorem rep_keyT {K : PySem.W.Frag} {H : Hp} {v : V} {ks : List Key} (r : Rep K H v (.tup (ks.map kP))) : ∃ b, v = .ref b ∧ H b = some (.tup (ks.map kV)) := by
  obtain ⟨b, vs, rfl, h, r⟩ := Rep.tup_inv r
  obtain rfl := rep_keys r
  exact ⟨b, rfl, h⟩
/-- what a dict holds -/
inductive DG (μ : Mu) : E → E → Option E → Prop
  | shT {kvs : List (List Key × P)} {k : List Key} : DG μ (.sh (.dT kvs)) (.sh (.tup (k.map kP))) ((dget kvs k).map .sh)
  | ptT {j : Nat} {kvs : List (List Key × E)} {k : List Key} (h : μ[j]? = some (some (.dT kvs))) : DG μ (.pt j) (.sh (.tup (k.map kP))) (dget kvs k)
  | shK {kvs : List (Key × P)} {k : Key} : DG μ (.sh (.dK kvs)) (.sh (kP k)) ((dget kvs k).map .sh)
  | ptK {j : Nat} {kvs : List (Key × E)} {k : Key} (h : μ[j]? = some (some (.dK kvs))) : DG μ (.pt j) (.sh (kP k)) (dget kvs k)
theorem DG.get {K : PySem.W.Frag} {ad : List Addr} {Hb H : Hp} (W : Wd K ad Hb H μ) {d k : E} {o : Option E} (g : DG μ d k o) {v w : V} (rd : RepE K ad Hb v d) (rk : RepE K ad Hb w k) : ∃ a ov, v = .ref a ∧ DGet H a w ov ∧ (∀ y, o = some y → ∃ u, ov = some u ∧ RepE K ad Hb u y) ∧ (o = none → ov = none) := by
  cases g with
  | @shT kvs k =>
    obtain ⟨a, ks, rfl, ha, r⟩ := Rep.dT_inv rd
    obtain ⟨b, rfl, hb⟩ := rep_keyT rk
    obtain ⟨h1, h2⟩ := pd_dget r k
    refine ⟨a, valV ks k, rfl, .inr ⟨ks, k, b, W.inc _ _ ha, rfl, W.tup hb, rfl⟩, fun y e => ?_, fun e => h2 (by simpa using e)⟩
    obtain ⟨y', e1, rfl⟩ := Option.map_eq_some_iff.mp e
    exact h1 y' e1
  | @ptT j kvs k hj =>
    obtain ⟨a, ha, rfl⟩ := rd
    obtain ⟨_, ks, hv, r⟩ := W.off j a _ ha hj
    obtain ⟨b, rfl, hb⟩ := rep_keyT rk
    obtain ⟨h1, h2⟩ := pd_dget r k
    exact ⟨a, valV ks k, rfl, .inr ⟨ks, k, b, .inl hv, rfl, W.tup hb, rfl⟩, h1, h2⟩
  | @shK kvs k =>
    obtain ⟨a, ks, rfl, ha, r⟩ := Rep.dK_inv rd
    obtain rfl := rep_key rk
    obtain ⟨h1, h2⟩ := pd_dget r k
    refine ⟨a, valV ks k, rfl, .inl ⟨ks, k, W.inc _ _ ha, rfl, rfl⟩, fun y e => ?_, fun e => h2 (by simpa using e)⟩
    obtain ⟨y', e1, rfl⟩ := Option.map_eq_some_iff.mp e
    exact h1 y' e1
  | @ptK j kvs k hj =>
    obtain ⟨a, ha, rfl⟩ := rd
    obtain ⟨_, ks, hv, r⟩ := W.off j a _ ha hj
    obtain rfl := rep_key rk
    obtain ⟨h1, h2⟩ := pd_dget r k
    exact ⟨a, valV ks k, rfl, .inl ⟨ks, k, .inl hv, rfl, rfl⟩, h1, h2⟩
theorem tep_dget (hu : X.A.units + 1 < cLine) (h : TEP X a ρ μ fun d μ1 => TEP X b ρ μ1 fun k μ2 => ∃ y, DG μ2 d k (some y) ∧ Q y μ2) (hs : NoSl b := by intro _ _; rfl) : TEP X (.Subscript a b pos) ρ μ Q := fun ad Hb H σ W N Q' g => by
  refine pe_go (pe_dget hu pe_self pe_self hs) (h ad Hb H σ W N _ fun v d μ1 ad1 Hb1 H1 q1 s1 W1 r1 => q1 ad1 Hb1 H1 σ W1 (N.step s1) _ ?_)
  rintro w k μ2 ad2 Hb2 H2 ⟨y, dg, q⟩ s2 W2 r2
  obtain ⟨a, ov, rfl, hd, h1, _⟩ := dg.get W2 (RepE.step s2 r1) r2
  obtain ⟨u, rfl, ru⟩ := h1 y rfl
  exact ⟨a, u, rfl, hd, g u y _ _ _ _ q (s1.trans s2) W2 ru⟩
theorem ev_dget {d k y : E} (hu : X.A.units + 1 < cLine) (ha : EV X a ρ μ d) (hb : EV X b ρ μ k) (h : DG μ d k (some y)) (hs : NoSl b := by intro _ _; rfl) : EV X (.Subscript a b pos) ρ μ y := fun Q q => tep_dget hu (ha _ (hb _ ⟨y, h, q⟩)) hs
theorem ev_dgetT {kvs : List (List Key × P)} {k : List Key} {y : P} (hu : X.A.units + 1 < cLine) (ha : EV X a ρ μ (.sh (.dT kvs))) (hb : EV X b ρ μ (.sh (.tup (k.map kP)))) (h : dget kvs k = some y) (hs : NoSl b := by intro _ _; rfl) : EV X (.Subscript a b pos) ρ μ (.sh y) := ev_dget hu ha hb (by
  have := DG.shT (μ := μ) (kvs := kvs) (k := k)
  rw [h] at this
  exact this) hs
theorem ev_dgetC {j : Nat} {kvs : List (List Key × E)} {k : List Key} {y : E} (hu : X.A.units + 1 < cLine) (ha : EV X a ρ μ (.pt j)) (hb : EV X b ρ μ (.sh (.tup (k.map kP)))) (hj : μ[j]? = some (some (.dT kvs))) (h : dget kvs k = some y) (hs : NoSl b := by intro _ _; rfl) : EV X (.Subscript a b pos) ρ μ y := ev_dget hu ha hb (by
  have := DG.ptT (k := k) hj
  rw [h] at this
  exact this) hs
theorem isSome_of {o : Option E} {ov : Option V} {K : PySem.W.Frag} {ad : List Addr} {Hb : Hp} (h1 : ∀ y, o = some y → ∃ u, ov = some u ∧ RepE K ad Hb u y) (h2 : o = none → ov = none) : ov.isSome = o.isSome := by
  cases o with
  | none => rw [h2 rfl]; rfl
  | some y => obtain ⟨u, e, _⟩ := h1 y rfl; rw [e]; rfl
theorem pc_din_go {d k : E} {ov : Option E} {neg : Bool} {Qb : Bool → Mu → Prop} (ha : EV X a ρ μ k) (hb : EV X b ρ μ d) (h : DG μ d k ov) {ad : List Addr} {Hb H : Hp} {σ : L2.St} (W : Wd X.K ad Hb H μ) (N : Env X.K ad Hb σ ρ) {R : Bool → Hp → Prop} (g : ∀ ad' Hb' H', Step ad Hb H ad' Hb' H' → Wd X.K ad' Hb' H' μ → R ov.isSome H') :
    TEV X a σ H fun y H1 => TEV X b σ H1 fun x H2 => ∃ a o, x = .ref a ∧ DGet H2 a y o ∧ R o.isSome H2 := by
  refine ha (fun z μ1 => z = k ∧ μ1 = μ) ⟨rfl, rfl⟩ ad Hb H σ W N _ ?_
  rintro v z μ1 ad1 Hb1 H1 ⟨rfl, rfl⟩ s1 W1 r1
  refine hb (fun z μ2 => z = d ∧ μ2 = μ1) ⟨rfl, rfl⟩ ad1 Hb1 H1 σ W1 (N.step s1) _ ?_
  rintro w z2 μ2 ad2 Hb2 H2 ⟨rfl, rfl⟩ s2 W2 r2
  obtain ⟨a, o2, rfl, hd, h1, h2⟩ := h.get W2 r2 (RepE.step s2 r1)
  refine ⟨a, o2, rfl, hd, ?_⟩
  rw [isSome_of h1 h2]
  exact g _ _ _ (s1.trans s2) W2
theorem ev_din {d k : E} {ov : Option E} (hu : X.A.units + 1 < cLine) (ha : EV X a ρ μ k) (hb : EV X b ρ μ d) (h : DG μ d k ov) (hm : behindInMarks .In b = false := by with_unfolding_all rfl) : EV X (.Compare a [.In] [b] pos) ρ μ (.sh (.bl ov.isSome)) := fun Q q ad Hb H σ W N Q' g =>
  pe_go (pe_cmp (pc_din hu pe_self pe_self) hm) (pc_din_go (neg := false) (Qb := fun _ _ => True) ha hb h W N (R := fun b H => Q' (.bl b) H) fun ad' Hb' H' s W' => g _ (.sh (.bl _)) _ _ _ _ q s W' (.bl _))
theorem ev_dnotIn {d k : E} {ov : Option E} (hu : X.A.units + 1 < cLine) (ha : EV X a ρ μ k) (hb : EV X b ρ μ d) (h : DG μ d k ov) (hm : behindInMarks .NotIn b = false := by with_unfolding_all rfl) : EV X (.Compare a [.NotIn] [b] pos) ρ μ (.sh (.bl (!ov.isSome))) := fun Q q ad Hb H σ W N Q' g =>
  pe_go (pe_cmp (pc_dnotin hu pe_self pe_self) hm) (pc_din_go (neg := false) (Qb := fun _ _ => True) ha hb h W N (R := fun b H => Q' (.bl (!b)) H) fun ad' Hb' H' s W' => g _ (.sh (.bl (!_))) _ _ _ _ q s W' (.bl _))
theorem et_din {d k : E} {ov : Option E} (hu : X.A.units + 1 < cLine) (ha : EV X a ρ μ k) (hb : EV X b ρ μ d) (h : DG μ d k ov) (hm : behindInMarks .In b = false := by with_unfolding_all rfl) : ET X (.Compare a [.In] [b] pos) ρ μ ov.isSome := fun Q q ad Hb H σ W N Q' g =>
  pt_go (pt_cmp (pc_din hu pe_self pe_self) hm) (pc_din_go (neg := false) (Qb := fun _ _ => True) ha hb h W N (R := fun b H => ∃ c, V.bl b = .bl c ∧ Q' c H) fun ad' Hb' H' s W' => ⟨_, rfl, g _ _ _ _ _ q s W'⟩)
theorem et_dnotIn {d k : E} {ov : Option E} (hu : X.A.units + 1 < cLine) (ha : EV X a ρ μ k) (hb : EV X b ρ μ d) (h : DG μ d k ov) (hm : behindInMarks .NotIn b = false := by with_unfolding_all rfl) : ET X (.Compare a [.NotIn] [b] pos) ρ μ (!ov.isSome) := fun Q q ad Hb H σ W N Q' g =>
  pt_go (pt_cmp (pc_dnotin hu pe_self pe_self) hm) (pc_din_go (neg := false) (Qb := fun _ _ => True) ha hb h W N (R := fun b H => ∃ c, V.bl (!b) = .bl c ∧ Q' c H) fun ad' Hb' H' s W' => ⟨_, rfl, g _ _ _ _ _ q s W'⟩)
/-- d.get(k, x) -/
theorem ev_dget2 {d k z : E} {ov : Option E} (hu : X.A.units + 1 < cLine) (ho : EV X o ρ μ d) (ha : EV X a ρ μ k) (hb : EV X b ρ μ z) (h : DG μ d k ov) (m : M2 X o "get" apos a b cpos) : EV X (.Call (.Attribute o "get" apos) [a, b] [] cpos) ρ μ (ov.getD z) := fun Q q ad Hb H σ W N Q' g => by
  refine pe_go (pe_dget2 hu pe_self pe_self pe_self m) (ho (fun y μ1 => y = d ∧ μ1 = μ) ⟨rfl, rfl⟩ ad Hb H σ W N _ ?_)
  rintro v y μ1 ad1 Hb1 H1 ⟨rfl, rfl⟩ s1 W1 r1
  have hD : ∃ a, v = .ref a ∧ IsD H1 a := by
    cases h with
    | shT => obtain ⟨a, ks, rfl, ha, _⟩ := Rep.dT_inv r1; exact ⟨a, rfl, .inr ⟨ks, W1.inc _ _ ha⟩⟩
    | ptT hj => obtain ⟨a, ha, rfl⟩ := r1; obtain ⟨_, ks, hv, _⟩ := W1.off _ a _ ha hj; exact ⟨a, rfl, .inr ⟨ks, .inl hv⟩⟩
    | shK => obtain ⟨a, ks, rfl, ha, _⟩ := Rep.dK_inv r1; exact ⟨a, rfl, .inl ⟨ks, W1.inc _ _ ha⟩⟩
    | ptK hj => obtain ⟨a, ha, rfl⟩ := r1; obtain ⟨_, ks, hv, _⟩ := W1.off _ a _ ha hj; exact ⟨a, rfl, .inl ⟨ks, .inl hv⟩⟩
  obtain ⟨d0, rfl, isd⟩ := hD
  refine ⟨d0, rfl, isd, ha (fun y μ2 => y = k ∧ μ2 = μ1) ⟨rfl, rfl⟩ ad1 Hb1 H1 σ W1 (N.step s1) _ ?_⟩
  rintro w y2 μ2 ad2 Hb2 H2 ⟨rfl, rfl⟩ s2 W2 r2
  refine hb (fun y μ3 => y = z ∧ μ3 = μ2) ⟨rfl, rfl⟩ ad2 Hb2 H2 σ W2 ((N.step s1).step s2) _ ?_
  rintro u y3 μ3 ad3 Hb3 H3 ⟨rfl, rfl⟩ s3 W3 r3
  obtain ⟨a, o2, e, hd, h1, h2⟩ := h.get W3 (RepE.step (s2.trans s3) r1) (RepE.step s3 r2)
  cases e
  refine ⟨o2, hd, g _ (ov.getD y3) _ _ _ _ q ((s1.trans s2).trans s3) W3 ?_⟩
  cases ov with
  | none => rw [h2 rfl]; exact r3
  | some y => obtain ⟨u2, e2, r4⟩ := h1 y rfl; rw [e2]; exact r4
/-- d[k] = e -/
theorem tsp_dputT {value : Expr} {pos' : Pos} {D : Out} (hu : X.A.units + 1 < cLine)
    (h : TEP X value ρ μ fun y μ1 => TEP X o ρ μ1 fun d μ2 => TEP X a ρ μ2 fun k μ3 => ∃ (j : Nat) (kvs : List (List Key × E)) (ks : List Key), d = .pt j ∧ k = .sh (.tup (ks.map kP)) ∧ μ3[j]? = some (some (.dT kvs)) ∧ kvs.length < 100000 ∧ D.nx ρ (μ3.set j (some (.dT (dput kvs ks y)))))
    (hs : swapsWith value (some (.Subscript o a pos')) pos.line X.env = pure false := by rfl) : TSP X (.Assign [.Subscript o a pos'] value pos) ρ μ D := fun ad Hb H σ W N D' g => by
  refine ps_go (ps_dput hu pe_self pe_self pe_self hs) (h ad Hb H σ W N _ fun v y μ1 ad1 Hb1 H1 q1 s1 W1 r1 => q1 ad1 Hb1 H1 σ W1 (N.step s1) _ fun w d μ2 ad2 Hb2 H2 q2 s2 W2 r2 => q2 ad2 Hb2 H2 σ W2 ((N.step s1).step s2) _ ?_)
  rintro u k μ3 ad3 Hb3 H3 ⟨j, kvs, ks, rfl, rfl, hj, hl, q⟩ s3 W3 r3
  obtain ⟨a, ha, rfl⟩ := RepE.step s3 r2
  obtain ⟨_, ws, hv, r⟩ := W3.off j a _ ha hj
  obtain ⟨b, rfl, hb⟩ := rep_keyT r3
  obtain ⟨W4, s4⟩ := W3.put (d := .dT (dput kvs ks y)) (o := .dT (putK ws ks v)) ha hj ⟨_, upd_same, pd_dput r ks (RepE.step (s2.trans s3) r1)⟩
  refine ⟨a, _, rfl, .inr ⟨ws, ks, b, hv, rfl, W3.tup hb, Nat.lt_of_lt_of_le (by rw [r.length]; exact hl) (by decide), rfl⟩, ?_⟩
  exact g.nx _ _ _ _ _ _ q (((s1.trans s2).trans s3).trans s4) W4 (N.step (((s1.trans s2).trans s3).trans s4))
/-- xs[i] = e -/
theorem tsp_seti {value : Expr} {pos' : Pos} {D : Out}
    (h : TEP X value ρ μ fun y μ1 => TEP X o ρ μ1 fun d μ2 => TEP X a ρ μ2 fun k μ3 => ∃ (j : Nat) (zs : List E) (i : Nat), d = .pt j ∧ k = .sh (.int (i : Int)) ∧ μ3[j]? = some (some (.lst zs)) ∧ i < zs.length ∧ D.nx ρ (μ3.set j (some (.lst (zs.set i y)))))
    (hs : swapsWithSole [.Subscript o a pos'] value pos.line X.env = pure false := by rfl) (hw : swappedStores [.Subscript o a pos'] value X.env = pure none := by rfl) (h1 : (assignEach [.Subscript o a pos'] X.env).map (·.2) = [assign (.Subscript o a pos') X.env] := by rfl)
    (ha : ∀ v, assign (.Subscript o a pos') X.env v = (do
      let ov ← holding [v] (eval o X.env)
      let iv ← holding [v, ov] (eval a X.env)
      standAt pos'
      holding [v, ov, iv] (setItem ov iv v)
      release [v, ov, iv] []) := by intro _; rfl) : TSP X (.Assign [.Subscript o a pos'] value pos) ρ μ D := fun ad Hb H σ W N D' g => by
  refine ps_go (ps_asg pe_self (pg_sub pe_self pe_self set_list ha) hs hw h1) (h ad Hb H σ W N _ fun v y μ1 ad1 Hb1 H1 q1 s1 W1 r1 => q1 ad1 Hb1 H1 σ W1 (N.step s1) _ fun w d μ2 ad2 Hb2 H2 q2 s2 W2 r2 => q2 ad2 Hb2 H2 σ W2 ((N.step s1).step s2) _ ?_)
  rintro u k μ3 ad3 Hb3 H3 ⟨j, zs, i, rfl, rfl, hj, hl, q⟩ s3 W3 r3
  obtain ⟨a, ha, rfl⟩ := RepE.step s3 r2
  obtain rfl := Rep.int_inv r3
  obtain ⟨_, ws, hv, r⟩ := W3.off j a _ ha hj
  obtain ⟨W4, s4⟩ := W3.put (d := .lst (zs.set i y)) (o := .lst (ws.set i v)) ha hj ⟨_, upd_same, pd_set (RepE.step (s2.trans s3) r1) i r⟩
  refine ⟨a, ws, (i : Int), i, rfl, rfl, hv, ?_, ?_⟩
  · unfold ixN
    have := r.length
    rw [if_pos (by omega), if_pos (by omega)]
    simp
  · exact g.nx _ _ _ _ _ _ q (((s1.trans s2).trans s3).trans s4) W4 (N.step (((s1.trans s2).trans s3).trans s4))
end
end PV

/-! Statements over one value. -/
namespace PV
open PySem PySem.Spec PyProof.Rows L2
section
variable {X : Cx} {st : Stmt} {rest bodyS elseS : List Stmt} {tg a b c e o iter : Expr} {es : List Expr} {ρ : Rho} {μ : Mu} {D : Out} {pos pos' p2 : Pos} {x y z : E}
theorem tsp_retV (h : EV X e ρ μ x) (q : D.rt x μ) : TSP X (.Return (some e) pos) ρ μ D := tsp_ret (h _ q)
theorem tsp_setV (i : Nat) (nd : X.N.Nodup) {n : Str} (h : EV X e ρ μ x) (q : D.nx (ρ.set i (some x)) μ) (hi : X.N[i]? = some n := by rfl) (hx : Loc X.env.scope n := by first | exact Or.inl rfl | exact Or.inr rfl) (hf : X.fn n = true ∨ X.env.scope.names.lookup n = some .local := by exact Or.inl rfl)
    (hs : swapsWith e (some (.Name n pos')) pos.line X.env = pure false := by rfl) : TSP X (.Assign [.Name n pos'] e pos) ρ μ D := tsp_set i (h _ q) nd hi hx hf hs
theorem tsp_setP (i : Nat) (nd : X.N.Nodup) {n : Str} (h : TEP X e ρ μ fun x μ1 => D.nx (ρ.set i (some x)) μ1) (hi : X.N[i]? = some n := by rfl) (hx : Loc X.env.scope n := by first | exact Or.inl rfl | exact Or.inr rfl) (hf : X.fn n = true ∨ X.env.scope.names.lookup n = some .local := by exact Or.inl rfl)
    (hs : swapsWith e (some (.Name n pos')) pos.line X.env = pure false := by rfl) : TSP X (.Assign [.Name n pos'] e pos) ρ μ D := tsp_set i h nd hi hx hf hs
end
section
variable {X : Cx} {st : Stmt} {rest bodyS elseS : List Stmt} {tg a b c e o iter : Expr} {es : List Expr} {ρ : Rho} {μ : Mu} {D : Out} {pos pos' p2 : Pos} {x y z : E}
/-- a list or a tuple -/
abbrev Sq (x : P) (xs : List P) : Prop := x = .lst xs ∨ x = .tup xs
section
variable {xs : List P} {x : P}
theorem ev_lenS (hx : Sq x xs) (hm : X.mg "len" = none) (h : EV X e ρ μ (.sh x)) (hg : Gl X "len" := by rfl) (hs : starEach [e] X.env = (false, eval e X.env) :: starEach [] X.env := by rfl) : EV X (.Call (.Name "len" p2) [e] [] pos) ρ μ (.sh (.int (xs.length : Int))) := by
  rcases hx with rfl | rfl
  · exact ev_len hm h hg hs
  · exact ev_lenT hm h hg hs
theorem ev_ixS {i : Int} {y : P} (hx : Sq x xs) (ha : EV X a ρ μ (.sh x)) (hb : EV X b ρ μ (.sh (.int i))) (h : atI xs i = some y) (hs : PlainIx b := by intro _ _; rfl) : EV X (.Subscript a b pos) ρ μ (.sh y) := by
  rcases hx with rfl | rfl
  · exact ev_ixL ha hb h hs
  · exact ev_ixT ha hb h hs
theorem ei_seq (hx : Sq x xs) (h : EV X e ρ μ (.sh x)) : EI X tg e ρ μ (xs.map .sh) := by
  rcases hx with rfl | rfl
  · exact ei_list h
  · exact ei_tup h
end
theorem EI.is {zs ys : List E} (h : EI X tg iter ρ μ zs) (q : zs = ys) : EI X tg iter ρ μ ys := q ▸ h
/-- inside a comprehension -/
def EVB (X : Cx) (scope : Scope) (e : Expr) (ρ : Rho) (μ : Mu) (x : E) : Prop := ∀ s H C cl fp, EV (X.blk s H scope (compEnvC scope cl C X.env) fp) e ρ μ x
def ETB (X : Cx) (scope : Scope) (e : Expr) (ρ : Rho) (μ : Mu) (x : Bool) : Prop := ∀ s H C cl fp, ET (X.blk s H scope (compEnvC scope cl C X.env) fp) e ρ μ x
/-- how a target takes x -/
def TgB (X : Cx) (scope : Scope) (tg : Expr) (js : List Nat) (x : E) (ρ ρ' : Rho) (μ : Mu) : Prop := ∀ R : Rho → Mu → Prop, R ρ' μ → TGB X scope tg js x ρ μ R
section
variable {α : Type} {scope : Scope} {elt : Expr} {zs : List E} {k : Nat}
theorem tgb_name (i : Nat) {js : List Nat} {n : Str} {x : E} (nd : X.N.Nodup) (hj : i ∈ js) (hi : X.N[i]? = some n) (hf : scope.names.lookup n = some .local) : TgB X scope (.Name n pos) js x ρ (ρ.set i (some x)) μ := fun R q s H C cl fp => tgp_name i q hj nd hi (.inl (lookup_relabel_local hf)) (.inr (lookup_relabel_local hf))
/-- the name that an expression is -/
def nmOf : Expr → Option Str
  | .Name x _ => some x
  | _ => none
theorem nmOf_some {e : Expr} {x : Str} (h : nmOf e = some x) : ∃ p, e = .Name x p := by
  cases e with
  | Name y p => cases h; exact ⟨p, rfl⟩
  | _ => cases h
def setsR (ρ : Rho) (is : List Nat) (xs : List E) : Rho := (is.zip xs).foldl (fun r p => r.set p.1 (some p.2)) ρ
theorem tgs_names {X : Cx} {js : List Nat} {R : Rho → Mu → Prop} (nd : X.N.Nodup) : ∀ (ns : List Str) (es : List Expr) (is : List Nat) (xs : List E) (ρ : Rho), es.map nmOf = ns.map some → xs.length = ns.length → (∀ i ∈ is, i ∈ js) → is.map (fun i => X.N[i]?) = ns.map some →
    (∀ n ∈ ns, Loc X.env.scope n ∧ (X.fn n = true ∨ X.env.scope.names.lookup n = some .local)) → R (setsR ρ is xs) μ → TGsP X es js xs ρ μ R := by
  intro ns
  induction ns with
  | nil =>
    intro es is xs ρ h1 h2 _ h3 _ q
    cases es with
    | cons _ _ => cases h1
    | nil =>
      cases xs with
      | cons _ _ => cases h2
      | nil =>
        cases is with
        | cons _ _ => cases h3
        | nil => exact tgs_nil q
  | cons n ns ih =>
    intro es is xs ρ h1 h2 hj h3 h4 q
    cases es with
    | nil => cases h1
    | cons e es =>
      cases xs with
      | nil => cases h2
      | cons x xs =>
        cases is with
        | nil => cases h3
        | cons i is =>
          obtain ⟨p, rfl⟩ := nmOf_some (List.cons.inj h1).1
          have l := h4 n (List.mem_cons_self ..)
          exact tgs_cons (tgp_name i (ih es is xs _ (List.cons.inj h1).2 (Nat.succ.inj h2) (fun i hi => hj i (List.mem_cons_of_mem _ hi)) (List.cons.inj h3).2 (fun n hn => h4 n (List.mem_cons_of_mem _ hn)) q) (hj i (List.mem_cons_self ..)) nd (List.cons.inj h3).1 l.1 l.2) rfl
theorem names_len : ∀ {es : List Expr} {ns : List Str} {env : PySem.Env}, es.map nmOf = ns.map some → (assignEach es env).length = ns.length ∧ (assignEach es env).findIdx? (·.1) = none
  | [], [], _, _ => ⟨rfl, rfl⟩
  | [], _ :: _, _, h => nomatch h
  | _ :: _, [], _, h => nomatch h
  | e :: es, n :: ns, env, h => by
    obtain ⟨p, rfl⟩ := nmOf_some (List.cons.inj h).1
    obtain ⟨h1, h2⟩ := names_len (env := env) (List.cons.inj h).2
    have e1 : assignEach (.Name n p :: es) env = (false, assign (.Name n p) env) :: assignEach es env := rfl
    rw [e1]
    refine ⟨congrArg Nat.succ h1, ?_⟩
    rw [List.findIdx?_cons, h2]
    rfl
/-- names = a tuple, | a list -/
theorem tgp_names {js : List Nat} (ns : List Str) (is : List Nat) {x : P} {xs : List P} {R : Rho → Mu → Prop} (nd : X.N.Nodup) (hx : Sq x xs) (hl : xs.length = ns.length) (q : R (setsR ρ is (xs.map .sh)) μ) (hc : X.calm = true := by rfl) (he : es.map nmOf = ns.map some := by rfl) (hj : ∀ i ∈ is, i ∈ js := by decide)
    (hi : is.map (fun i => X.N[i]?) = ns.map some := by rfl) (hf : ns.map (fun n => X.env.scope.names.lookup n) = ns.map fun _ => some .local := by rfl) : TGP X (.Tuple es k pos) js (.sh x) ρ μ R := by
  have h4 : ∀ n ∈ ns, Loc X.env.scope n ∧ (X.fn n = true ∨ X.env.scope.names.lookup n = some .local) := fun n hn => by
    have := List.map_inj_left.mp hf n hn
    exact ⟨.inl this, .inr this⟩
  have h := tgs_names (js := js) (R := R) nd ns es is (xs.map .sh) ρ he (by rw [List.length_map]; exact hl) hj hi h4 q
  obtain ⟨h1, h2⟩ := names_len (env := X.env) he
  rcases hx with rfl | rfl
  · exact tgp_unl hc h hl h1 h2
  · exact tgp_tup hc h hl h1 h2
theorem tgb_tup (ns : List Str) (is : List Nat) {js : List Nat} {x : P} {xs : List P} (nd : X.N.Nodup) (hx : Sq x xs) (hl : xs.length = ns.length := by rfl) (hc : X.calm = true := by rfl) (he : es.map nmOf = ns.map some := by rfl) (hj : ∀ i ∈ is, i ∈ js := by decide)
    (hi : is.map (fun i => X.N[i]?) = ns.map some := by rfl) (hf : ns.map (fun n => scope.names.lookup n) = ns.map fun _ => some .local := by rfl) : TgB X scope (.Tuple es k pos) js (.sh x) ρ (setsR ρ is (xs.map .sh)) μ := fun R q s H C cl fp =>
  tgp_names ns is nd hx hl q hc he hj hi (List.map_inj_left.mpr fun n hn => lookup_relabel_local (List.map_inj_left.mp hf n hn))
/-- [elt for x in ..] -/
theorem ev_lc0 (l : List α) (f : α → P) (r : α → Rho) (g : α → P) (js : List Nat) (own : List (Str × Nat)) (hc : X.calm = true) (nd : X.N.Nodup) (ok : BlkOk X.N X.env.scope scope own) (hi : EI X tg iter ρ μ zs) (hl : l.length ≤ 100000)
    (ht : ∀ a ∈ l, TgB X scope tg js (.sh (f a)) (wipeR ρ (own.map (·.2))) (r a) μ) (he : ∀ a ∈ l, EVB X scope elt (r a) μ (.sh (g a)))
    (hz : zs = l.map (fun a => .sh (f a)) := by first | rfl | (rw [List.map_map]; rfl) | simp) (hjs : ∀ j ∈ js, j ∈ own.map (·.2) := by decide)
    (hs : ∀ x, foldedSetIterable iter X.env x = pure x := by intro _; rfl) : EV X (.ListComp elt [⟨tg, iter, [], 0⟩] scope pos) ρ μ (.sh (.lst (l.map g))) := by
  have h := ev_lc (pos := pos) (elt := elt) (ifs := []) (scope := scope) l f (fun _ => true) g r own js hc nd ok hjs (hi.is hz) hl ht (fun a ha Q q s H C cl fp => tts_nil q) (fun a ha _ Q q s H C cl fp => he a ha s H C cl fp Q q) hs
  have e : l.filter (fun _ => true) = l := List.filter_eq_self.mpr fun _ _ => rfl
  rw [e] at h
  exact h
/-- [elt for x in .. if c] -/
theorem ev_lc1 (l : List α) (f : α → P) (r : α → Rho) (p : α → Bool) (g : α → P) (js : List Nat) (own : List (Str × Nat)) (hc : X.calm = true) (nd : X.N.Nodup) (ok : BlkOk X.N X.env.scope scope own) (hi : EI X tg iter ρ μ zs) (hl : l.length ≤ 100000)
    (ht : ∀ a ∈ l, TgB X scope tg js (.sh (f a)) (wipeR ρ (own.map (·.2))) (r a) μ) (hp : ∀ a ∈ l, ETB X scope c (r a) μ (p a)) (he : ∀ a ∈ l, p a = true → EVB X scope elt (r a) μ (.sh (g a)))
    (hz : zs = l.map (fun a => .sh (f a)) := by first | rfl | (rw [List.map_map]; rfl) | simp) (hjs : ∀ j ∈ js, j ∈ own.map (·.2) := by decide)
    (hs : ∀ x, foldedSetIterable iter X.env x = pure x := by intro _; rfl) : EV X (.ListComp elt [⟨tg, iter, [c], 0⟩] scope pos) ρ μ (.sh (.lst ((l.filter p).map g))) :=
  ev_lc l f p g r own js hc nd ok hjs (hi.is hz) hl ht (fun a ha Q q s H C cl fp => tts_one (hp a ha s H C cl fp Q q)) (fun a ha h Q q s H C cl fp => he a ha h s H C cl fp Q q) hs
end
/-- for, over values known beforehand -/
theorem tsp_forE (js : List Nat) {items : List E} (I : Nat → Rho → Mu → Prop) (hi : EI X tg iter ρ μ items) (i0 : I 0 ρ μ)
    (turn : ∀ i x ρ2 μ2, items[i]? = some x → I i ρ2 μ2 → TGP X tg js x ρ2 μ2 fun ρ3 μ3 => TSs X bodyS ρ3 μ3 { D with nx := I (i + 1), ct := I (i + 1), bk := D.nx }) (done : ∀ ρ2 μ2, I items.length ρ2 μ2 → D.nx ρ2 μ2)
    (hp : PassesOwn (model X.prog X.w) X.A X.env X.xe := by exact fun _ _ h => h.elim) (hc : X.calm = true := by rfl) (hs : ∀ x, foldedSetIterable iter X.env x = pure x := by intro _; rfl) : TSP X (.For tg iter bodyS [] pos) ρ μ D :=
  tsp_for js (hi _ ⟨I, i0, fun _ _ _ _ _ => trivial, turn, done⟩) hp hc hs
/-- .. over a list of any type -/
theorem tsp_forL {α : Type} (l : List α) (f : α → P) (js : List Nat) {items : List E} (I : Nat → Rho → Mu → Prop) (hi : EI X tg iter ρ μ items) (i0 : I 0 ρ μ)
    (turn : ∀ i a ρ2 μ2, l[i]? = some a → I i ρ2 μ2 → TGP X tg js (.sh (f a)) ρ2 μ2 fun ρ3 μ3 => TSs X bodyS ρ3 μ3 { D with nx := I (i + 1), ct := I (i + 1), bk := D.nx }) (done : ∀ ρ2 μ2, I l.length ρ2 μ2 → D.nx ρ2 μ2)
    (hz : items = l.map (fun a => .sh (f a)) := by first | rfl | (rw [List.map_map]; rfl) | simp) (hp : PassesOwn (model X.prog X.w) X.A X.env X.xe := by exact fun _ _ h => h.elim) (hc : X.calm = true := by rfl) (hs : ∀ x, foldedSetIterable iter X.env x = pure x := by intro _; rfl) : TSP X (.For tg iter bodyS [] pos) ρ μ D := by
  subst hz
  refine tsp_forE js I hi i0 (fun i x ρ2 μ2 hx h => ?_) (fun ρ2 μ2 h => done ρ2 μ2 (by rw [List.length_map] at h; exact h)) hp hc hs
  rw [List.getElem?_map] at hx
  cases e : l[i]? with
  | none => rw [e] at hx; cases hx
  | some a =>
    rw [e] at hx
    cases hx
    exact turn i a ρ2 μ2 e h
end
end PV

/-! enumerate over a tuple. -/
namespace PySem
open Sem (wp)
theorem pv_meets_enum1 {v : Value} {o : Obj} {G : Heap → Prop} (B : Begins v o G) : Meets (Builtin.«enumerate.__new__» ⟨[.type "enumerate", v], []⟩) (fun _ R s => G s.heap ∧ R (.ok (.ret (.ref (s.heap.push o).objs.size)))
    { s with heap := (s.heap.push o).push ⟨.type "enumerate", none, .fields #[.none, .bool false, .ref s.heap.objs.size, rawInt 0, .none, .none], #[]⟩ }) := .of_wp fun prog w A R s h => by
  rcases s with ⟨hp, g, d, tk, os⟩
  rcases h with ⟨h1, h⟩
  have sb := sub_enumerate
  have it : ∀ {A2 : Around} {E2 Q2 : Value → Shared → Prop}, Q2 (.ref hp.objs.size) ⟨hp.push o, g, d, tk, os⟩ → wpAny (model prog w) A2 (pyIter v) Q2 E2 ⟨hp, g, d, tk, os⟩ := fun q => B.iter prog w _ _ ⟨hp, g, d, tk, os⟩ _ h1 q
  wp_walk using it
  refine wpAny_stack_any fun st => wpAny_pure ?_
  split
  next c _ _ _ _ _ => cases (c == Value.type "enumerate") <;> (wp_walk using it; exact ⟨_, rfl, h⟩)
  next => wp_walk using it; exact ⟨_, rfl, h⟩
theorem pv_enum1 {prog : Program} {w : World} {A : Around} {E : Value → Shared → Prop} {s : Shared} {v : Value} {o : Obj} {G : Heap → Prop} {Q : Value → Shared → Prop} (B : Begins v o G) (h1 : G s.heap)
    (h : ∀ h', IsEnum h' (s.heap.objs.size + 1) s.heap.objs.size 0 .none → h'.get? s.heap.objs.size = some o → (∀ b u, s.heap.get? b = some u → h'.get? b = some u) → Q (.ref (s.heap.objs.size + 1)) { s with heap := h' }) :
    wpAny (model prog w) A (call (.type "enumerate") [v]) Q E s := by
  refine callType_new F.called_enumerate (by decide) (F.typeCall_enumerate_1 _) (F.newCall_enumerate_1 _) (fun x => F.args_object_init_2 x _) F.entry_enumerate_new (pv_meets_enum1 B) ⟨h1, ?_⟩
  have hz : (s.heap.push o).objs.size = s.heap.objs.size + 1 := Heap.size_push ..
  have he := Heap.get?_push_size (s.heap.push o) (o := ⟨.type "enumerate", none, .fields #[.none, .bool false, .ref s.heap.objs.size, rawInt 0, .none, .none], #[]⟩) rfl
  show _ ∧ _
  rw [hz] at he ⊢
  exact ⟨⟨_, he, rfl⟩, h _ he (Heap.get?_push_of_some _ (Heap.get?_push_size _ B.free)) fun b u x => Heap.get?_push_of_some _ (Heap.get?_push_of_some _ x)⟩
end PySem
namespace PV
open PySem PySem.Spec PyProof.Rows L2
/-- the tuple at a, a new pair (i, item) each turn -/
def ItT (K : PySem.W.Frag) (a : Addr) : It where
  go := fun i H => ∃ xs x, SqT K H a xs ∧ xs[i]? = some x
  yld := fun i H v H' => ∃ T x, v = .ref T ∧ H T = none ∧ H' = upd H T (.tup [.int (i : Nat), x]) ∧ ∀ xs, SqT K H a xs → xs[i]? = some x
  stop := fun i H => ∃ xs, SqT K H a xs ∧ xs.length = i
theorem turn_enumT {P : Program} {w : World} {K : PySem.W.Frag} {elts : List Expr} {kk : Nat} {tp : Pos} (a e it : Addr) (ne : e ≠ it) (items : Array Value) (hta : a ≠ it) (hea : e ≠ a) :
    Turn P w K (.Tuple elts kk tp) (ItT K a) [e, it] e (fun i h => (∃ old, IsEnum h e it (i : Int) old) ∧ h.IsTupleIter it a i) where
  mem := by simp
  obj := fun i h st b hb => by
    obtain ⟨⟨old, he⟩, o, ho, _, hd⟩ := st
    rcases List.mem_cons.mp hb with q | q
    · rw [q]
      exact ⟨_, he, fun v q => nomatch q⟩
    · rw [List.mem_singleton.mp q]
      exact ⟨o, ho, fun v q => by rw [hd] at q; cases q⟩
  keep := fun i h h' st k => by
    obtain ⟨⟨old, he⟩, hi⟩ := st
    exact ⟨⟨old, k e (by simp) _ he⟩, hi.at fun o q => k it (by simp) o q⟩
  item := by
    intro X hP hw hK hc i pins s σ H E I hf st hg
    subst hP hw hK
    obtain ⟨⟨old, he⟩, hit⟩ := st
    obtain ⟨xs, x, hq, hx⟩ := hg
    obtain ⟨its, rv, p, hz⟩ := I.tuple hq
    obtain ⟨u, hu, ru⟩ := rv.get hx
    have hel : e < s.heap.objs.size := Heap.lt_size he
    have hil : it < s.heap.objs.size := by
      obtain ⟨_, q, _⟩ := hit
      exact Heap.lt_size q
    have hlt : i < its.toArray.size := by
      rw [List.size_toArray]
      exact (List.getElem?_eq_some_iff.mp hu).1
    have D : Draws X.prog X.w X.A.in1 it [it, a] its.toArray.size _ _ := Draws.tuple (A := X.A.in1) (I.ok.hd hc) it a hta its.toArray
    refine wpAny_pyNext_enum_itemC D he ⟨hit, p⟩ hlt ne (by simp [ne, hea]) fun y h' tk hy ho hs' hT hsz hk => ?_
    have hy' : its.toArray[i]? = some y := hy
    rw [List.getElem?_toArray, hu] at hy'
    cases hy'
    refine ⟨_, rfl, wpAny_letOwnedTupleGo_enum (s := { s with heap := h', toks := tk + 1 }) ho fun h'' he' sb => ?_⟩
    have hT2 := (sb.2 _ (Nat.ne_of_gt hel)).trans hT
    have new : ObjOk X.prog X.w (upd H s.heap.objs.size (.tup [.int (i : Nat), x])) h'' s.heap.objs.size (.tup [.int (i : Nat), x]) :=
      ⟨(by decide : 2 ≤ sizeLine), [.int i tk, u], .cons ⟨_, rfl⟩ (.cons ru .nil), ⟨_, hT2, rfl, _, rfl⟩⟩
    have nm : ∀ {b : Addr}, b ∉ [e, it] → b ≠ e ∧ b ≠ it := fun hb => ⟨fun z => hb (by simp [z]), fun z => hb (by simp [z])⟩
    have I1 : Inv X pins σ (upd H s.heap.objs.size (.tup [.int (i : Nat), x])) { s with heap := h'', toks := tk + 1 } :=
      I.turnedNew (ch := [e, it]) (fun b ob hb q => (sb.2 b (nm hb).1).trans (hk b ob (nm hb).1 (nm hb).2 q)) hf (Nat.le_refl _) new
    refine ⟨.ref s.heap.objs.size, _, I1, rfl, ⟨_, x, rfl, I.hok.fresh (Nat.le_refl _), rfl, fun ys hy => by rw [I.tuple_inj hy hq]; exact hx⟩, ⟨⟨u, by rw [show ((i + 1 : Nat) : Int) = (i : Int) + 1 by omega]; exact he'⟩, hs'.1.at fun o q => (sb.2 it (Ne.symm ne)).trans q⟩, fun b hb => ?_⟩
    have hb' : b < s.heap.objs.size := by
      rcases List.mem_cons.mp hb with z | z
      · rw [z]; exact hel
      · rw [List.mem_singleton.mp z]; exact hil
    rw [upd_ne (Nat.ne_of_lt hb')]
    exact (hf b hb).1
  done := by
    intro X hP hw hK hc i pins s σ H E I hf st hg
    subst hP hw hK
    obtain ⟨⟨old, he⟩, hit⟩ := st
    obtain ⟨xs, hq, hx⟩ := hg
    obtain ⟨its, rv, p, hz⟩ := I.tuple hq
    have D : Draws X.prog X.w X.A.in1 it [it, a] its.toArray.size _ _ := Draws.tuple (A := X.A.in1) (I.ok.hd hc) it a hta its.toArray
    have hl : i = its.toArray.size := by rw [List.size_toArray, ← rv.length, hx]
    subst hl
    obtain ⟨f0, f1, f2, f3, f4, f5⟩ := hf it (by simp)
    exact wpAny_pyNext_enum_endD D he ⟨hit, p⟩ fun h' eb => ⟨rfl, I.turned (t' := s.toks) (fun b o hb q => eb b o hb q) f0 f1 f3 f4 f5⟩
  self := fun A i s Q E st h => by
    obtain ⟨⟨_, he⟩, _⟩ := st
    exact wpAny_pyIter_enum he h
theorem pi_enumT {X : Cx} {e : Expr} {ta : TA} {p pos tp : Pos} {elts : List Expr} {kk : Nat} (hg : Gl X "enumerate") (hm : X.mg "enumerate" = none) (ha : PA X [e] ta) (hs : starEach [e] X.env = [(false, eval e X.env)]) :
    PI X (.Tuple elts kk tp) (.Call (.Name "enumerate" p) [e] [] pos) (fun σ H R => ta σ H fun vs H1 => ∃ a xs, vs = [.ref a] ∧ SqT X.K H1 a xs ∧ R (ItT X.K a) H1) := .mk fun pins s σ H R I h => by
  refine Call_ (ld_blt I hg hm boot_enumerate (PyProof.Rows.callWith_type1 (thn (ha.run pos pins s σ H _ I h) ?_) hs rfl))
  rintro us s1 ⟨vs, H1, I1, r1, a, xs, rfl, hq, q⟩
  cases r1 with
  | cons r rr =>
    cases rr
    cases r
    obtain ⟨its, rv, p1, hz⟩ := I1.tuple hq
    have hal : a < s1.heap.objs.size := by
      obtain ⟨_, z, _⟩ := p1
      exact Heap.lt_size z
    refine pv_enum1 (begins_tuple a its.toArray) p1 fun h' he ho hk => wpAny_pyIter_enum he ?_
    have I2 : Inv X pins σ H1 { s1 with heap := h' } := I1.kept (t' := s1.toks) hk
    refine ⟨s1.heap.objs.size + 1, [s1.heap.objs.size + 1, s1.heap.objs.size], _, _, H1, rfl, I2, turn_enumT a (s1.heap.objs.size + 1) s1.heap.objs.size (Nat.succ_ne_self _) its.toArray (Nat.ne_of_lt hal) (Nat.ne_of_gt (Nat.lt_succ_of_lt hal)), ⟨⟨.none, he⟩, ⟨_, ho, rfl, rfl⟩⟩, fun b hb => ?_, q⟩
    have hle : s1.heap.objs.size ≤ b := by
      rcases List.mem_cons.mp hb with z | z
      · rw [z]; exact Nat.le_succ _
      · rw [List.mem_singleton.mp z]; exact Nat.le_refl _
    exact I1.fpOk hle (I1.hok.fresh hle)
theorem walk_enumT {K : PySem.W.Frag} {a : Addr} {xs : List V} : Walk (ItT K a) xs.length (fun H => SqT K H a xs) (YPair (fun i => some (.int (i : Nat))) (fun i => xs[i]?)) := by
  refine ⟨fun i _ hi q => ⟨xs, xs[i], q, by simp [hi]⟩, fun _ q => ⟨xs, q, rfl⟩, fun i H v H' _ q ⟨T, x, h1, h2, h3, h4⟩ => ⟨T, .int (i : Nat), x, h1, h2, h3, rfl, h4 xs q⟩⟩
section
variable {X : Cx} {tg a b c e iter : Expr} {es : List Expr} {ρ : Rho} {μ : Mu} {pos tpos p2 : Pos} {xs ys : List P}
theorem ei_enumT {elts : List Expr} {kk : Nat} (hm : X.mg "enumerate" = none) (h : EV X e ρ μ (.sh (.tup xs))) (hg : Gl X "enumerate" := by rfl) (hs : starEach [e] X.env = [(false, eval e X.env)] := by rfl) :
    EI X (.Tuple elts kk tpos) (.Call (.Name "enumerate" p2) [e] [] pos) ρ μ ((List.range xs.length).map fun i => .sh (.tup [.int (i : Nat), xs.getD i .non])) := fun R q ad Hb H σ W N R' g => by
  refine pi_go (pi_enumT hg hm pa_self hs) ((ea_cons h ea_nil hs) (fun ys μ1 => ys = [.sh (.tup xs)] ∧ μ1 = μ) ⟨rfl, rfl⟩ ad Hb H σ W N _ ?_)
  rintro vs ys μ1 ad1 Hb1 H1 ⟨rfl, rfl⟩ s1 W1 r1
  obtain ⟨v, rfl, r⟩ := vals1 r1
  obtain ⟨a, vs, rfl, hq, r⟩ := Rep.tup_inv r
  have w := walk_enumT (K := X.K) (a := a) (xs := vs)
  refine ⟨a, vs, rfl, .inl (.inl (W1.tup hq)), g _ _ _ _ _ _ _ q s1 W1 (pwalk_pair (K := X.K) (f' := fun i => .int (i : Nat)) (g' := fun i => xs.getD i .non) (by rw [r.length] at w; exact w) (fun ad2 Hb2 H2 μ2 s W => Or.inl (Or.inl (W.tup (s.ex _ _ hq)))) (fun i v _ h => by cases h; exact .int _) fun i v hi h => ?_)⟩
  obtain ⟨z, h1, h2⟩ := pd_right r i v h
  rw [List.getD_eq_getElem?_getD, h1]
  exact h2
theorem ei_enumS {x : P} {elts : List Expr} {kk : Nat} (hx : Sq x xs) (hm : X.mg "enumerate" = none) (h : EV X e ρ μ (.sh x)) (hg : Gl X "enumerate" := by rfl) (hs : starEach [e] X.env = [(false, eval e X.env)] := by rfl) :
    EI X (.Tuple elts kk tpos) (.Call (.Name "enumerate" p2) [e] [] pos) ρ μ ((List.range xs.length).map fun i => .sh (.tup [.int (i : Nat), xs.getD i .non])) := by
  rcases hx with rfl | rfl
  · exact ei_enum hm h hg hs
  · exact ei_enumT hm h hg hs
end
end PV

/-! Dict comprehensions, their keys ints, texts, or tuples. -/
namespace PV
open PySem PySem.Spec PyProof.Rows L2
/-- d[y] = v within a comprehension -/
theorem dput_in {X : Cx} {pins : List (Addr × Obj)} {σ : L2.St} {H H2 : Hp} {s : Shared} {E : Value → Shared → Prop} {D : Addr} {y v : V} {u r : Value} {Q : Unit → Shared → Prop} (hu : X.A.units < cLine) (I : Inv X pins σ H s) (g : DPut H D y v H2) (ry : RelV y u) (rv : RelV v r)
    (h : ∀ s2, Inv X pins σ H2 s2 → Q () s2) : wpAny (model X.prog X.w) X.A (dictSet D u r) Q E s := by
  rcases g with ⟨ks, k, e, rfl, l, rfl⟩ | ⟨ks, k, b, e, rfl, eb, l, rfl⟩
  · exact d_dictSet I e l ry rv h
  · obtain rfl : u = .ref b := ry
    obtain ⟨z, nm, xs, rel, dd⟩ := dt_of I.hok e
    have l2 := length_putK ks k v
    refine wpAny_dictSet_heap (hsz := by rw [← Paired.length rel]; exact z) hu (key_of I.hok eb) dd fun h2 d2 sb => h _ ?_
    obtain ⟨q, es, ep, hq, a1, a2, a3, _, a4⟩ := d2
    refine d_write I (by rw [e]; trivial) sb ⟨q, hq⟩ ⟨by omega, nm, _, (rel.put k eb rv).keeps fun c ys ec => ?_, q, es, ep, hq, a1, a2, a3, a4⟩
    exact (upd_ne (ne_of ec e fun z => nomatch z)).trans ec
/-- {k: v for tg in iter if ..}: O0 how the empty dict is read; D the new dict -/
def tDcG (O0 : HO) (wi : TI) (g : TG) (tt : TT) (tk tv : TE) (vs : List Nat) : TE := fun σ H Q => wi σ H fun J H1 => ∀ D, H1 D = none → ∃ Wt : Nat → Nat → Hp → Prop, (∃ m, Wt 0 m (upd H1 D O0)) ∧ ∀ i m H, Wt i m H →
  J.stop i H ∧ Q (.ref D) H ∨ J.go i H ∧ ∃ Nx : Hp → Prop, (∀ H2, Nx H2 → ∃ m2, m2 < m ∧ Wt (i + 1) m2 H2) ∧ ∀ x H2, J.yld i H x H2 → g x (wipe σ vs) H2 fun σ2 H3 => wipe σ2 vs = wipe σ vs ∧ tt σ2 H3 fun b H4 =>
    if b = true then tk σ2 H4 fun y H5 => tv σ2 H5 fun z H6 => ∃ H7, DPut H6 D y z H7 ∧ Nx H7 else Nx H4
section
variable {X : Cx} {kx vx tg iter : Expr} {ifs : List Expr} {scope : Scope} {own : List (Str × Nat)} {pos : Pos} {wi : TI} {g : TG} {tt : TT} {tk tv : TE} {O0 : HO}
theorem pe_dcG (hO : O0 = .dK [] ∨ O0 = .dT []) (hu : X.A.units < cLine) (hc : X.calm = true) (nd : X.N.Nodup) (hi : PI X tg iter wi) (ok : BlkOk X.N X.env.scope scope own)
    (hg : ∀ s H C cl fp, PG (X.blk s H scope (compEnvC scope cl C X.env) fp) tg g) (ht : ∀ s H C cl fp, PTs (X.blk s H scope (compEnvC scope cl C X.env) fp) ifs tt)
    (hk : ∀ s H C cl fp, PE (X.blk s H scope (compEnvC scope cl C X.env) fp) kx tk) (he : ∀ s H C cl fp, PE (X.blk s H scope (compEnvC scope cl C X.env) fp) vx tv)
    (hs : ∀ x, foldedSetIterable iter X.env x = pure x) : PE X (.DictComp kx vx [⟨tg, iter, ifs, 0⟩] scope pos) (tDcG O0 wi g tt tk tv (own.map (·.2))) := .mk fun pins s σ H Q I h => by
  rw [arm_eval_DictComp]
  have clo : ∀ y ∈ scope.names, y.2 = .free → ∃ c, X.env.cells.lookup y.1 = some c := fun y hy e => I.ok.has _ (ok.free y hy e)
  refine wpAny_comprehension_free (use := none) rfl hs (closure_ok clo) ok.kind (fun y hy e => by rw [ok.uniq y hy, e]) (thn (hi.run pins s σ H _ I h) fun _ _ hx => thn hx ?_)
  rintro _ s2 ⟨it, fp, tn, J, H2, rfl, I2, T, st2, f2, q⟩
  refine wpAny_newObj_type (newEnv_comp ?_)
  have new : H2 s2.heap.objs.size = none := I2.hok.fresh (Nat.le_refl _)
  obtain ⟨Wt, ⟨m0, w0⟩, turn⟩ := q _ new
  let h3 : Heap := s2.heap.push ⟨.type "dict", none, .dict #[], #[]⟩
  let D := s2.heap.objs.size
  have empt : ObjOk X.prog X.w (upd H2 D O0) h3 D O0 := by
    rcases hO with rfl | rfl
    · exact dk_empty _ I2.big
    · exact dt_empty _ I2.big
  have I3 : Inv X pins σ (upd H2 D O0) { s2 with heap := h3 } := I2.laid (t' := s2.toks) (fun b o e => Heap.get?_push_of_some _ e) (Nat.le_refl _) empt
  have lt2 : ∀ b ∈ fp, b < D := fun b hb => by
    obtain ⟨o, e, _⟩ := T.obj _ _ st2 b hb
    exact Heap.lt_size e
  have lt3 : ∀ b ∈ fp, b < h3.objs.size := fun b hb => by
    rw [Heap.size_push]
    exact Nat.lt_succ_of_lt (lt2 b hb)
  have f3 : ∀ b ∈ fp, FpOk X pins (upd H2 D O0) b := fun b hb => ⟨(upd_ne (Nat.ne_of_lt (lt2 b hb))).trans (f2 b hb).1, (f2 b hb).2⟩
  have st3 : tn 0 h3 := T.keep _ _ _ st2 fun b _ o e => Heap.get?_push_of_some _ e
  have I4 := block_start I3 ok nd fun b hb => ⟨f3 b hb, lt3 b hb⟩
  let s3 : Shared := { s2 with heap := h3 }
  let cl := cellsFrom (h3.objs.size + 1) scope.names (cloFrom X.env.cells scope.names [])
  have pg := hg s3 (upd H2 D O0) h3.objs.size cl fp
  have pt := ht s3 (upd H2 D O0) h3.objs.size cl fp
  have pk := hk s3 (upd H2 D O0) h3.objs.size cl fp
  have pv := he s3 (upd H2 D O0) h3.objs.size cl fp
  let ce := compEnvC scope cl h3.objs.size X.env
  let Y := X.blk s3 (upd H2 D O0) scope ce fp
  let s4 : Shared := { s2 with heap := pushCells (h3.push ⟨.type "dict", none, .dict #[], #[]⟩) scope.names }
  have st4 : tn 0 s4.heap := T.keep _ _ _ st3 fun b _ o e => pushCells_keeps _ _ _ _ (Heap.get?_push_of_some _ e)
  have stat : ∀ {σ1 H1 s1}, Inv Y [] σ1 H1 s1 → (∀ b ∈ fp, H1 b = none) → ∀ b ∈ fp, FpOk Y [] H1 b := fun {σ1 H1 s1} J1 hn b hb =>
    ⟨hn b hb, (J1.ok.exf b hb).1, J1.ok.exfs b hb, .inl hb, fun x c e => (J1.ok.exf b hb).2 x c e, fun p hp => absurd (show p ∈ ([] : List (Addr × Obj)) ++ [] from hp) (by simp)⟩
  have last : ∀ {s6 : Shared} {H6 : Hp}, Inv Y [] (wipe σ (own.map (·.2))) H6 s6 → Q (.ref D) H6 → compPost (model X.prog X.w) X.A X.xe none (EP X pins σ Q) (.ref D) h3.objs.size (.ok .next) s6 := fun {s6 H6} I6 qq => by
    have I7 : Inv X pins σ H6 s6 := I3.call' (ch := fp) I6.os I6.base I6.hok I6.bare fun b hb => ⟨(f3 b hb).2.2.2.1, (f3 b hb).2.1, (f3 b hb).2.2.2.2.1, (f3 b hb).2.2.2.2.2⟩
    obtain ⟨m, ns, _⟩ := I6.loc
    obtain ⟨a0, a1, _, a3, a4, a5⟩ := I3.fpOk (Nat.le_refl _) (show H6 h3.objs.size = none from I6.free)
    exact ⟨m, ns, fun h5 sb => ⟨.ref D, H6, I7.turned (t' := s6.toks) (fun b o hb e => (sb.2 b hb).trans e) a0 a1 a3 a4 a5, rfl, qq⟩⟩
  show codeAny _ _ (.compStart (.DictComp kx vx [⟨tg, iter, ifs, 0⟩] scope pos) 0 (.ref it) (.ref D) ce) (compPost (model X.prog X.w) X.A X.xe none (EP X pins σ Q) (.ref D) h3.objs.size) s4
  refine codeAny_compStart_dict ?_ (T.self X.A 0 _ _ _ st4 ?_) <;>
  · refine compLoop_anyD (fun n s5 => ∃ i H5, Inv Y [] (wipe σ (own.map (·.2))) H5 s5 ∧ tn i s5.heap ∧ (∀ b ∈ fp, H5 b = none) ∧ Wt i n H5) ?_ m0 ⟨0, _, I4, st4, fun b hb => (f3 b hb).1, w0⟩
    rintro n s5 ⟨i, H5, I5, st5, n5, w5⟩
    rcases turn i n H5 w5 with ⟨stop, qq⟩ | ⟨go, Nx, dn, step⟩
    · refine thnF (T.done Y rfl rfl rfl hc i [] s5 _ H5 (fun _ _ => False) I5 (stat I5 n5) st5 stop) ?_
      rintro _ s6 ⟨rfl, I6⟩
      exact last I6 qq
    · refine thnF (T.item Y rfl rfl rfl hc i [] s5 _ H5 (fun _ _ => False) I5 (stat I5 n5) st5 go) ?_
      rintro _ s6 ⟨u, rfl, h6⟩
      refine thnF h6 fun _ s7 ⟨x, H7, I7, r7, y7, st7, n7⟩ => ?_
      refine thnF (pg.run _ s7 _ H7 x u _ (I7.pinned (stat I7 n7) (T.obj _ _ st7)) r7 (step x H7 y7)) fun _ s8 ⟨σ8, H8, I8, hw8, q8⟩ => ?_
      refine thnF (pt.run _ s8 σ8 H8 _ I8 q8) fun b s9 ⟨H9, I9, q9⟩ => ?_
      have over : ∀ {se : Shared} {He : Hp}, Inv Y ([] ++ pinsAt fp s7.heap) σ8 He se → Nx He → ∃ m, m < n ∧ ∃ i H5, Inv Y [] (wipe σ (own.map (·.2))) H5 se ∧ tn i se.heap ∧ (∀ b ∈ fp, H5 b = none) ∧ Wt i m H5 := fun {se He} Ie nx => by
        obtain ⟨m2, hm, we⟩ := dn He nx
        have at_ : ∀ b ∈ fp, ∀ o, s7.heap.get? b = some o → se.heap.get? b = some o ∧ He b = none := fun b hb o e => by
          have z := Ie.pin (b, o) (List.mem_append_right _ (List.mem_append_right _ (mem_pinsAt hb e)))
          exact ⟨z.1, z.2.1⟩
        refine ⟨m2, hm, i + 1, He, (Ie.unpinned (pins := [])).weak (by rw [← hw8, wipe_length]) (fun j v e => ?_), T.keep _ _ _ st7 fun b hb o e => (at_ b hb o e).1, fun b hb => ?_, we⟩
        · rw [← hw8] at e
          exact (wipe_some e).1
        · obtain ⟨o, e, _⟩ := T.obj _ _ st7 b hb
          exact (at_ b hb o e).2
      cases b with
      | false => exact over I9 q9
      | true =>
        refine thnF (pk.run _ s9 σ8 H9 _ I9 q9) fun yk s10 ⟨y, H10, I10, r10, q10⟩ => ?_
        refine thnF (pv.run _ s10 σ8 H10 _ I10 q10) fun yv s11 ⟨z, H11, I11, r11, H12, put, nx⟩ => ?_
        exact dput_in (X := Y) hu I11 put r10 r11 fun s12 I12 => over I12 nx
end
end PV

/-! Dict comprehensions by values. -/
namespace PV
open PySem PySem.Spec PyProof.Rows L2
theorem pd_unmap {κ : Type} {K : PySem.W.Frag} {ad : List Addr} {Hb : Hp} : ∀ {vs : List (κ × V)} {zs : List (κ × P)}, Paired (fun p q => p.1 = q.1 ∧ RepE K ad Hb p.2 q.2) vs (zs.map fun q => (q.1, E.sh q.2)) → Paired (fun p q => p.1 = q.1 ∧ Rep K Hb p.2 q.2) vs zs
  | _, [], .nil => .nil
  | _, _ :: _, .cons r t => .cons r (pd_unmap t)
theorem pd_fst {κ α β : Type} {F : α → β → Prop} : ∀ {vs : List (κ × α)} {zs : List (κ × β)}, Paired (fun p q => p.1 = q.1 ∧ F p.2 q.2) vs zs → vs.map (·.1) = zs.map (·.1)
  | _, _, .nil => rfl
  | _, _, .cons r t => by rw [List.map_cons, List.map_cons, pd_fst t, r.1]
section
variable {κ : Type} [DecidableEq κ]
theorem foldl_dput_len {α β : Type} (kf : α → κ) (vf : α → β) : ∀ (l : List α) (d : List (κ × β)), (l.foldl (fun d a => dput d (kf a) (vf a)) d).length ≤ d.length + l.length
  | [], d => Nat.le_refl _
  | a :: l, d => by
    rw [List.foldl_cons, List.length_cons]
    have h1 := foldl_dput_len kf vf l (dput d (kf a) (vf a))
    have h2 := dput_len d (kf a) (vf a)
    omega
theorem dput_map {β γ : Type} (g : β → γ) (d : List (κ × β)) (k : κ) (v : β) : dput (d.map fun q => (q.1, g q.2)) k (g v) = (dput d k v).map fun q => (q.1, g q.2) := by
  unfold dput
  have e : ((d.map fun q => (q.1, g q.2)).any fun kv => decide (kv.1 = k)) = (d.any fun kv => decide (kv.1 = k)) := by
    rw [List.any_map]
    rfl
  rw [e]
  split
  · rw [List.map_map, List.map_map]
    refine List.map_congr_left fun q _ => ?_
    by_cases c : q.1 = k <;> simp [c]
  · rw [List.map_append]
    rfl
end
section
variable {X : Cx} {tg iter : Expr} {ρ : Rho} {μ : Mu} {pos : Pos}

theorem dcT_main {kx vx : Expr} {ifs : List Expr} {scope : Scope} {own : List (Str × Nat)} {js : List Nat} {Q' : VK} {ad : List Addr} {Hb H : Hp} {σ : L2.St} {Fin : List (List Key × E) → Mu → Prop} (hjs : ∀ j ∈ js, j ∈ own.map (·.2))
    (h : TIP X tg iter ρ μ fun items G μ1 => ∃ I : Nat → List (List Key × E) → Mu → Prop, I 0 [] μ1 ∧ (∀ i acc μ2, i ≤ items.length → I i acc μ2 → G μ2) ∧
      (∀ i x acc μ2, items[i]? = some x → I i acc μ2 → TGB X scope tg js x (wipeR ρ (own.map (·.2))) μ2 fun ρ3 μ3 => TTsB X scope ifs ρ3 μ3 fun b μ4 => if b = true then TEB X scope kx ρ3 μ4 (fun y μ5 => TEB X scope vx ρ3 μ5 fun z μ6 => ∃ k : List Key, y = .sh (.tup (k.map kP)) ∧ acc.length < 100000 ∧ I (i + 1) (dput acc k z) μ6) else I (i + 1) acc μ4) ∧
      ∀ acc μ2, I items.length acc μ2 → Fin acc μ2)
    (W : Wd X.K ad Hb H μ) (N : Env X.K ad Hb σ ρ)
    (fin : ∀ (D : Addr) (acc : List (List Key × E)) (μ2 : Mu) (vs : List (List Key × V)) (ad1 : List Addr) (Hb1 H1 : Hp) (ad2 : List Addr) (Hb2 H2 : Hp), Step ad Hb H ad1 Hb1 H1 → Step ad1 Hb1 H1 ad2 Hb2 H2 → Wd X.K ad2 Hb2 H2 μ2 → H1 D = none → D ∉ ad2 → Hb2 D = none → H2 D = some (.dT vs) → Paired (fun p q => p.1 = q.1 ∧ RepE X.K ad2 Hb2 p.2 q.2) vs acc → Fin acc μ2 → Q' (.ref D) H2)
    : tDcG (.dT []) (TIV X tg iter) (gB X scope tg) (tB X scope ifs) (eB X scope kx) (eB X scope vx) (own.map (·.2)) σ H Q' := by
  refine h ad Hb H σ W N _ fun J items G μ1 ad1 Hb1 H1 ⟨I, i0, hG, turn, done⟩ s1 W1 w D hD => ?_
  have nD : D ∉ ad1 := fun z => W1.trk D z hD
  have bD : Hb1 D = none := W1.base_none hD
  let Pv : Nat → Hp → Prop := fun i H' => ∃ acc μ2 vs ad2 Hb2, I i acc μ2 ∧ Step ad1 Hb1 H1 ad2 Hb2 H' ∧ Wd X.K ad2 Hb2 H' μ2 ∧ D ∉ ad2 ∧ Hb2 D = none ∧ H' D = some (.dT vs) ∧ Paired (fun p q => p.1 = q.1 ∧ RepE X.K ad2 Hb2 p.2 q.2) vs acc
  refine ⟨fun i m H' => m = items.length - i ∧ i ≤ items.length ∧ Pv i H', ⟨items.length, rfl, Nat.zero_le _, [], μ1, [], ad1, Hb1, i0, (Step.refl _ _ _).apart hD, W1.apart nD bD, nD, bD, upd_same, .nil⟩, ?_⟩
  rintro i m H' ⟨rfl, hi, acc, μ2, vs, ad2, Hb2, iI, s2, W2, n2, b2, d2, r2⟩
  by_cases hlt : i < items.length
  · refine .inr ⟨w.goes i ad2 Hb2 H' μ2 hlt s2 W2 (hG i acc μ2 hi iI), Pv (i + 1), fun H'' p => ⟨items.length - (i + 1), by omega, rfl, hlt, p⟩, fun x H3 y => ?_⟩
    obtain ⟨Hb3, e, s3, W3, he, re⟩ := w.yields i ad2 Hb2 H' μ2 x H3 hlt s2 W2 (hG i acc μ2 hi iI) y
    have t3 := s2.trans s3
    -- D stays apart along any step
    have on : ∀ {ad Hb H ad' Hb' H'}, D ∉ ad ∧ Hb D = none ∧ H D = some (.dT vs) → Step ad Hb H ad' Hb' H' → D ∉ ad' ∧ Hb' D = none ∧ H' D = some (.dT vs) := fun {ad Hb H ad' Hb' H'} k s => ⟨fun z => (s.new D z).elim k.1 (fun z => nomatch k.2.2.symm.trans z), s.fgn D _ k.1 k.2.2 rfl k.2.1, s.fr0 k.1 k.2.1 k.2.2⟩
    have k3 := on ⟨n2, b2, d2⟩ s3
    intro s H0 C cl fp
    refine turn i e acc μ2 he iI s H0 C cl fp ad2 Hb3 H3 _ x W3 ((Env.step (s1.trans t3) N).wipe _) re _ fun ρ4 μ4 ad4 Hb4 H4 σ4 q4 s4 W4 N4 b4 => ⟨?_, ?_⟩
    · have e1 := wipe_get (σ := wipe σ (own.map (·.2))) (σ' := σ4) (own.map (·.2)) b4.1 fun k hk => b4.2 k fun z => hk (hjs k z)
      rw [e1]
      exact wipe_get _ (wipe_length _ _) fun k hk => wipe_out hk
    intro s H0 C cl fp
    refine q4 s H0 C cl fp ad4 Hb4 H4 σ4 W4 N4 _ fun b μ5 ad5 Hb5 H5 q5 s5 W5 => ?_
    have k5 := on (on k3 s4) s5
    have t5 := t3.trans (s4.trans s5)
    have r5 : Paired (fun (p : List Key × V) (q : List Key × E) => p.1 = q.1 ∧ RepE X.K ad5 Hb5 p.2 q.2) vs acc := pd_imp (fun _ _ z => ⟨z.1, RepE.step (s3.trans (s4.trans s5)) z.2⟩) r2
    cases b with
    | false => exact ⟨acc, μ5, vs, ad5, Hb5, q5, t5, W5, k5.1, k5.2.1, k5.2.2, r5⟩
    | true =>
      intro s H0 C cl fp
      refine q5 s H0 C cl fp ad5 Hb5 H5 σ4 W5 (Env.step s5 N4) _ fun yv y μ6 ad6 Hb6 H6 q6 s6 W6 r6 => ?_
      intro s H0 C cl fp
      refine q6 s H0 C cl fp ad6 Hb6 H6 σ4 W6 (Env.step s6 (Env.step s5 N4)) _ fun zv z μ7 ad7 Hb7 H7 q7 s7 W7 r7 => ?_
      obtain ⟨k, rfl, hl, q7⟩ := q7
      have k7 := on (on k5 s6) s7
      have r6' : Rep X.K Hb7 yv (.tup (k.map kP)) := RepE.step s7 r6
      have hlv : vs.length < sizeLine := Nat.lt_of_lt_of_le (by rw [r2.length]; exact hl) (by decide)
      obtain ⟨b, rfl, hb⟩ := rep_keyT r6'
      have put := DPut.t (v := zv) k7.2.2 (W7.tup hb) hlv
      refine ⟨_, put, dput acc k z, μ7, putK vs k zv, ad7, Hb7, q7, ((t5.trans s6).trans s7).apart hD, W7.apart k7.1 k7.2.1, k7.1, k7.2.1, upd_same, ?_⟩
      exact pd_dput (F := fun u v => RepE X.K ad7 Hb7 u v) (pd_imp (fun _ _ q => ⟨q.1, RepE.step (s6.trans s7) q.2⟩) r5) k r7
  · have e : i = items.length := by omega
    subst e
    exact .inl ⟨w.stops ad2 Hb2 H' μ2 s2 W2 (hG _ acc μ2 hi iI), fin D acc μ2 vs ad1 Hb1 H1 ad2 Hb2 H' s1 s2 W2 hD n2 b2 d2 r2 (done acc μ2 iI)⟩
theorem tep_dcT {kx vx : Expr} {ifs : List Expr} {scope : Scope} {Q : E → Mu → Prop} (own : List (Str × Nat)) (js : List Nat) (hu : X.A.units < cLine) (hc : X.calm = true) (hN : X.N.Nodup) (ok : BlkOk X.N X.env.scope scope own) (hjs : ∀ j ∈ js, j ∈ own.map (·.2))
    (h : TIP X tg iter ρ μ fun items G μ1 => ∃ I : Nat → List (List Key × E) → Mu → Prop, I 0 [] μ1 ∧ (∀ i acc μ2, i ≤ items.length → I i acc μ2 → G μ2) ∧
      (∀ i x acc μ2, items[i]? = some x → I i acc μ2 → TGB X scope tg js x (wipeR ρ (own.map (·.2))) μ2 fun ρ3 μ3 => TTsB X scope ifs ρ3 μ3 fun b μ4 => if b = true then TEB X scope kx ρ3 μ4 (fun y μ5 => TEB X scope vx ρ3 μ5 fun z μ6 => ∃ k : List Key, y = .sh (.tup (k.map kP)) ∧ acc.length < 100000 ∧ I (i + 1) (dput acc k z) μ6) else I (i + 1) acc μ4) ∧
      ∀ acc μ2, I items.length acc μ2 → (∃ zs : List (List Key × P), acc = zs.map (fun q => (q.1, .sh q.2)) ∧ Q (.sh (.dT zs)) μ2) ∨ Q (.pt μ2.length) (μ2 ++ [some (.dT acc)]))
    (hs : ∀ x, foldedSetIterable iter X.env x = pure x := by intro _; rfl) : TEP X (.DictComp kx vx [⟨tg, iter, ifs, 0⟩] scope pos) ρ μ Q := fun ad Hb H σ W N Q' g => by
  refine pe_go (pe_dcG (O0 := .dT []) (.inr rfl) hu hc hN pi_self ok pgB ptB peB peB hs) (dcT_main (Fin := fun acc μ2 => (∃ zs : List (List Key × P), acc = zs.map (fun q => (q.1, .sh q.2)) ∧ Q (.sh (.dT zs)) μ2) ∨ Q (.pt μ2.length) (μ2 ++ [some (.dT acc)])) hjs h W N ?_)
  intro D acc μ2 vs ad1 Hb1 H1 ad2 Hb2 H2 s1 s2 W2 h1 h2 h3 h4 r q
  rcases q with ⟨zs, rfl, q⟩ | q
  · obtain ⟨W3, s3⟩ := W2.adopt s2 h1 h2 h3 h4
    have r' : Paired (fun (p : List Key × V) (q : List Key × P) => p.1 = q.1 ∧ Rep X.K Hb2 p.2 q.2) vs zs := pd_unmap r
    have l : vs.map (·.1) = zs.map (·.1) := pd_fst r'
    exact g _ (.sh (.dT zs)) _ _ _ _ q (s1.trans s3) W3 (.dT upd_same l fun i v x h5 h6 => Rep.mono (Ex.new h3) (pd_get r' i v x h5 h6).2)
  · obtain ⟨W3, s3⟩ := W2.adoptC (c := .dT acc) s2 h1 h2 h3 ⟨vs, h4, r⟩
    exact g _ (.pt μ2.length) _ _ _ _ q (s1.trans s3) W3 ⟨D, by rw [← W2.len]; simp, rfl⟩
/-- a pure one -/
theorem ev_dcT {α : Type} (l : List α) (f : α → P) (p : α → Bool) (kf : α → List Key) (vf : α → P) (r : α → Rho) {kx vx : Expr} {ifs : List Expr} {scope : Scope} {zs : List E} (own : List (Str × Nat)) (js : List Nat) (hu : X.A.units < cLine) (hc : X.calm = true) (nd : X.N.Nodup) (ok : BlkOk X.N X.env.scope scope own) (hi : EI X tg iter ρ μ zs) (hl : l.length ≤ 100000)
    (ht : ∀ a ∈ l, TgB X scope tg js (.sh (f a)) (wipeR ρ (own.map (·.2))) (r a) μ) (hp : ∀ a ∈ l, ∀ Q : Bool → Mu → Prop, Q (p a) μ → TTsB X scope ifs (r a) μ Q)
    (hk : ∀ a ∈ l, p a = true → EVB X scope kx (r a) μ (.sh (.tup ((kf a).map kP)))) (hv : ∀ a ∈ l, p a = true → EVB X scope vx (r a) μ (.sh (vf a)))
    (hz : zs = l.map (fun a => .sh (f a)) := by first | rfl | (rw [List.map_map]; rfl) | simp) (hjs : ∀ j ∈ js, j ∈ own.map (·.2) := by decide)
    (hs : ∀ x, foldedSetIterable iter X.env x = pure x := by intro _; rfl) : EV X (.DictComp kx vx [⟨tg, iter, ifs, 0⟩] scope pos) ρ μ (.sh (.dT ((l.filter p).foldl (fun d a => dput d (kf a) (vf a)) []))) := fun Q q => by
  refine tep_dcT own js hu hc nd ok hjs ?_ hs
  refine (hi.is hz) _ ⟨fun i acc μ2 => μ2 = μ ∧ acc = (((l.take i).filter p).foldl (fun d a => dput d (kf a) (vf a)) []).map (fun q => (q.1, .sh q.2)), ⟨rfl, rfl⟩, fun _ _ _ _ _ => trivial, ?_, ?_⟩
  · rintro i x acc μ2 hx ⟨rfl, rfl⟩
    rw [List.getElem?_map] at hx
    cases e : l[i]? with
    | none => rw [e] at hx; cases hx
    | some a =>
      rw [e] at hx
      cases hx
      have ha : a ∈ l := List.mem_of_getElem? e
      have ht' : l.take (i + 1) = l.take i ++ [a] := by
        rw [List.take_add_one, e]
        rfl
      refine ht a ha _ (hp a ha _ ?_)
      by_cases c : p a = true
      · rw [if_pos c]
        intro s H C cl fp
        refine hk a ha c s H C cl fp _ ?_
        intro s H C cl fp
        refine hv a ha c s H C cl fp _ ⟨kf a, rfl, ?_, rfl, ?_⟩
        · rw [List.length_map]
          have h1 := List.length_filter_le p (l.take i)
          have h2 := (List.getElem?_eq_some_iff.mp e).1
          have h3 := foldl_dput_len kf vf ((l.take i).filter p) []
          rw [List.length_take] at h1
          simp only [List.length_nil] at h3
          omega
        · rw [ht', List.filter_append, List.foldl_append, dput_map]
          simp [c]
      · rw [if_neg c]
        refine ⟨rfl, ?_⟩
        rw [ht', List.filter_append, List.foldl_append]
        simp [c]
  · rintro acc μ2 ⟨rfl, rfl⟩
    rw [List.length_map, List.take_length]
    exact .inl ⟨_, rfl, q⟩
/-- .. as a new cell -/
theorem tep_dcCT {α : Type} (l : List α) (f : α → P) (p : α → Bool) (kf : α → List Key) (vf : α → P) (r : α → Rho) {kx vx : Expr} {ifs : List Expr} {scope : Scope} {zs : List E} {Q : E → Mu → Prop} (own : List (Str × Nat)) (js : List Nat) (hu : X.A.units < cLine) (hc : X.calm = true) (nd : X.N.Nodup) (ok : BlkOk X.N X.env.scope scope own) (hi : EI X tg iter ρ μ zs) (hl : l.length ≤ 100000)
    (ht : ∀ a ∈ l, TgB X scope tg js (.sh (f a)) (wipeR ρ (own.map (·.2))) (r a) μ) (hp : ∀ a ∈ l, ∀ Q : Bool → Mu → Prop, Q (p a) μ → TTsB X scope ifs (r a) μ Q)
    (hk : ∀ a ∈ l, p a = true → EVB X scope kx (r a) μ (.sh (.tup ((kf a).map kP)))) (hv : ∀ a ∈ l, p a = true → EVB X scope vx (r a) μ (.sh (vf a)))
    (q : Q (.pt μ.length) (μ ++ [some (.dT (((l.filter p).foldl (fun d a => dput d (kf a) (vf a)) []).map fun q => (q.1, .sh q.2)))])) 
    (hz : zs = l.map (fun a => .sh (f a)) := by first | rfl | (rw [List.map_map]; rfl) | simp) (hjs : ∀ j ∈ js, j ∈ own.map (·.2) := by decide)
    (hs : ∀ x, foldedSetIterable iter X.env x = pure x := by intro _; rfl) : TEP X (.DictComp kx vx [⟨tg, iter, ifs, 0⟩] scope pos) ρ μ Q := by
  refine tep_dcT own js hu hc nd ok hjs ?_ hs
  refine (hi.is hz) _ ⟨fun i acc μ2 => μ2 = μ ∧ acc = (((l.take i).filter p).foldl (fun d a => dput d (kf a) (vf a)) []).map (fun q => (q.1, .sh q.2)), ⟨rfl, rfl⟩, fun _ _ _ _ _ => trivial, ?_, ?_⟩
  · rintro i x acc μ2 hx ⟨rfl, rfl⟩
    rw [List.getElem?_map] at hx
    cases e : l[i]? with
    | none => rw [e] at hx; cases hx
    | some a =>
      rw [e] at hx
      cases hx
      have ha : a ∈ l := List.mem_of_getElem? e
      have ht' : l.take (i + 1) = l.take i ++ [a] := by
        rw [List.take_add_one, e]
        rfl
      refine ht a ha _ (hp a ha _ ?_)
      by_cases c : p a = true
      · rw [if_pos c]
        intro s H C cl fp
        refine hk a ha c s H C cl fp _ ?_
        intro s H C cl fp
        refine hv a ha c s H C cl fp _ ⟨kf a, rfl, ?_, rfl, ?_⟩
        · rw [List.length_map]
          have h1 := List.length_filter_le p (l.take i)
          have h2 := (List.getElem?_eq_some_iff.mp e).1
          have h3 := foldl_dput_len kf vf ((l.take i).filter p) []
          rw [List.length_take] at h1
          simp only [List.length_nil] at h3
          omega
        · rw [ht', List.filter_append, List.foldl_append, dput_map]
          simp [c]
      · rw [if_neg c]
        refine ⟨rfl, ?_⟩
        rw [ht', List.filter_append, List.foldl_append]
        simp [c]
  · rintro acc μ2 ⟨rfl, rfl⟩
    rw [List.length_map, List.take_length]
    exact .inr q


theorem dcK_main {kx vx : Expr} {ifs : List Expr} {scope : Scope} {own : List (Str × Nat)} {js : List Nat} {Q' : VK} {ad : List Addr} {Hb H : Hp} {σ : L2.St} {Fin : List (Key × E) → Mu → Prop} (hjs : ∀ j ∈ js, j ∈ own.map (·.2))
    (h : TIP X tg iter ρ μ fun items G μ1 => ∃ I : Nat → List (Key × E) → Mu → Prop, I 0 [] μ1 ∧ (∀ i acc μ2, i ≤ items.length → I i acc μ2 → G μ2) ∧
      (∀ i x acc μ2, items[i]? = some x → I i acc μ2 → TGB X scope tg js x (wipeR ρ (own.map (·.2))) μ2 fun ρ3 μ3 => TTsB X scope ifs ρ3 μ3 fun b μ4 => if b = true then TEB X scope kx ρ3 μ4 (fun y μ5 => TEB X scope vx ρ3 μ5 fun z μ6 => ∃ k : Key, y = .sh (kP k) ∧ acc.length < 100000 ∧ I (i + 1) (dput acc k z) μ6) else I (i + 1) acc μ4) ∧
      ∀ acc μ2, I items.length acc μ2 → Fin acc μ2)
    (W : Wd X.K ad Hb H μ) (N : Env X.K ad Hb σ ρ)
    (fin : ∀ (D : Addr) (acc : List (Key × E)) (μ2 : Mu) (vs : List (Key × V)) (ad1 : List Addr) (Hb1 H1 : Hp) (ad2 : List Addr) (Hb2 H2 : Hp), Step ad Hb H ad1 Hb1 H1 → Step ad1 Hb1 H1 ad2 Hb2 H2 → Wd X.K ad2 Hb2 H2 μ2 → H1 D = none → D ∉ ad2 → Hb2 D = none → H2 D = some (.dK vs) → Paired (fun p q => p.1 = q.1 ∧ RepE X.K ad2 Hb2 p.2 q.2) vs acc → Fin acc μ2 → Q' (.ref D) H2)
    : tDcG (.dK []) (TIV X tg iter) (gB X scope tg) (tB X scope ifs) (eB X scope kx) (eB X scope vx) (own.map (·.2)) σ H Q' := by
  refine h ad Hb H σ W N _ fun J items G μ1 ad1 Hb1 H1 ⟨I, i0, hG, turn, done⟩ s1 W1 w D hD => ?_
  have nD : D ∉ ad1 := fun z => W1.trk D z hD
  have bD : Hb1 D = none := W1.base_none hD
  let Pv : Nat → Hp → Prop := fun i H' => ∃ acc μ2 vs ad2 Hb2, I i acc μ2 ∧ Step ad1 Hb1 H1 ad2 Hb2 H' ∧ Wd X.K ad2 Hb2 H' μ2 ∧ D ∉ ad2 ∧ Hb2 D = none ∧ H' D = some (.dK vs) ∧ Paired (fun p q => p.1 = q.1 ∧ RepE X.K ad2 Hb2 p.2 q.2) vs acc
  refine ⟨fun i m H' => m = items.length - i ∧ i ≤ items.length ∧ Pv i H', ⟨items.length, rfl, Nat.zero_le _, [], μ1, [], ad1, Hb1, i0, (Step.refl _ _ _).apart hD, W1.apart nD bD, nD, bD, upd_same, .nil⟩, ?_⟩
  rintro i m H' ⟨rfl, hi, acc, μ2, vs, ad2, Hb2, iI, s2, W2, n2, b2, d2, r2⟩
  by_cases hlt : i < items.length
  · refine .inr ⟨w.goes i ad2 Hb2 H' μ2 hlt s2 W2 (hG i acc μ2 hi iI), Pv (i + 1), fun H'' p => ⟨items.length - (i + 1), by omega, rfl, hlt, p⟩, fun x H3 y => ?_⟩
    obtain ⟨Hb3, e, s3, W3, he, re⟩ := w.yields i ad2 Hb2 H' μ2 x H3 hlt s2 W2 (hG i acc μ2 hi iI) y
    have t3 := s2.trans s3
    -- D stays apart along any step
    have on : ∀ {ad Hb H ad' Hb' H'}, D ∉ ad ∧ Hb D = none ∧ H D = some (.dK vs) → Step ad Hb H ad' Hb' H' → D ∉ ad' ∧ Hb' D = none ∧ H' D = some (.dK vs) := fun {ad Hb H ad' Hb' H'} k s => ⟨fun z => (s.new D z).elim k.1 (fun z => nomatch k.2.2.symm.trans z), s.fgn D _ k.1 k.2.2 rfl k.2.1, s.fr0 k.1 k.2.1 k.2.2⟩
    have k3 := on ⟨n2, b2, d2⟩ s3
    intro s H0 C cl fp
    refine turn i e acc μ2 he iI s H0 C cl fp ad2 Hb3 H3 _ x W3 ((Env.step (s1.trans t3) N).wipe _) re _ fun ρ4 μ4 ad4 Hb4 H4 σ4 q4 s4 W4 N4 b4 => ⟨?_, ?_⟩
    · have e1 := wipe_get (σ := wipe σ (own.map (·.2))) (σ' := σ4) (own.map (·.2)) b4.1 fun k hk => b4.2 k fun z => hk (hjs k z)
      rw [e1]
      exact wipe_get _ (wipe_length _ _) fun k hk => wipe_out hk
    intro s H0 C cl fp
    refine q4 s H0 C cl fp ad4 Hb4 H4 σ4 W4 N4 _ fun b μ5 ad5 Hb5 H5 q5 s5 W5 => ?_
    have k5 := on (on k3 s4) s5
    have t5 := t3.trans (s4.trans s5)
    have r5 : Paired (fun (p : Key × V) (q : Key × E) => p.1 = q.1 ∧ RepE X.K ad5 Hb5 p.2 q.2) vs acc := pd_imp (fun _ _ z => ⟨z.1, RepE.step (s3.trans (s4.trans s5)) z.2⟩) r2
    cases b with
    | false => exact ⟨acc, μ5, vs, ad5, Hb5, q5, t5, W5, k5.1, k5.2.1, k5.2.2, r5⟩
    | true =>
      intro s H0 C cl fp
      refine q5 s H0 C cl fp ad5 Hb5 H5 σ4 W5 (Env.step s5 N4) _ fun yv y μ6 ad6 Hb6 H6 q6 s6 W6 r6 => ?_
      intro s H0 C cl fp
      refine q6 s H0 C cl fp ad6 Hb6 H6 σ4 W6 (Env.step s6 (Env.step s5 N4)) _ fun zv z μ7 ad7 Hb7 H7 q7 s7 W7 r7 => ?_
      obtain ⟨k, rfl, hl, q7⟩ := q7
      have k7 := on (on k5 s6) s7
      have r6' : Rep X.K Hb7 yv (kP k) := RepE.step s7 r6
      have hlv : vs.length < sizeLine := Nat.lt_of_lt_of_le (by rw [r2.length]; exact hl) (by decide)
      obtain rfl := rep_key r6'
      have put := DPut.k (k := k) (v := zv) k7.2.2 hlv
      refine ⟨_, put, dput acc k z, μ7, putK vs k zv, ad7, Hb7, q7, ((t5.trans s6).trans s7).apart hD, W7.apart k7.1 k7.2.1, k7.1, k7.2.1, upd_same, ?_⟩
      exact pd_dput (F := fun u v => RepE X.K ad7 Hb7 u v) (pd_imp (fun _ _ q => ⟨q.1, RepE.step (s6.trans s7) q.2⟩) r5) k r7
  · have e : i = items.length := by omega
    subst e
    exact .inl ⟨w.stops ad2 Hb2 H' μ2 s2 W2 (hG _ acc μ2 hi iI), fin D acc μ2 vs ad1 Hb1 H1 ad2 Hb2 H' s1 s2 W2 hD n2 b2 d2 r2 (done acc μ2 iI)⟩
theorem tep_dcK {kx vx : Expr} {ifs : List Expr} {scope : Scope} {Q : E → Mu → Prop} (own : List (Str × Nat)) (js : List Nat) (hu : X.A.units < cLine) (hc : X.calm = true) (hN : X.N.Nodup) (ok : BlkOk X.N X.env.scope scope own) (hjs : ∀ j ∈ js, j ∈ own.map (·.2))
    (h : TIP X tg iter ρ μ fun items G μ1 => ∃ I : Nat → List (Key × E) → Mu → Prop, I 0 [] μ1 ∧ (∀ i acc μ2, i ≤ items.length → I i acc μ2 → G μ2) ∧
      (∀ i x acc μ2, items[i]? = some x → I i acc μ2 → TGB X scope tg js x (wipeR ρ (own.map (·.2))) μ2 fun ρ3 μ3 => TTsB X scope ifs ρ3 μ3 fun b μ4 => if b = true then TEB X scope kx ρ3 μ4 (fun y μ5 => TEB X scope vx ρ3 μ5 fun z μ6 => ∃ k : Key, y = .sh (kP k) ∧ acc.length < 100000 ∧ I (i + 1) (dput acc k z) μ6) else I (i + 1) acc μ4) ∧
      ∀ acc μ2, I items.length acc μ2 → (∃ zs : List (Key × P), acc = zs.map (fun q => (q.1, .sh q.2)) ∧ Q (.sh (.dK zs)) μ2) ∨ Q (.pt μ2.length) (μ2 ++ [some (.dK acc)]))
    (hs : ∀ x, foldedSetIterable iter X.env x = pure x := by intro _; rfl) : TEP X (.DictComp kx vx [⟨tg, iter, ifs, 0⟩] scope pos) ρ μ Q := fun ad Hb H σ W N Q' g => by
  refine pe_go (pe_dcG (O0 := .dK []) (.inl rfl) hu hc hN pi_self ok pgB ptB peB peB hs) (dcK_main (Fin := fun acc μ2 => (∃ zs : List (Key × P), acc = zs.map (fun q => (q.1, .sh q.2)) ∧ Q (.sh (.dK zs)) μ2) ∨ Q (.pt μ2.length) (μ2 ++ [some (.dK acc)])) hjs h W N ?_)
  intro D acc μ2 vs ad1 Hb1 H1 ad2 Hb2 H2 s1 s2 W2 h1 h2 h3 h4 r q
  rcases q with ⟨zs, rfl, q⟩ | q
  · obtain ⟨W3, s3⟩ := W2.adopt s2 h1 h2 h3 h4
    have r' : Paired (fun (p : Key × V) (q : Key × P) => p.1 = q.1 ∧ Rep X.K Hb2 p.2 q.2) vs zs := pd_unmap r
    have l : vs.map (·.1) = zs.map (·.1) := pd_fst r'
    exact g _ (.sh (.dK zs)) _ _ _ _ q (s1.trans s3) W3 (.dK upd_same l fun i v x h5 h6 => Rep.mono (Ex.new h3) (pd_get r' i v x h5 h6).2)
  · obtain ⟨W3, s3⟩ := W2.adoptC (c := .dK acc) s2 h1 h2 h3 ⟨vs, h4, r⟩
    exact g _ (.pt μ2.length) _ _ _ _ q (s1.trans s3) W3 ⟨D, by rw [← W2.len]; simp, rfl⟩
/-- a pure one -/
theorem ev_dcK {α : Type} (l : List α) (f : α → P) (p : α → Bool) (kf : α → Key) (vf : α → P) (r : α → Rho) {kx vx : Expr} {ifs : List Expr} {scope : Scope} {zs : List E} (own : List (Str × Nat)) (js : List Nat) (hu : X.A.units < cLine) (hc : X.calm = true) (nd : X.N.Nodup) (ok : BlkOk X.N X.env.scope scope own) (hi : EI X tg iter ρ μ zs) (hl : l.length ≤ 100000)
    (ht : ∀ a ∈ l, TgB X scope tg js (.sh (f a)) (wipeR ρ (own.map (·.2))) (r a) μ) (hp : ∀ a ∈ l, ∀ Q : Bool → Mu → Prop, Q (p a) μ → TTsB X scope ifs (r a) μ Q)
    (hk : ∀ a ∈ l, p a = true → EVB X scope kx (r a) μ (.sh (kP (kf a)))) (hv : ∀ a ∈ l, p a = true → EVB X scope vx (r a) μ (.sh (vf a)))
    (hz : zs = l.map (fun a => .sh (f a)) := by first | rfl | (rw [List.map_map]; rfl) | simp) (hjs : ∀ j ∈ js, j ∈ own.map (·.2) := by decide)
    (hs : ∀ x, foldedSetIterable iter X.env x = pure x := by intro _; rfl) : EV X (.DictComp kx vx [⟨tg, iter, ifs, 0⟩] scope pos) ρ μ (.sh (.dK ((l.filter p).foldl (fun d a => dput d (kf a) (vf a)) []))) := fun Q q => by
  refine tep_dcK own js hu hc nd ok hjs ?_ hs
  refine (hi.is hz) _ ⟨fun i acc μ2 => μ2 = μ ∧ acc = (((l.take i).filter p).foldl (fun d a => dput d (kf a) (vf a)) []).map (fun q => (q.1, .sh q.2)), ⟨rfl, rfl⟩, fun _ _ _ _ _ => trivial, ?_, ?_⟩
  · rintro i x acc μ2 hx ⟨rfl, rfl⟩
    rw [List.getElem?_map] at hx
    cases e : l[i]? with
    | none => rw [e] at hx; cases hx
    | some a =>
      rw [e] at hx
      cases hx
      have ha : a ∈ l := List.mem_of_getElem? e
      have ht' : l.take (i + 1) = l.take i ++ [a] := by
        rw [List.take_add_one, e]
        rfl
      refine ht a ha _ (hp a ha _ ?_)
      by_cases c : p a = true
      · rw [if_pos c]
        intro s H C cl fp
        refine hk a ha c s H C cl fp _ ?_
        intro s H C cl fp
        refine hv a ha c s H C cl fp _ ⟨kf a, rfl, ?_, rfl, ?_⟩
        · rw [List.length_map]
          have h1 := List.length_filter_le p (l.take i)
          have h2 := (List.getElem?_eq_some_iff.mp e).1
          have h3 := foldl_dput_len kf vf ((l.take i).filter p) []
          rw [List.length_take] at h1
          simp only [List.length_nil] at h3
          omega
        · rw [ht', List.filter_append, List.foldl_append, dput_map]
          simp [c]
      · rw [if_neg c]
        refine ⟨rfl, ?_⟩
        rw [ht', List.filter_append, List.foldl_append]
        simp [c]
  · rintro acc μ2 ⟨rfl, rfl⟩
    rw [List.length_map, List.take_length]
    exact .inl ⟨_, rfl, q⟩
/-- .. as a new cell -/
theorem tep_dcCK {α : Type} (l : List α) (f : α → P) (p : α → Bool) (kf : α → Key) (vf : α → P) (r : α → Rho) {kx vx : Expr} {ifs : List Expr} {scope : Scope} {zs : List E} {Q : E → Mu → Prop} (own : List (Str × Nat)) (js : List Nat) (hu : X.A.units < cLine) (hc : X.calm = true) (nd : X.N.Nodup) (ok : BlkOk X.N X.env.scope scope own) (hi : EI X tg iter ρ μ zs) (hl : l.length ≤ 100000)
    (ht : ∀ a ∈ l, TgB X scope tg js (.sh (f a)) (wipeR ρ (own.map (·.2))) (r a) μ) (hp : ∀ a ∈ l, ∀ Q : Bool → Mu → Prop, Q (p a) μ → TTsB X scope ifs (r a) μ Q)
    (hk : ∀ a ∈ l, p a = true → EVB X scope kx (r a) μ (.sh (kP (kf a)))) (hv : ∀ a ∈ l, p a = true → EVB X scope vx (r a) μ (.sh (vf a)))
    (q : Q (.pt μ.length) (μ ++ [some (.dK (((l.filter p).foldl (fun d a => dput d (kf a) (vf a)) []).map fun q => (q.1, .sh q.2)))])) 
    (hz : zs = l.map (fun a => .sh (f a)) := by first | rfl | (rw [List.map_map]; rfl) | simp) (hjs : ∀ j ∈ js, j ∈ own.map (·.2) := by decide)
    (hs : ∀ x, foldedSetIterable iter X.env x = pure x := by intro _; rfl) : TEP X (.DictComp kx vx [⟨tg, iter, ifs, 0⟩] scope pos) ρ μ Q := by
  refine tep_dcK own js hu hc nd ok hjs ?_ hs
  refine (hi.is hz) _ ⟨fun i acc μ2 => μ2 = μ ∧ acc = (((l.take i).filter p).foldl (fun d a => dput d (kf a) (vf a)) []).map (fun q => (q.1, .sh q.2)), ⟨rfl, rfl⟩, fun _ _ _ _ _ => trivial, ?_, ?_⟩
  · rintro i x acc μ2 hx ⟨rfl, rfl⟩
    rw [List.getElem?_map] at hx
    cases e : l[i]? with
    | none => rw [e] at hx; cases hx
    | some a =>
      rw [e] at hx
      cases hx
      have ha : a ∈ l := List.mem_of_getElem? e
      have ht' : l.take (i + 1) = l.take i ++ [a] := by
        rw [List.take_add_one, e]
        rfl
      refine ht a ha _ (hp a ha _ ?_)
      by_cases c : p a = true
      · rw [if_pos c]
        intro s H C cl fp
        refine hk a ha c s H C cl fp _ ?_
        intro s H C cl fp
        refine hv a ha c s H C cl fp _ ⟨kf a, rfl, ?_, rfl, ?_⟩
        · rw [List.length_map]
          have h1 := List.length_filter_le p (l.take i)
          have h2 := (List.getElem?_eq_some_iff.mp e).1
          have h3 := foldl_dput_len kf vf ((l.take i).filter p) []
          rw [List.length_take] at h1
          simp only [List.length_nil] at h3
          omega
        · rw [ht', List.filter_append, List.foldl_append, dput_map]
          simp [c]
      · rw [if_neg c]
        refine ⟨rfl, ?_⟩
        rw [ht', List.filter_append, List.foldl_append]
        simp [c]
  · rintro acc μ2 ⟨rfl, rfl⟩
    rw [List.length_map, List.take_length]
    exact .inr q

end
end PV

/-! Lists of numbers. -/
namespace PV
open PySem PySem.Spec PyProof.Rows L2
def natsP (l : List Nat) : List P := l.map fun e => .int (e : Nat)
theorem natsP_eq (l : List Nat) : natsP l = (l.map Int.ofNat).map .int := by
  unfold natsP
  rw [List.map_map]
  rfl
theorem mem_ofNat (l : List Nat) (e : Nat) : ((e : Int) ∈ l.map Int.ofNat) ↔ e ∈ l := by
  constructor
  · intro h
    obtain ⟨x, hx, e1⟩ := List.mem_map.mp h
    have : x = e := Int.ofNat.inj e1
    rw [← this]
    exact hx
  · exact fun h => List.mem_map.mpr ⟨e, h, rfl⟩
section
variable {X : Cx} {tg a b c e o iter : Expr} {es : List Expr} {ρ : Rho} {μ : Mu} {Q : E → Mu → Prop} {pos p2 p3 p4 : Pos} {i : Nat} {l : List Nat}
theorem ev_inN (ha : EV X a ρ μ (.sh (.int (i : Nat)))) (hb : EV X b ρ μ (.sh (.lst (natsP l)))) (hm : behindInMarks .In b = false := by with_unfolding_all rfl) : EV X (.Compare a [.In] [b] pos) ρ μ (.sh (.bl (decide (i ∈ l)))) := by
  rw [natsP_eq] at hb
  exact (ev_in ha hb hm).is (by simp only [mem_ofNat])
theorem et_inN (ha : EV X a ρ μ (.sh (.int (i : Nat)))) (hb : EV X b ρ μ (.sh (.lst (natsP l)))) (hm : behindInMarks .In b = false := by with_unfolding_all rfl) : ET X (.Compare a [.In] [b] pos) ρ μ (decide (i ∈ l)) := by
  rw [natsP_eq] at hb
  exact (et_in ha hb hm).is (by simp only [mem_ofNat])
theorem et_notInN (ha : EV X a ρ μ (.sh (.int (i : Nat)))) (hb : EV X b ρ μ (.sh (.lst (natsP l)))) (hm : behindInMarks .NotIn b = false := by with_unfolding_all rfl) : ET X (.Compare a [.NotIn] [b] pos) ρ μ (!decide (i ∈ l)) := by
  rw [natsP_eq] at hb
  exact (et_notIn ha hb hm).is (by simp only [mem_ofNat])
theorem rep_rg {K : PySem.W.Frag} {H : Hp} (n : Nat) : RepL K H (rgV 0 (n : Int)) (natsP (List.range n)) := by
  have e : rgV 0 (n : Int) = (List.range n).map fun i => V.int (i : Nat) := by
    unfold rgV
    simp
  rw [e]
  unfold natsP
  generalize List.range n = l
  induction l with
  | nil => exact .nil
  | cons a l ih => exact .cons (.int _) ih
theorem tep_listRg (hm : X.mg "list" = none) (hm2 : X.mg "range" = none) (h : EV X e ρ μ (.sh (.int (i : Nat)))) (hl : i ≤ 100000) (q : Q (.sh (.lst (natsP (List.range i)))) μ) (hc : X.calm = true := by rfl) (hg : Gl X "list" := by rfl) (hg2 : Gl X "range" := by rfl)
    (hs : starEach [e] X.env = (false, eval e X.env) :: starEach [] X.env := by rfl) (hs2 : starEach [.Call (.Name "range" p3) [e] [] p2] X.env = (false, eval (.Call (.Name "range" p3) [e] [] p2) X.env) :: starEach [] X.env := by rfl) :
    TEP X (.Call (.Name "list" pos) [.Call (.Name "range" p3) [e] [] p2] [] p4) ρ μ Q := fun ad Hb H σ W N Q' g => by
  refine pe_go (pe_listRg hc hg hm (prg_1 hg2 hm2 pe_self hs) hs2) (h (fun y μ1 => y = .sh (.int (i : Nat)) ∧ μ1 = μ) ⟨rfl, rfl⟩ ad Hb H σ W N _ ?_)
  rintro v y μ1 ad1 Hb1 H1 ⟨rfl, rfl⟩ s1 W1 r1
  obtain rfl := Rep.int_inv r1
  refine ⟨(i : Int), rfl, ⟨by omega, by omega, by omega, by omega, by omega⟩, fun p hp => ?_⟩
  obtain ⟨W2, s2⟩ := W1.alloc (o := .lst (rgV 0 (i : Int))) hp
  exact g _ (.sh (.lst _)) _ _ _ _ q (s1.trans s2) W2 (Rep.lstL upd_same (rep_rg i))
end
section
variable {X : Cx} {a b c e : Expr} {es : List Expr} {ρ : Rho} {μ : Mu} {D : Out} {pos : Pos}
theorem tap_consV {x : E} {Q : List E → Mu → Prop} (h : EV X e ρ μ x) (t : TAP X es ρ μ fun xs μ2 => Q (x :: xs) μ2) (hs : starEach (e :: es) X.env = (false, eval e X.env) :: starEach es X.env := by rfl) : TAP X (e :: es) ρ μ Q := tap_cons (h _ t) hs
theorem tsp_par2A (i j : Nat) (nd : X.N.Nodup) {x y : Str} {px py pt pt2 : Pos} {kt k2} (h : TAP X [a, b] ρ μ fun zs μ1 => ∃ u v, zs = [u, v] ∧ D.nx ((ρ.set i (some u)).set j (some v)) μ1) (hc : X.calm = true := by rfl) (hi : X.N[i]? = some x := by rfl) (hj : X.N[j]? = some y := by rfl) (hij : i ≠ j := by decide)
    (hx : X.env.scope.names.lookup x = some .local := by rfl) (hy : X.env.scope.names.lookup y = some .local := by rfl) (hw : swappedStores [.Tuple [.Name x px, .Name y py] kt pt] (.Tuple [a, b] k2 pt2) X.env = pure (some [x, y]) := by rfl)
    (hs : swapsWithSole [.Tuple [.Name x px, .Name y py] kt pt] (.Tuple [a, b] k2 pt2) pos.line X.env = pure false := by rfl) : TSP X (.Assign [.Tuple [.Name x px, .Name y py] kt pt] (.Tuple [a, b] k2 pt2) pos) ρ μ D := tsp_par2 i j h hc nd hi hj hij hx hy hw hs
theorem tsp_par3A (i j l : Nat) (nd : X.N.Nodup) {x y z : Str} {px py pz pt pt2 : Pos} {kt k2} (h : TAP X [a, b, c] ρ μ fun zs μ1 => ∃ u v w, zs = [u, v, w] ∧ D.nx (((ρ.set i (some u)).set j (some v)).set l (some w)) μ1) (hc : X.calm = true := by rfl) (hi : X.N[i]? = some x := by rfl) (hj : X.N[j]? = some y := by rfl) (hl : X.N[l]? = some z := by rfl) (hij : i ≠ j := by decide) (hil : i ≠ l := by decide) (hjl : j ≠ l := by decide)
    (hx : X.env.scope.names.lookup x = some .local := by rfl) (hy : X.env.scope.names.lookup y = some .local := by rfl) (hz : X.env.scope.names.lookup z = some .local := by rfl) (hw : swappedStores [.Tuple [.Name x px, .Name y py, .Name z pz] kt pt] (.Tuple [a, b, c] k2 pt2) X.env = pure (some [x, y, z]) := by rfl)
    (hs : swapsWithSole [.Tuple [.Name x px, .Name y py, .Name z pz] kt pt] (.Tuple [a, b, c] k2 pt2) pos.line X.env = pure false := by rfl) : TSP X (.Assign [.Tuple [.Name x px, .Name y py, .Name z pz] kt pt] (.Tuple [a, b, c] k2 pt2) pos) ρ μ D := tsp_par3 i j l h hc nd hi hj hl hij hil hjl hx hy hz hw hs
/-- names = values, some of the names cells -/
theorem tsp_parN (ns : List Str) (is : List Nat) (nd : X.N.Nodup) {ts : List Expr} {pt pt2 : Pos} {kt k2 n} (h : TAP X es ρ μ fun zs μ1 => zs.length = ns.length ∧ D.nx (setsR ρ is zs) μ1) (hl : ns.length ≤ 100000 := by decide) (hc : X.calm = true := by rfl) (he : ts.map nmOf = ns.map some := by rfl) (hi : is.map (fun i => X.N[i]?) = ns.map some := by rfl)
    (hf : ns.all (fun n => decide (X.env.scope.names.lookup n = some .local) || decide (X.env.scope.names.lookup n = some .cell)) = true := by rfl) (hfn : ∀ n, X.fn n = true := by exact fun _ => rfl)
    (hn : (assignEach ts X.env).length = n := by rfl) (hnn : ns.length = n := by rfl)
    (hs : swapsWithSole [.Tuple ts kt pt] (.Tuple es k2 pt2) pos.line X.env = pure false := by rfl) (hw : swappedStores [.Tuple ts kt pt] (.Tuple es k2 pt2) X.env = pure none := by rfl) (h1 : (assignEach [.Tuple ts kt pt] X.env).map (·.2) = [assign (.Tuple ts kt pt) X.env] := by rfl) :
    TSP X (.Assign [.Tuple ts kt pt] (.Tuple es k2 pt2) pos) ρ μ D := by
  subst hnn
  refine tsp_parG is (n := ns.length) (fun ad Hb H σ W N Q' g => h ad Hb H σ W N Q' fun vs zs μ1 ad1 Hb1 H1 ⟨l, q⟩ s1 W1 r1 => g vs zs μ1 ad1 Hb1 H1 ⟨by rw [l]; exact hl, l, ?_⟩ s1 W1 r1) hc hn (names_len he).2 hs hw h1
  refine tgs_names nd ns ts is zs ρ he l (fun _ h => h) hi (fun x hx => ?_) q
  have := List.all_eq_true.mp hf x hx
  simp only [Bool.or_eq_true, decide_eq_true_eq] at this
  exact ⟨this, .inl (hfn x)⟩
theorem tsp_whileP {c : Expr} {bodyS : List Stmt} (I : Nat → Rho → Mu → Prop) (m : Nat) (h0 : I m ρ μ)
    (turn : ∀ m ρ2 μ2, I m ρ2 μ2 → TTP X c ρ2 μ2 fun d μ3 => if d = true then TSs X bodyS ρ2 μ3 { D with nx := fun ρ4 μ4 => ∃ m', m' < m ∧ I m' ρ4 μ4, ct := fun ρ4 μ4 => ∃ m', m' < m ∧ I m' ρ4 μ4, bk := D.nx } else D.nx ρ2 μ3)
    (hp : PassesOwn (model X.prog X.w) X.A X.env X.xe := by exact fun _ _ h => h.elim) : TSP X (.While c bodyS [] pos) ρ μ D := tsp_while I m h0 turn hp
end
theorem ei_nats {X : Cx} {tg e : Expr} {ρ : Rho} {μ : Mu} {l : List Nat} (h : EV X e ρ μ (.sh (.lst (natsP l)))) : EI X tg e ρ μ (l.map fun e => .sh (.int (e : Nat))) := (ei_list h).is (by unfold natsP; rw [List.map_map]; rfl)
theorem natsP_len (l : List Nat) : (natsP l).length = l.length := by unfold natsP; rw [List.length_map]
theorem filter_split {α : Type} (p : α → Bool) : ∀ l : List α, l.length = (l.filter p).length + (l.filter fun x => !p x).length
  | [] => rfl
  | a :: l => by
    have ih := filter_split p l
    rw [List.filter_cons, List.filter_cons]
    cases h : p a <;> simp [h] <;> omega
theorem ttsb0 {X : Cx} {scope : Scope} {ρ : Rho} {μ : Mu} : ∀ Q : Bool → Mu → Prop, Q true μ → TTsB X scope [] ρ μ Q := fun Q q s H C cl fp => tts_nil q
theorem ttsb1 {X : Cx} {scope : Scope} {ρ : Rho} {μ : Mu} {c : Expr} {b : Bool} (h : ETB X scope c ρ μ b) : ∀ Q : Bool → Mu → Prop, Q b μ → TTsB X scope [c] ρ μ Q := fun Q q s H C cl fp => tts_one (h s H C cl fp Q q)
theorem dget_foldl_some {α β κ : Type} [DecidableEq κ] (kf : α → κ) (vf : α → β) (k : κ) : ∀ (l : List α) (d : List (κ × β)), (dget (l.foldl (fun d a => dput d (kf a) (vf a)) d) k).isSome = ((dget d k).isSome || l.any fun a => decide (kf a = k))
  | [], d => by simp
  | a :: l, d => by
    rw [List.foldl_cons, dget_foldl_some kf vf k l, dget_put, List.any_cons]
    by_cases c : kf a = k
    · simp [c]
    · simp [c]
end PV

/-! Rows of cells. -/
namespace PV
open PySem PySem.Spec PyProof.Rows L2
theorem atI_nat {α : Type} (xs : List α) (i : Nat) : atI xs (i : Int) = xs[i]? := by
  unfold atI ixN
  rw [if_pos (by omega)]
  by_cases h : i < xs.length
  · rw [if_pos (by omega)]
    simp
  · rw [if_neg (by omega), List.getElem?_eq_none (by omega)]
    rfl
theorem atI_of {α : Type} {xs : List α} {i : Int} {x : α} (j : Nat) (hi : i = (j : Int)) (h : xs[j]? = some x) : atI xs i = some x := by rw [hi, atI_nat, h]
theorem atI_last {α : Type} {xs : List α} {x : α} (h : xs ≠ []) (hx : xs.getLast? = some x) : atI xs (-1) = some x := by
  have hl : 0 < xs.length := List.length_pos_iff.mpr h
  unfold atI ixN
  rw [if_neg (by omega), if_pos (by omega)]
  rw [List.getLast?_eq_getElem?] at hx
  have : ((-1 : Int) + xs.length).toNat = xs.length - 1 := by omega
  simp only [this, Option.bind_some]
  exact hx
/-- n things told by F, then the rest -/
def rowsM {α : Type} (n : Nat) (F : Nat → α) (rest : List α) : List α := (List.range n).map F ++ rest
theorem rowsM_get {α : Type} {n : Nat} {F : Nat → α} {rest : List α} {e : Nat} (h : e < n) : (rowsM n F rest)[e]? = some (F e) := by
  unfold rowsM
  rw [List.getElem?_append_left (by simpa using h), List.getElem?_map, List.getElem?_range h]
  rfl
theorem rowsM_top {α : Type} {n : Nat} {F : Nat → α} {rest : List α} (i : Nat) : (rowsM n F rest)[n + i]? = rest[i]? := by
  unfold rowsM
  rw [List.getElem?_append_right (by simp), List.length_map, List.length_range]
  congr 1
  omega
theorem rowsM_set {α : Type} {n : Nat} {F : Nat → α} {rest : List α} {e : Nat} {v : α} (h : e < n) : (rowsM n F rest).set e v = rowsM n (fun x => if x = e then v else F x) rest := by
  unfold rowsM
  rw [List.set_append_left _ _ (by simpa using h)]
  congr 1
  refine List.ext_getElem? fun i => ?_
  rw [List.getElem?_set]
  simp only [List.getElem?_map, List.length_map, List.length_range]
  by_cases c : e = i
  · subst c
    rw [if_pos rfl, if_pos h, List.getElem?_range h]
    simp
  · rw [if_neg c]
    by_cases hi : i < n
    · rw [List.getElem?_range hi]
      simp [Ne.symm c]
    · rw [List.getElem?_eq_none (by simpa using hi)]
      rfl
theorem rowsM_congr {α : Type} {n : Nat} {F F' : Nat → α} {rest : List α} (h : ∀ e, e < n → F e = F' e) : rowsM n F rest = rowsM n F' rest := by
  unfold rowsM
  congr 1
  exact List.map_congr_left fun e he => h e (List.mem_range.mp he)
theorem rowsM_len {α : Type} {n : Nat} {F : Nat → α} {rest : List α} : (rowsM n F rest).length = n + rest.length := by
  unfold rowsM
  simp
section
variable {X : Cx} {tg iter elt : Expr} {ρ : Rho} {Q : E → Mu → Prop} {pos : Pos} {scope : Scope} {items : List E}
/-- [a new list for x in ..], the cells empty ahead of it -/
theorem tep_lcNew (n : Nat) (c : Cell) (r : Nat → Rho) (own : List (Str × Nat)) (js : List Nat) (nd : X.N.Nodup) (ok : BlkOk X.N X.env.scope scope own) (hi : EI X tg iter ρ [] items) (hn : items.length = n) (hl : n ≤ 100000)
    (ht : ∀ i x μ2, items[i]? = some x → TgB X scope tg js x (wipeR ρ (own.map (·.2))) (r i) μ2) (he : ∀ i μ2, i < n → ∀ Q : E → Mu → Prop, Q (.pt (List.length μ2)) (μ2 ++ [some c]) → TEB X scope elt (r i) μ2 Q)
    (q : Q (.pt n) (rowsM n (fun _ => some c) [some (.lst ((List.range n).map .pt))])) (hc : X.calm = true := by rfl) (hjs : ∀ j ∈ js, j ∈ own.map (·.2) := by decide)
    (hs : ∀ x, foldedSetIterable iter X.env x = pure x := by intro _; rfl) : TEP X (.ListComp elt [⟨tg, iter, [], 0⟩] scope pos) ρ [] Q := by
  subst hn
  refine tep_lcC own js hc nd ok hjs (hi _ ⟨fun i acc μ2 => acc = (List.range i).map .pt ∧ μ2 = (List.range i).map (fun _ => some c), ⟨rfl, rfl⟩, fun _ _ _ _ _ => trivial, ?_, ?_⟩) hs
  · rintro i x acc μ2 hx ⟨rfl, rfl⟩
    have hlt := (List.getElem?_eq_some_iff.mp hx).1
    refine ht i x _ hx _ (ttsb0 _ ?_)
    rw [if_pos rfl]
    refine he i _ hlt _ ⟨?_, ?_, ?_⟩
    · rw [List.length_map, List.length_range]; omega
    · rw [List.range_succ, List.map_append, List.length_map, List.length_range]; rfl
    · rw [List.range_succ, List.map_append]; rfl
  · rintro acc μ2 ⟨rfl, rfl⟩
    rw [List.length_map, List.length_range]
    exact q
/-- name = [.. for .. in .. if c], the name a plain local, on one line -/
theorem tsp_setL1 (i : Nat) {α : Type} (l : List α) (f : α → P) (r : α → Rho) (p : α → Bool) (g : α → P) (js : List Nat) (own : List (Str × Nat)) {y : Str} {py spos : Pos} {c : Expr} {μ : Mu} {D : Out} (nd : X.N.Nodup) (ok : BlkOk X.N X.env.scope scope own) (hi : EI X tg iter ρ μ items) (hl : l.length ≤ 100000)
    (ht : ∀ a ∈ l, TgB X scope tg js (.sh (f a)) (wipeR ρ (own.map (·.2))) (r a) μ) (hp : ∀ a ∈ l, ETB X scope c (r a) μ (p a)) (he : ∀ a ∈ l, p a = true → EVB X scope elt (r a) μ (.sh (g a))) (q : D.nx (ρ.set i (some (.sh (.lst ((l.filter p).map g))))) μ)
    (hz : items = l.map (fun a => .sh (f a)) := by first | rfl | (rw [List.map_map]; rfl) | simp) (hjs : ∀ j ∈ js, j ∈ own.map (·.2) := by decide) (hc : X.calm = true := by rfl) (hy : X.N[i]? = some y := by rfl) (hyl : X.env.scope.names.lookup y = some .local := by rfl)
    (hsw : swapsWith (.ListComp elt [⟨tg, iter, [c], 0⟩] scope pos) (some (.Name y py)) spos.line X.env = pure true := by rfl) (hs : ∀ x, foldedSetIterable iter X.env x = pure x := by intro _; rfl) : TSP X (.Assign [.Name y py] (.ListComp elt [⟨tg, iter, [c], 0⟩] scope pos) spos) ρ μ D :=
  tsp_setLc i own js hc nd hy hyl ok hjs (lc_inv (p := p) (hi.is hz) hl ht (fun a ha => ttsb1 (hp a ha)) (fun a ha h Q q s H C cl fp => he a ha h s H C cl fp Q q) (.inl ⟨_, rfl, q⟩)) hsw hs
theorem tsp_setL0 (i : Nat) {α : Type} (l : List α) (f : α → P) (r : α → Rho) (g : α → P) (js : List Nat) (own : List (Str × Nat)) {y : Str} {py spos : Pos} {μ : Mu} {D : Out} (nd : X.N.Nodup) (ok : BlkOk X.N X.env.scope scope own) (hi : EI X tg iter ρ μ items) (hl : l.length ≤ 100000)
    (ht : ∀ a ∈ l, TgB X scope tg js (.sh (f a)) (wipeR ρ (own.map (·.2))) (r a) μ) (he : ∀ a ∈ l, EVB X scope elt (r a) μ (.sh (g a))) (q : D.nx (ρ.set i (some (.sh (.lst (l.map g))))) μ)
    (hz : items = l.map (fun a => .sh (f a)) := by first | rfl | (rw [List.map_map]; rfl) | simp) (hjs : ∀ j ∈ js, j ∈ own.map (·.2) := by decide) (hc : X.calm = true := by rfl) (hy : X.N[i]? = some y := by rfl) (hyl : X.env.scope.names.lookup y = some .local := by rfl)
    (hsw : swapsWith (.ListComp elt [⟨tg, iter, [], 0⟩] scope pos) (some (.Name y py)) spos.line X.env = pure true := by rfl) (hs : ∀ x, foldedSetIterable iter X.env x = pure x := by intro _; rfl) : TSP X (.Assign [.Name y py] (.ListComp elt [⟨tg, iter, [], 0⟩] scope pos) spos) ρ μ D := by
  have e : l.filter (fun _ => true) = l := List.filter_eq_self.mpr fun _ _ => rfl
  exact tsp_setLc i own js hc nd hy hyl ok hjs (lc_inv (p := fun _ => true) (g := g) (hi.is hz) hl ht (fun a ha => ttsb0) (fun a ha h Q q s H C cl fp => he a ha s H C cl fp Q q) (.inl ⟨_, rfl, by rw [e]; exact q⟩)) hsw hs
theorem tsp_setL1C (i : Nat) {α : Type} (l : List α) (f : α → P) (r : α → Rho) (p : α → Bool) (g : α → P) (js : List Nat) (own : List (Str × Nat)) {y : Str} {py spos : Pos} {c : Expr} {μ : Mu} {D : Out} (nd : X.N.Nodup) (ok : BlkOk X.N X.env.scope scope own) (hi : EI X tg iter ρ μ items) (hl : l.length ≤ 100000)
    (ht : ∀ a ∈ l, TgB X scope tg js (.sh (f a)) (wipeR ρ (own.map (·.2))) (r a) μ) (hp : ∀ a ∈ l, ETB X scope c (r a) μ (p a)) (he : ∀ a ∈ l, p a = true → EVB X scope elt (r a) μ (.sh (g a))) (q : D.nx (ρ.set i (some (.pt μ.length))) (μ ++ [some (.lst (((l.filter p).map g).map .sh))]))
    (hz : items = l.map (fun a => .sh (f a)) := by first | rfl | (rw [List.map_map]; rfl) | simp) (hjs : ∀ j ∈ js, j ∈ own.map (·.2) := by decide) (hc : X.calm = true := by rfl) (hy : X.N[i]? = some y := by rfl) (hyl : X.env.scope.names.lookup y = some .local := by rfl)
    (hsw : swapsWith (.ListComp elt [⟨tg, iter, [c], 0⟩] scope pos) (some (.Name y py)) spos.line X.env = pure true := by rfl) (hs : ∀ x, foldedSetIterable iter X.env x = pure x := by intro _; rfl) : TSP X (.Assign [.Name y py] (.ListComp elt [⟨tg, iter, [c], 0⟩] scope pos) spos) ρ μ D :=
  tsp_setLc i own js hc nd hy hyl ok hjs (lc_inv (p := p) (g := g) (Fin := fun acc μ2 => (∃ zs : List P, acc = zs.map .sh ∧ D.nx (ρ.set i (some (.sh (.lst zs)))) μ2) ∨ D.nx (ρ.set i (some (.pt μ2.length))) (μ2 ++ [some (.lst acc)])) (hi.is hz) hl ht (fun a ha => ttsb1 (hp a ha)) (fun a ha h Q q s H C cl fp => he a ha h s H C cl fp Q q) (.inr q)) hsw hs
end
end PV

/-! Objects as cells; new instances; sorted lists of tuples. -/
namespace PV
open PySem PySem.Spec PyProof.Rows L2
def putA {α : Type} (f : Str) (v : α) : List (Str × α) → List (Str × α)
  | [] => [(f, v)]
  | (n, y) :: r => if n = f then (n, v) :: r else (n, y) :: putA f v r
theorem putA_lt {α : Type} {f : Str} {v : α} {k : Nat} : ∀ {gs : List (Str × α)}, gs.length < k → (putA f v gs).length < k + 1
  | [], h => Nat.succ_lt_succ h
  | (n, y) :: r, h => by
    cases k with
    | zero => cases h
    | succ k =>
      have ih := putA_lt (f := f) (v := v) (gs := r) (k := k) (by simpa using h)
      unfold putA
      split
      · simp only [List.length_cons] at h ⊢
        omega
      · simp only [List.length_cons]
        omega
theorem pd_putA {F : V → E → Prop} {f : Str} {v : V} {y : E} (h : F v y) : ∀ {fs : List (Str × V)} {gs : List (Str × E)}, Paired (fun p q => p.1 = q.1 ∧ F p.2 q.2) fs gs → Paired (fun p q => p.1 = q.1 ∧ F p.2 q.2) (putF f v fs) (putA f y gs)
  | _, _, .nil => .cons ⟨rfl, h⟩ .nil
  | (n, u) :: fs, (m, z) :: gs, .cons r t => by
    obtain rfl : n = m := r.1
    unfold putF putA
    by_cases c : n = f
    · subst c
      simp only [beq_self_eq_true, if_true]
      exact .cons ⟨rfl, h⟩ t
    · have c2 : (n == f) = false := by simpa using c
      have c3 : (f == n) = false := by simpa using Ne.symm c
      simp only [c, c2, c3, if_false, Bool.false_eq_true]
      exact .cons r (pd_putA h t)
section
variable {X : Cx} {o value : Expr} {ρ : Rho} {μ : Mu} {D : Out} {Q : E → Mu → Prop} {pos pos' p2 : Pos}
/-- o.f = value, o a cell -/
theorem tsp_seta {f : Str} (h : TEP X value ρ μ fun y μ1 => TEP X o ρ μ1 fun z μ2 => ∃ j C gs, z = .pt j ∧ μ2[j]? = some (some (.obj C gs)) ∧ Cls X.K C ∧ NoAttr X.K C f ∧ gs.length < 1000 ∧ D.nx ρ (μ2.set j (some (.obj C (putA f y gs)))))
    (hs : swapsWith value (some (.Attribute o f pos')) pos.line X.env = pure false := by rfl) : TSP X (.Assign [.Attribute o f pos'] value pos) ρ μ D := fun ad Hb H σ W N D' g => by
  refine ps_go (ps_fld pe_self pe_self hs) (h ad Hb H σ W N _ fun v y μ1 ad1 Hb1 H1 q1 s1 W1 r1 => q1 ad1 Hb1 H1 σ W1 (N.step s1) _ ?_)
  rintro w z μ2 ad2 Hb2 H2 ⟨j, C, gs, rfl, hj, hC, hn, hl, q⟩ s2 W2 ⟨a, ha, rfl⟩
  obtain ⟨_, dx, fs, hv, r⟩ := W2.off j a _ ha hj
  obtain ⟨W3, s3⟩ := W2.put (d := .obj C (putA f y gs)) (o := .ins C dx (putF f v fs)) ha hj ⟨_, _, upd_same, pd_putA (RepE.step s2 r1) r⟩
  exact ⟨a, C, dx, fs, rfl, hv, hC, hn, by rw [r.length]; exact hl, g.nx _ _ _ _ _ _ q ((s1.trans s2).trans s3) W3 (N.step ((s1.trans s2).trans s3))⟩
theorem pd_lookE {F : V → E → Prop} {f : Str} {y : E} : ∀ {fs : List (Str × V)} {gs : List (Str × E)}, Paired (fun p q => p.1 = q.1 ∧ F p.2 q.2) fs gs → gs.lookup f = some y → ∃ v, fs.lookup f = some v ∧ F v y
  | _, _, .nil, h => nomatch h
  | (n, u) :: fs, (m, z) :: gs, .cons r t, h => by
    obtain rfl : n = m := r.1
    rw [List.lookup_cons] at h ⊢
    cases c : f == n with
    | true => rw [c] at h; cases h; exact ⟨u, rfl, r.2⟩
    | false => rw [c] at h; exact pd_lookE t h
theorem ev_attrC {j : Nat} {C : Addr} {gs : List (Str × E)} {f : Str} {y : E} (h : EV X o ρ μ (.pt j)) (hj : μ[j]? = some (some (.obj C gs))) (hC : Cls X.K C) (hn : NoAttr X.K C f) (hl : gs.lookup f = some y) (hb : attributeBase o f X.env (eval o X.env) = eval o X.env := by rfl) : EV X (.Attribute o f pos) ρ μ y := fun Q q ad Hb H σ W N Q' g => by
  refine pe_go (pe_fld pe_self hb) (h (fun y μ1 => y = .pt j ∧ μ1 = μ) ⟨rfl, rfl⟩ ad Hb H σ W N _ ?_)
  rintro v x μ1 ad1 Hb1 H1 ⟨rfl, rfl⟩ s1 W1 ⟨a, ha, rfl⟩
  obtain ⟨_, dx, fs, hv, r⟩ := W1.off j a _ ha hj
  obtain ⟨v, h1, h2⟩ := pd_lookE r hl
  exact ⟨a, C, dx, fs, v, rfl, hv, hC, hn, h1, g v y _ _ _ _ q s1 W1 h2⟩
end
/-! ### new instances -/
/-- __init__, called for a new instance, its arguments values: Pre, Post -/
def spMk (K : PySem.W.Frag) (C : Addr) (Pre : List P → Prop) (Post : List P → P → Prop) : Sp := fun vs H Q _ => ∃ (a dx : Addr) (ws : List V) (zs : List P) (H0 : Hp) (ad : List Addr) (Hb : Hp) (μ : Mu), vs = .ref a :: ws ∧ H0 a = none ∧ H0 dx = none ∧ dx ≠ a ∧ H = upd (upd H0 dx (.own a)) a (.ins C dx []) ∧ Wd K ad Hb H0 μ ∧ RepL K Hb ws zs ∧ Pre zs ∧
  ∀ (y : P) (Hb2 H2 : Hp), Post zs y → Step ad Hb H0 ad Hb2 H2 → Wd K ad Hb2 H2 μ → Rep K Hb2 (.ref a) y → Q .non H2
structure Mkr (Pg : Program) (w : World) (K : PySem.W.Frag) (mg : Str → Option Value) (base : Heap) (k : Nat) (x : Str) (C : Addr) (Pre : List P → Prop) (Post : List P → P → Prop) : Prop where
  ok : ∃ (f : Addr) (fd : FuncData) (ps : List Str), mg x = some (.ref C) ∧ Mk K C f ∧ Binds K fd ps [] ∧ FnG false Pg w K mg base k f fd ps (spMk K C Pre Post)
section
variable {P : Program} {w : World} {K : PySem.W.Frag} {mg : Str → Option Value} {base : Heap}
theorem mkr_of {x qual : Str} {st : Stmt} {C f : Addr} {fd : FuncData} {N ps : List Str} {k : Nat} {Pre : List PV.P → Prop} {Post : List PV.P → PV.P → Prop} (M : Mk K C f) (hm : mg x = some (.ref C)) (F : FnP K "__init__" qual st f fd) (Sc : FnScope N ps (defScope st)) (hb : BindsBy "__init__" qual st ps)
    (len : ∀ zs, Pre zs → zs.length + 1 = ps.length)
    (body : ∀ (cdv : Value) (A : Around) (outer : List PySem.Env) (s : Shared) (H : Hp) (E : XK), RoomG false k (A.deeper (envOfC qual (defScope st) s.heap.objs.size f cdv)) → ∀ zs, Pre zs →
      TSs (cxB P w K mg base N qual st f cdv A outer s H E) (defBody st) (startR N (.pt 0 :: zs.map .sh)) [some (.obj C [])] { nx := fun _ μ' => ∃ y, Post zs y ∧ Frz μ' (.pt 0) y, rt := fun _ _ => False }) : Mkr P w K mg base (k + 1) x C Pre Post := by
  refine ⟨f, fd, ps, hm, M, F.binds hb, fnG_of F Sc ?_ ?_⟩
  · rintro vs H Q E ⟨a, dx, ws, zs, H0, ad, Hb, μ, rfl, _, _, _, _, _, r, pre, _⟩
    rw [← len zs pre, List.length_cons, r.length]
  · rintro cdv A outer s H vs Q E hr ⟨a, dx, ws, zs, H0, ad, Hb, μ, rfl, ha, hd, ne, rfl, W, r, pre, fin⟩
    have hba : Hb a = none := W.base_none ha
    have hbd : Hb dx = none := W.base_none hd
    have W0 : Wd K [] Hb H0 [] := ⟨rfl, W.inc, fun j a c h => by simp at h, fun i j a c d h => by simp at h, fun a h => by simp at h⟩
    have W1 : Wd K [] Hb (upd H0 dx (.own a)) [] := W0.apart (by simp) hbd
    have h1a : (upd H0 dx (.own a)) a = none := (upd_ne (Ne.symm ne)).trans ha
    obtain ⟨W2, s2⟩ := W1.cell (c := .obj C []) (o := .ins C dx []) h1a ⟨dx, [], upd_same, .nil⟩
    have st0 : Step [] Hb H0 [] Hb (upd H0 dx (.own a)) := (Step.refl _ _ _).apart hd
    have N2 : Env K [a] Hb (L2.start N (.ref a :: ws)) (startR N (.pt 0 :: zs.map .sh)) := start_env (.cons ⟨a, rfl, rfl⟩ (repEs_of r))
    refine body cdv A outer s _ E hr zs pre [a] Hb _ _ W2 N2 _ ⟨fun σ' ρ' μ' ad' Hb' H' q s' W' N' => ?_, fun v z μ' ad' Hb' H' q => q.elim, fun _ _ _ _ _ _ z => z.elim, fun _ _ _ _ _ _ z => z.elim⟩
    obtain ⟨y, post, fz⟩ := q
    obtain ⟨Hb2, ex, W3, off, k2⟩ := freeze_all W'
    have s'' : Step [] Hb H0 ad' Hb' H' := (st0.trans s2).trans s'
    have s3 : Step [] Hb H0 [] Hb2 H' := ⟨s''.ex.trans ex, ⟨[], rfl⟩, fun _ z => .inl z, fun b o _ e => s''.fr b o (by simp) e, fun b o _ e t n => by
      rw [off b fun z => by
        rcases s''.new b z with z | z
        · simp at z
        · rw [e] at z; cases z]
      exact s''.fgn b o (by simp) e t n, s''.bs⟩
    obtain ⟨W4, s4⟩ := frame_back W s3 W3
    refine fin y Hb2 H' post s4 W4 (k2 _ _ _ ?_ fz)
    obtain ⟨l, e⟩ := s'.pre
    exact ⟨a, by rw [e]; rfl, rfl⟩
end
section
variable {X : Cx} {e : Expr} {es : List Expr} {ρ : Rho} {μ : Mu} {Q : E → Mu → Prop} {pos p2 : Pos} {k : Nat} {x : Str} {C : Addr} {Pre : List P → Prop} {Post : List P → P → Prop}
theorem tep_make (M : Mkr X.prog X.w X.K X.mg X.base k x C Pre Post) (hr : Room (k + 1) X.A) {zs : List P} (h : EAs X (e :: es) ρ μ zs) (pre : Pre zs) (q : ∀ y, Post zs y → Q (.sh y) μ) (hg : Gl X x := by rfl) (hdb : (x == ("__debug__" : Str)) = false := by decide)
    (he : starEach (e :: es) X.env = (false, eval e X.env) :: starEach es X.env := by rfl) (hpl : (backTo pos (starEach es X.env)).any (·.1) = false := by rfl) : TEP X (.Call (.Name x p2) (e :: es) [] pos) ρ μ Q := fun ad Hb H σ W N Q' g => by
  obtain ⟨f, fd, ps, hm, mk, hb, F⟩ := M.ok
  refine pe_go (pe_make (E := E0) mk F.plain hr hg hm hb .nil pass0 pa_self hdb he hpl) (h (fun ys μ1 => ys = zs.map .sh ∧ μ1 = μ) ⟨rfl, rfl⟩ ad Hb H σ W N _ ?_)
  rintro vs ys μ1 ad1 Hb1 H1 ⟨rfl, rfl⟩ s1 W1 r1 a dx ha hd ne
  rw [List.append_nil]
  exact ⟨a, dx, vs, zs, H1, ad1, Hb1, μ1, rfl, ha, hd, ne, rfl, W1, repEs_sh r1, pre, fun y Hb2 H2 post s2 W2 r2 => ⟨rfl, g _ (.sh y) _ _ _ _ (q y post) (s1.trans s2) W2 r2⟩⟩
end
/-! ### sorted, of tuples of small numbers -/
theorem perm_rep {α β : Type} {F : V → β → Prop} (f : α → β) {xs ys : List V} (h : xs.Perm ys) : ∀ {l : List α}, Paired F xs (l.map f) → ∃ l2 : List α, l2.Perm l ∧ Paired F ys (l2.map f) := by
  induction h with
  | nil =>
    intro l r
    cases l with
    | nil => exact ⟨[], .nil, .nil⟩
    | cons _ _ => cases r
  | cons x _ ih =>
    intro l r
    cases l with
    | nil => cases r
    | cons a l =>
      cases r with
      | cons r t =>
        obtain ⟨l2, h1, h2⟩ := ih t
        exact ⟨a :: l2, h1.cons a, .cons r h2⟩
  | swap x y l0 =>
    intro l r
    cases l with
    | nil => cases r
    | cons a l =>
      cases r with
      | cons r t =>
        cases l with
        | nil => cases t
        | cons b l =>
          cases t with
          | cons r2 t => exact ⟨b :: a :: l, .swap a b l, .cons r2 (.cons r t)⟩
  | trans _ _ ih1 ih2 =>
    intro l r
    obtain ⟨l2, h1, h2⟩ := ih1 r
    obtain ⟨l3, h3, h4⟩ := ih2 h2
    exact ⟨l3, h3.trans h1, h4⟩
section
variable {X : Cx} {e : Expr} {ρ : Rho} {μ : Mu} {Q : E → Mu → Prop} {pos p2 : Pos}
/-- sorted(e), e a list of tuples of d numbers below B: some order of them -/
theorem tep_sortT {α : Type} (l : List α) (f : α → List Int) (d : Nat) (Bn : Int) (hd : 1 ≤ d) (hm : X.mg "sorted" = none) (h : EV X e ρ μ (.sh (.lst (l.map fun a => .tup ((f a).map .int))))) (hl : l.length < 64) (hf : ∀ a ∈ l, (f a).length = d ∧ ∀ m ∈ f a, 0 ≤ m ∧ m < Bn)
    (q : ∀ l2 : List α, l2.Perm l → Q (.sh (.lst (l2.map fun a => .tup ((f a).map .int)))) μ) (hg : Gl X "sorted" := by rfl) (hs : starEach [e] X.env = (false, eval e X.env) :: starEach [] X.env := by rfl) : TEP X (.Call (.Name "sorted" p2) [e] [] pos) ρ μ Q :=
  tep_callB (cr_sortT (B := Bn) hd) hg hm bo_sorted (tap_consV h (tap_nil fun ad Hb H vs W r0 Q' g => by
    obtain ⟨v, rfl, r1⟩ := vals1 r0
    obtain ⟨a, ws, rfl, ha, r⟩ := Rep.lst_at r1
    have tupAt : ∀ v ∈ ws, ∃ x ∈ l, Rep X.K Hb v (.tup ((f x).map .int)) := fun v hv => by
      obtain ⟨i, hi⟩ := List.mem_iff_getElem?.mp hv
      obtain ⟨z, h1, h2⟩ := pd_right r i v hi
      rw [List.getElem?_map] at h1
      cases e : l[i]? with
      | none => rw [e] at h1; cases h1
      | some x =>
        rw [e] at h1
        cases h1
        exact ⟨x, List.mem_of_getElem? e, h2⟩
    refine ⟨a, ws, rfl, W.sqL (.inl (.inl ha)), by have := r.length; rw [List.length_map] at this; omega, fun v hv => ?_, fun ys p pm _ hp => ?_⟩
    · obtain ⟨x, hx, rv⟩ := tupAt v hv
      obtain ⟨t, us, rfl, ht, ru⟩ := Rep.tup_inv rv
      obtain rfl := rep_ints ru
      exact ⟨f x, ⟨t, rfl, .inl (.inl (W.tup ht))⟩, (hf x hx).1, (hf x hx).2⟩
    · obtain ⟨l2, h1, h2⟩ := perm_rep (fun a => P.tup ((f a).map .int)) pm.symm r
      obtain ⟨W2, s2⟩ := W.alloc (o := .lst ys) hp
      exact g _ (.sh (.lst _)) _ _ _ _ (q l2 h1) s2 W2 (Rep.lstL upd_same (RepL.mono s2.ex h2))) hs) (by decide) (by decide) hs rfl
end
end PV

/-! Defs that give None or a new list | dict, to be changed by the caller. -/
namespace PV
open PySem PySem.Spec PyProof.Rows L2
/-- nothing in it is a cell -/
def shC : Cell → Prop
  | .lst xs => ∃ ps : List P, xs = ps.map .sh
  | .dT kvs => ∃ ps : List (List Key × P), kvs = ps.map fun q => (q.1, .sh q.2)
  | _ => False
theorem pd_sh {K : PySem.W.Frag} {ad ad2 : List Addr} {Hb Hb2 : Hp} (ex : Ex Hb Hb2) {vs : List V} {ps : List P} (r : RepEs K ad Hb vs (ps.map .sh)) : RepEs K ad2 Hb2 vs (ps.map .sh) := repEs_of (RepL.mono ex (repEs_sh r))
theorem pd_sh2 {κ : Type} {K : PySem.W.Frag} {ad ad2 : List Addr} {Hb Hb2 : Hp} (ex : Ex Hb Hb2) : ∀ {vs : List (κ × V)} {ps : List (κ × P)}, Paired (fun p q => p.1 = q.1 ∧ RepE K ad Hb p.2 q.2) vs (ps.map fun q => (q.1, E.sh q.2)) → Paired (fun p q => p.1 = q.1 ∧ RepE K ad2 Hb2 p.2 q.2) vs (ps.map fun q => (q.1, E.sh q.2))
  | _, [], .nil => .nil
  | _, _ :: _, .cons r t => .cons ⟨r.1, Rep.mono ex r.2⟩ (pd_sh2 ex t)
theorem CellOk.sh {K : PySem.W.Frag} {ad ad2 : List Addr} {Hb Hb2 H : Hp} {a : Addr} {c : Cell} (h : CellOk K ad Hb H a c) (s : shC c) (ex : Ex Hb Hb2) : CellOk K ad2 Hb2 H a c := by
  cases c with
  | lst xs =>
    obtain ⟨ps, rfl⟩ := s
    obtain ⟨vs, e, r⟩ := h
    exact ⟨vs, e, pd_sh ex r⟩
  | dT kvs =>
    obtain ⟨ps, rfl⟩ := s
    obtain ⟨vs, e, r⟩ := h
    exact ⟨vs, e, pd_sh2 ex r⟩
  | _ => exact s.elim
/-- None, or a new cell -/
def SO (Fr : List P → Option Cell → Prop) : PSpec := fun xs μ Q => ∃ ps c, xs = ps.map .sh ∧ Fr ps c ∧ match c with
  | none => Q (.sh .non) μ
  | some c => Q (.pt μ.length) (μ ++ [some c])
/-- the same, what comes left open by Post -/
def SOi {ι : Type} (Pre : ι → List P → Prop) (Post : ι → Option Cell → Prop) : PSpec := fun xs μ Q => ∃ i ps, xs = ps.map .sh ∧ Pre i ps ∧ ∀ c, Post i c → match c with
  | none => Q (.sh .non) μ
  | some c => Q (.pt μ.length) (μ ++ [some c])
/-- a pure run's cell handed to the caller -/
theorem own_back {K : PySem.W.Frag} {ad ad2 : List Addr} {Hb H Hb2 H2 : Hp} {μ μ2 : Mu} {j : Nat} {a : Addr} {c : Cell} (W : Wd K ad Hb H μ) (s : Step [] Hb H ad2 Hb2 H2) (W2 : Wd K ad2 Hb2 H2 μ2) (ha : ad2[j]? = some a) (hj : μ2[j]? = some (some c)) (sh : shC c) :
    ∃ Hb3, Wd K (ad ++ [a]) Hb3 H2 (μ ++ [some c]) ∧ Step ad Hb H (ad ++ [a]) Hb3 H2 := by
  have hl : j < μ2.length := (List.getElem?_eq_some_iff.mp hj).1
  have sp : ∀ (i : Nat) (b : Addr) (d : Cell), ad2[i]? = some b → (μ2.set j none)[i]? = some (some d) → b ≠ a ∧ μ2[i]? = some (some d) := fun i b d hb hd => by
    by_cases e : j = i
    · subst e
      rw [List.getElem?_set_self hl] at hd
      cases hd
    · rw [List.getElem?_set_ne e] at hd
      refine ⟨fun z => ?_, hd⟩
      subst z
      exact e (W2.nd j i b c d ha hb hj hd)
  have W3 : Wd K ad2 Hb2 H2 (μ2.set j none) := ⟨by rw [List.length_set]; exact W2.len, W2.inc, fun i b d hb hd => W2.off i b d hb (sp i b d hb hd).2, fun i k b c d hi hk hc hd => W2.nd i k b c d hi hk (sp i b c hi hc).2 (sp k b d hk hd).2, W2.trk⟩
  obtain ⟨Hb3, ex, W4, off, _⟩ := freeze_off W3
  have na : Hb3 a = none := by
    rw [off a fun ⟨i, d, h1, h2⟩ => (sp i a d h1 h2).1 rfl]
    exact (W2.off j a c ha hj).1
  have hHa : H a = none := by
    rcases s.new a (List.mem_of_getElem? ha) with z | z
    · simp at z
    · exact z
  have s3 : Step [] Hb H [] Hb3 H2 := ⟨s.ex.trans ex, ⟨[], rfl⟩, fun _ z => .inl z, fun b o _ e => s.fr b o (by simp) e, fun b o _ e t n => by
    rw [off b fun ⟨i, d, h1, _⟩ => by
      rcases s.new b (List.mem_of_getElem? h1) with z | z
      · simp at z
      · rw [e] at z; cases z]
    exact s.fgn b o (by simp) e t n, s.bs⟩
  obtain ⟨W5, s5⟩ := frame_back W s3 W4
  have nad : a ∉ ad := fun z => W.trk a z hHa
  obtain ⟨W6, s6⟩ := W5.adoptC s5 hHa nad na ((W2.off j a c ha hj).2.sh sh ex)
  exact ⟨Hb3, W6, s6⟩
section
variable {P : Program} {w : World} {K : PySem.W.Frag} {mg : Str → Option Value} {base : Heap}
theorem ct_own {g : Bool} {x qual : Str} {st : Stmt} {f : Addr} {fd : FuncData} {N ps : List Str} {k : Nat} {Fr : List PV.P → Option Cell → Prop} (F : FnP K x qual st f fd) (hm : mg x = some (.ref f)) (Sc : FnScope N ps (defScope st)) (hb : BindsBy x qual st ps)
    (len : ∀ zs c, Fr zs c → zs.length = ps.length)
    (body : ∀ (cdv : Value) (A : Around) (outer : List PySem.Env) (s : Shared) (H : Hp) (E : XK), RoomG g k (A.deeper (envOfC qual (defScope st) s.heap.objs.size f cdv)) → ∀ zs c, Fr zs c →
      TSs (cxB P w K mg base N qual st f cdv A outer s H E) (defBody st) (startR N (zs.map .sh)) [] { nx := fun _ _ => c = none, rt := fun z μ' => (c = none ∧ z = .sh .non) ∨ ∃ j d, c = some d ∧ z = .pt j ∧ μ'[j]? = some (some d) ∧ shC d }) : Ct g P w K mg base (k + 1) x (SO Fr) := by
  refine ⟨f, fd, ps, hm, F.kp, F.binds hb, fnG_of F Sc (fun vs H Q E ⟨ad, Hb, μ, xs, Q0, W, r, ⟨zs, c, e, hF, _⟩, _⟩ => ?_) fun cdv A outer s H vs Q E hr ⟨ad, Hb, μ, xs, Q0, W, r, ⟨zs, c, e, hF, q⟩, g⟩ => ?_⟩
  · subst e
    rw [r.length, List.length_map]
    exact len _ _ hF
  · subst e
    have W0 : Wd K [] Hb H [] := ⟨rfl, W.inc, fun j a c h => by simp at h, fun i j a c d h => by simp at h, fun a h => by simp at h⟩
    have none_ : ∀ (μ' : Mu) (ad' : List Addr) (Hb' H' : Hp), c = none → Step [] Hb H ad' Hb' H' → Wd K ad' Hb' H' μ' → Q .non H' := fun μ' ad' Hb' H' hc s' W' => by
      subst hc
      obtain ⟨Hb2, ex, W2, off, k2⟩ := freeze_all W'
      have s2 : Step [] Hb H [] Hb2 H' := ⟨s'.ex.trans ex, ⟨[], rfl⟩, fun _ z => .inl z, fun a o _ e => s'.fr a o (by simp) e, fun a o _ e t n => by
        rw [off a fun z => by
          rcases s'.new a z with z | z
          · simp at z
          · rw [e] at z; cases z]
        exact s'.fgn a o (by simp) e t n, s'.bs⟩
      obtain ⟨W3, s3⟩ := frame_back W s2 W2
      exact g .non (.sh .non) μ ad Hb2 H' q s3 W3 .non
    refine body cdv A outer s H E hr zs c hF [] Hb H _ W0 (start_env (repEs_of (repEs_sh r))) _ ⟨fun σ' ρ' μ' ad' Hb' H' q1 s1 W1 N1 => none_ μ' ad' Hb' H' q1 s1 W1, fun v z μ' ad' Hb' H' q1 s1 W1 r1 => ?_, fun _ _ _ _ _ _ z => z.elim, fun _ _ _ _ _ _ z => z.elim⟩
    rcases q1 with ⟨hc, rfl⟩ | ⟨j, d, hc, rfl, hj, sh⟩
    · obtain rfl := Rep.non_inv r1
      exact none_ μ' ad' Hb' H' hc s1 W1
    · subst hc
      obtain ⟨a, ha, rfl⟩ := r1
      obtain ⟨Hb3, W3, s3⟩ := own_back W s1 W1 ha hj sh
      exact g _ (.pt μ.length) _ _ _ _ q s3 W3 ⟨a, by rw [← W.len]; simp, rfl⟩
theorem ct_ownI {ι : Type} {g : Bool} {x qual : Str} {st : Stmt} {f : Addr} {fd : FuncData} {N ps : List Str} {k : Nat} {Pre : ι → List PV.P → Prop} {Post : ι → Option Cell → Prop} (F : FnP K x qual st f fd) (hm : mg x = some (.ref f)) (Sc : FnScope N ps (defScope st)) (hb : BindsBy x qual st ps)
    (len : ∀ i zs, Pre i zs → zs.length = ps.length)
    (body : ∀ (cdv : Value) (A : Around) (outer : List PySem.Env) (s : Shared) (H : Hp) (E : XK), RoomG g k (A.deeper (envOfC qual (defScope st) s.heap.objs.size f cdv)) → ∀ i zs, Pre i zs →
      TSs (cxB P w K mg base N qual st f cdv A outer s H E) (defBody st) (startR N (zs.map .sh)) [] { nx := fun _ _ => Post i none, rt := fun z μ' => (Post i none ∧ z = .sh .non) ∨ ∃ j d, Post i (some d) ∧ z = .pt j ∧ μ'[j]? = some (some d) ∧ shC d }) : Ct g P w K mg base (k + 1) x (SOi Pre Post) := by
  refine ⟨f, fd, ps, hm, F.kp, F.binds hb, fnG_of F Sc (fun vs H Q E ⟨ad, Hb, μ, xs, Q0, W, r, ⟨i, zs, e, hF, _⟩, _⟩ => ?_) fun cdv A outer s H vs Q E hr ⟨ad, Hb, μ, xs, Q0, W, r, ⟨i, zs, e, hF, q⟩, g⟩ => ?_⟩
  · subst e
    rw [r.length, List.length_map]
    exact len _ _ hF
  · subst e
    have W0 : Wd K [] Hb H [] := ⟨rfl, W.inc, fun j a c h => by simp at h, fun i j a c d h => by simp at h, fun a h => by simp at h⟩
    have none_ : ∀ (μ' : Mu) (ad' : List Addr) (Hb' H' : Hp), Post i none → Step [] Hb H ad' Hb' H' → Wd K ad' Hb' H' μ' → Q .non H' := fun μ' ad' Hb' H' hc s' W' => by
      obtain ⟨Hb2, ex, W2, off, k2⟩ := freeze_all W'
      have s2 : Step [] Hb H [] Hb2 H' := ⟨s'.ex.trans ex, ⟨[], rfl⟩, fun _ z => .inl z, fun a o _ e => s'.fr a o (by simp) e, fun a o _ e t n => by
        rw [off a fun z => by
          rcases s'.new a z with z | z
          · simp at z
          · rw [e] at z; cases z]
        exact s'.fgn a o (by simp) e t n, s'.bs⟩
      obtain ⟨W3, s3⟩ := frame_back W s2 W2
      exact g .non (.sh .non) μ ad Hb2 H' (q none hc) s3 W3 .non
    refine body cdv A outer s H E hr i zs hF [] Hb H _ W0 (start_env (repEs_of (repEs_sh r))) _ ⟨fun σ' ρ' μ' ad' Hb' H' q1 s1 W1 N1 => none_ μ' ad' Hb' H' q1 s1 W1, fun v z μ' ad' Hb' H' q1 s1 W1 r1 => ?_, fun _ _ _ _ _ _ z => z.elim, fun _ _ _ _ _ _ z => z.elim⟩
    rcases q1 with ⟨hc, rfl⟩ | ⟨j, d, hc, rfl, hj, sh⟩
    · obtain rfl := Rep.non_inv r1
      exact none_ μ' ad' Hb' H' hc s1 W1
    · obtain ⟨a, ha, rfl⟩ := r1
      obtain ⟨Hb3, W3, s3⟩ := own_back W s1 W1 ha hj sh
      exact g _ (.pt μ.length) _ _ _ _ (q (some d) hc) s3 W3 ⟨a, by rw [← W.len]; simp, rfl⟩
end
section
variable {X : Cx} {e : Expr} {es : List Expr} {ρ : Rho} {μ : Mu} {Q : E → Mu → Prop} {pos p2 : Pos} {k : Nat} {x : Str} {Fr : List P → Option Cell → Prop}
theorem tep_callO {g : Bool} (c : Ct g X.prog X.w X.K X.mg X.base k x (SO Fr)) (hr : RoomG g k X.A) {zs : List P} {d : Option Cell} (h : EAs X (e :: es) ρ μ zs) (hF : Fr zs d) (h0 : d = none → Q (.sh .non) μ) (h1 : ∀ c, d = some c → Q (.pt μ.length) (μ ++ [some c])) (hg : Gl X x := by rfl) (hdb : (x == ("__debug__" : Str)) = false := by decide)
    (he : starEach (e :: es) X.env = (false, eval e X.env) :: starEach es X.env := by rfl) (hpl : (backTo pos (starEach es X.env)).any (·.1) = false := by rfl) : TEP X (.Call (.Name x p2) (e :: es) [] pos) ρ μ Q := tep_call c hr (h _ ⟨zs, d, rfl, hF, by
  cases d with
  | none => exact h0 rfl
  | some c => exact h1 c rfl⟩) hg hdb he hpl
theorem tep_callI {ι : Type} {Pre : ι → List P → Prop} {Post : ι → Option Cell → Prop} {g : Bool} (c : Ct g X.prog X.w X.K X.mg X.base k x (SOi Pre Post)) (hr : RoomG g k X.A) (i : ι) {zs : List P} (h : EAs X (e :: es) ρ μ zs) (hF : Pre i zs) (h0 : Post i none → Q (.sh .non) μ) (h1 : ∀ c, Post i (some c) → Q (.pt μ.length) (μ ++ [some c])) (hg : Gl X x := by rfl) (hdb : (x == ("__debug__" : Str)) = false := by decide)
    (he : starEach (e :: es) X.env = (false, eval e X.env) :: starEach es X.env := by rfl) (hpl : (backTo pos (starEach es X.env)).any (·.1) = false := by rfl) : TEP X (.Call (.Name x p2) (e :: es) [] pos) ρ μ Q := tep_call c hr (h _ ⟨i, zs, rfl, hF, fun d hd => by
  cases d with
  | none => exact h0 hd
  | some c => exact h1 c hd⟩) hg hdb he hpl
end
end PV

/-! Dicts of tuple keys walked: keys, values. -/
namespace PV
open PySem PySem.Spec PyProof.Rows L2
/-- a locked dict of tuple keys, raw -/
theorem frzV {X : Cx} {pins : List (Addr × Obj)} {σ : L2.St} {H : Hp} {s : Shared} {d : Addr} {o : Obj} {kvs : List (List Key × V)} (I : Inv X pins σ H s) (h : H d = some (.frz o (.dT kvs))) :
    (d == sysModules) = false ∧ ∃ es ep, s.heap.DictRaw d es ep ∧ o.data = .dict es ep ∧ es.size = kvs.length ∧ ∀ (i : Nat) k v, kvs[i]? = some (k, v) → ∃ (en : DictEntry) (q : Addr), es[i]? = some en ∧ en.key = .ref q ∧ H q = some (.tup (k.map kV)) ∧ RelV v en.val := by
  obtain ⟨hd, z, hs, xs, pr, o', es, ep, ho, hx, hdt, he, _⟩ := I.hok d _ h
  obtain rfl : o' = o := Option.some.inj (ho.symm.trans hd)
  have l1 : es.size = xs.length := size_of_entries he
  have l2 : kvs.length = xs.length := Paired.length pr
  refine ⟨hs, es, ep, ⟨o', hd, hx, hdt⟩, hdt, by omega, fun i k v e => ?_⟩
  obtain ⟨b, hb, e1, e2, e3⟩ := paired_get pr e
  have q := entry_at he i
  rw [hb] at q
  exact ⟨_, b.2.1, q, rfl, e2, e3⟩
/-- the values of the locked dict at d -/
def ItV (d : Addr) (o : Obj) (kvs : List (List Key × V)) : It where
  go := fun i H => H d = some (.frz o (.dT kvs)) ∧ i < kvs.length
  yld := fun i H x H2 => H2 = H ∧ ∃ k, kvs[i]? = some (k, x)
  stop := fun i H => H d = some (.frz o (.dT kvs)) ∧ kvs.length ≤ i
theorem turn_valsT {P : Program} {w : World} {K : PySem.W.Frag} {tg : Expr} {d : Addr} {o : Obj} {es : Array DictEntry} {ep : Nat} {kvs : List (List Key × V)} (it : Addr) (hod : o.data = .dict es ep) : Turn P w K tg (ItV d o kvs) [it] it (fun i h => h.IsValIter it d i kvs.length ep) where
  mem := by simp
  obj := fun i h st b hb => by
    rw [List.mem_singleton.mp hb]
    obtain ⟨oi, e, c, dd⟩ := st
    exact ⟨oi, e, fun v z => by rw [dd] at z; cases z⟩
  keep := fun i h h' st k => by
    obtain ⟨oi, e, r⟩ := st
    exact ⟨oi, k it (by simp) oi e, r⟩
  item := by
    intro X hP hw hK hc i pins s σ H E I hf st hg
    subst hP hw hK
    obtain ⟨hd, hi⟩ := hg
    obtain ⟨f0, f1, f2, f3, f4, f5⟩ := hf it (by simp)
    obtain ⟨hs, es2, ep2, hr, hdt, hsz, ent⟩ := frzV I hd
    obtain ⟨rfl, rfl⟩ := dict_ep hod hdt
    obtain ⟨⟨k, v⟩, hkv⟩ : ∃ p, kvs[i]? = some p := ⟨kvs[i], List.getElem?_eq_getElem hi⟩
    obtain ⟨en, q, hen, _, _, rv⟩ := ent i k v hkv
    have hi2 : i < es2.size := by omega
    rw [Array.getElem?_eq_getElem hi2] at hen
    cases hen
    rw [← hsz] at st
    refine wpAny_pyNext_values_item_raw st hr hi2 fun h' st' sb => ?_
    have I1 : Inv X pins σ H { s with heap := h' } := I.turned (t' := s.toks) (fun b ob hb e => (sb.2 b hb).trans e) f0 f1 f3 f4 f5
    rw [hsz] at st'
    obtain ⟨oi, e, c, dd⟩ := id st'
    exact ⟨_, rfl, go_of (s := { s with heap := h' }) e c dd (by decide) ⟨v, H, I1, rv, ⟨rfl, k, hkv⟩, st', fun b hb => (hf b hb).1⟩⟩
  done := by
    intro X hP hw hK hc i pins s σ H E I hf st hg
    subst hP hw hK
    obtain ⟨hd, hi⟩ := hg
    obtain ⟨f0, f1, f2, f3, f4, f5⟩ := hf it (by simp)
    obtain ⟨hs, es2, ep2, hr, hdt, hsz, ent⟩ := frzV I hd
    obtain ⟨rfl, rfl⟩ := dict_ep hod hdt
    rw [← hsz] at st
    exact wpAny_pyNext_values_end_raw (I.ok.hd hc) st hr (by omega) fun h' eb => ⟨rfl, I.turned (t' := s.toks) (fun b ob hb e => eb b ob hb e) f0 f1 f3 f4 f5⟩
  self := fun A i s Q E st h => wpAny_pyIter_valiter st h
/-- the thing at d locked, from here on -/
def LkT (R : Addr → Obj → List (List Key × V) → Hp → Prop) : V → Hp → Prop := fun x H => ∃ d kvs, x = .ref d ∧ ((∃ o, H d = some (.frz o (.dT kvs)) ∧ R d o kvs H) ∨ (H d = some (.dT kvs) ∧ ∀ o, R d o kvs (upd H d (.frz o (.dT kvs)))))
theorem lkT_go {X : Cx} {pins : List (Addr × Obj)} {σ : L2.St} {H : Hp} {s : Shared} {x : V} {R : Addr → Obj → List (List Key × V) → Hp → Prop} (I : Inv X pins σ H s) (h : LkT R x H) : ∃ d o kvs H2, x = .ref d ∧ Inv X pins σ H2 s ∧ H2 d = some (.frz o (.dT kvs)) ∧ R d o kvs H2 := by
  obtain ⟨d, kvs, rfl, ⟨o, hd, q⟩ | ⟨hd, q⟩⟩ := h
  · exact ⟨d, o, kvs, H, rfl, I, hd, q⟩
  · obtain ⟨o, I2⟩ := I.lock hd trivial
    exact ⟨d, o, kvs, _, rfl, I2, upd_same, q o⟩
section
variable {X : Cx} {tg e : Expr} {td : TE} {apos cpos : Pos}
theorem pi_keysL (he : PE X e td) : PI X tg e (fun σ H R => td σ H (LkT fun d o kvs H2 => R (Itkt d o kvs) H2)) := .mk fun pins s σ H R I h => by
  refine thn (he.run pins s σ H _ I h) ?_
  rintro u s1 ⟨x, H1, I1, rx, q⟩
  obtain ⟨d, o, kvs, H2, rfl, I2, hd, q⟩ := lkT_go I1 q
  obtain rfl : u = .ref d := rx
  obtain ⟨hs, hgd, hx, es, ep, hdt, hsz, ent⟩ := I2.frzT hd
  refine iter_keys hs hgd hx hdt (pi_one (tk := s1.toks) I2 _ (turn_keysT _ hdt) ⟨_, Heap.get?_push_size _ rfl, rfl, ?_⟩ q)
  rw [hsz] <;> rfl
theorem pi_valsL (he : PE X e td) (hbase : attributeBase e "values" X.env (eval e X.env) = eval e X.env) (hline : (apos.endLine == cpos.line) = true) : PI X tg (.Call (.Attribute e "values" apos) [] [] cpos) (fun σ H R => td σ H (LkT fun d o kvs H2 => R (ItV d o kvs) H2)) := .mk fun pins s σ H R I h => by
  refine wpAny_Call_method (T := "dict") (id := "dict.values") hbase rfl hline F.plainAttrs_dict F.slot_dict_values F.type_dict_values (thn (he.run pins s σ H _ I h) ?_)
  rintro u s1 ⟨x, H1, I1, rx, q⟩
  obtain ⟨d, o, kvs, H2, rfl, I2, hd, q⟩ := lkT_go I1 q
  obtain rfl : u = .ref d := rx
  obtain ⟨hs, es, ep, hr, hdt, hsz, ent⟩ := frzV I2 hd
  refine ⟨hr.typeIs, ?_, ?_⟩
  · rintro a z
    cases z
    obtain ⟨ob, h1, h2, _⟩ := hr
    exact ⟨ob, h1, h2.2.1⟩
  have I3 : Inv X pins σ H2 { s1 with heap := s1.heap.push ⟨.type "dict_values", none, .fields #[.ref d], #[]⟩ } := I2.kept (t' := s1.toks) fun b ob z => Heap.get?_push_of_some _ z
  have fin : wpAny (model X.prog X.w) X.A (pyIter (.ref s1.heap.objs.size)) (PIE X pins σ tg R) X.xe { s1 with heap := s1.heap.push ⟨.type "dict_values", none, .fields #[.ref d], #[]⟩ } := by
    refine wpAny_pyIter_values_raw (d := d) ⟨_, Heap.get?_push_size _ rfl, rfl, rfl⟩ (hr.at fun o z => Heap.get?_push_of_some _ z) (pi_one (tk := s1.toks) I3 _ (turn_valsT _ hdt) ⟨_, Heap.get?_push_size _ rfl, rfl, ?_⟩ q)
    rw [hsz] <;> rfl
  show wpAny _ _ (callWith cpos (.builtin "dict.values") [.ref d] [] []) _ X.xe s1
  exact method_meetsIn F.slot_dict_values F.entry_dict_values rfl (PySem.evalArgs_none ⟨rfl, hr.typeIs, F.args_dict_values_1 _, _, meets_dict_values_raw d hs, ⟨es, ep, hr⟩, fin⟩)
end
theorem Wd.lock {K : PySem.W.Frag} {ad : List Addr} {Hb H : Hp} {μ : Mu} (W : Wd K ad Hb H μ) {d : Addr} {ks : List (List Key × V)} (hb : Hb d = some (.dT ks)) (e : H d = some (.dT ks)) (o : Obj) : Wd K ad Hb (upd H d (.frz o (.dT ks))) μ ∧ Step ad Hb H ad Hb (upd H d (.frz o (.dT ks))) := by
  refine ⟨⟨W.len, fun a u h => ?_, fun j a c ha hc => ?_, W.nd, fun a ha => upd_trk (W.trk a ha)⟩, ⟨Ex.refl _, ⟨[], by simp⟩, fun _ z => .inl z, fun a u _ h => ?_, fun _ _ _ _ _ n => n, fun a u q _ h => ?_⟩⟩
  · by_cases c : a = d
    · subst c
      obtain rfl : HO.dT ks = u := Option.some.inj (hb.symm.trans h)
      exact .inr ⟨o, upd_same⟩
    · exact (W.inc a u h).keep (upd_ne c)
  · obtain ⟨h1, h2⟩ := W.off j a c ha hc
    have ne : a ≠ d := by
      rintro rfl
      rw [h1] at hb
      cases hb
    exact ⟨h1, h2.keep (upd_ne ne) fun _ _ r => r⟩
  · by_cases c : a = d
    · subst c
      obtain rfl : HO.dT ks = u := Option.some.inj (e.symm.trans h)
      exact .inr ⟨o, rfl, hb, upd_same⟩
    · exact .inl ((upd_ne c).trans h)
  · have ne : a ≠ d := by
      rintro rfl
      rw [e] at h
      cases h
    exact (upd_ne ne).trans h
/-- a shared dict of tuple keys, locked -/
theorem Wd.lkT {K : PySem.W.Frag} {ad : List Addr} {Hb H : Hp} {μ : Mu} (W : Wd K ad Hb H μ) {d : Addr} {ks : List (List Key × V)} (hb : Hb d = some (.dT ks)) {R : Addr → Obj → List (List Key × V) → Hp → Prop}
    (q : ∀ o H2, H2 d = some (.frz o (.dT ks)) → Step ad Hb H ad Hb H2 → Wd K ad Hb H2 μ → R d o ks H2) : LkT R (.ref d) H := by
  rcases W.inc d _ hb with z | ⟨o, z⟩
  · exact ⟨d, ks, rfl, .inr ⟨z, fun o => q o _ upd_same (W.lock hb z o).2 (W.lock hb z o).1⟩⟩
  · exact ⟨d, ks, rfl, .inl ⟨o, z, q o H z (Step.refl _ _ _) W⟩⟩
section
variable {X : Cx} {tg e : Expr} {ρ : Rho} {μ : Mu} {apos cpos : Pos} {kvs : List (List Key × P)}
theorem ei_keysT (h : EV X e ρ μ (.sh (.dT kvs))) : EI X tg e ρ μ (kvs.map fun q => .sh (.tup (q.1.map kP))) := fun R q ad Hb H σ W N R' g => by
  refine pi_go (pi_keysL pe_self) (h (fun y μ1 => y = .sh (.dT kvs) ∧ μ1 = μ) ⟨rfl, rfl⟩ ad Hb H σ W N _ ?_)
  rintro v x μ1 ad1 Hb1 H1 ⟨rfl, rfl⟩ s1 W1 r1
  obtain ⟨d, ks, rfl, hb, r⟩ := Rep.dT_inv r1
  have hl : ks.length = kvs.length := r.length
  refine W1.lkT hb fun o H2 hd s2 W2 => g _ _ (fun _ => True) _ _ _ _ q (s1.trans s2) W2 ⟨fun i ad3 Hb3 H3 μ3 hi s3 W3 _ => ?_, fun ad3 Hb3 H3 μ3 s3 W3 _ => ?_, fun i ad3 Hb3 H3 μ3 x H4 hi s3 W3 _ y => ?_⟩
  · exact ⟨s3.bs d _ o hb hd, by rw [List.length_map] at hi; omega⟩
  · exact ⟨s3.bs d _ o hb hd, by rw [List.length_map]; omega⟩
  · obtain ⟨rfl, k, v, p, hk, rfl, hp⟩ := y
    obtain ⟨Hb4, h4, W4, s4⟩ := W3.join hp
    obtain ⟨z, hz, hz2⟩ := pd_right r i _ hk
    refine ⟨Hb4, .sh (.tup (k.map kP)), s4, W4, ?_, Rep.tupL h4 ?_⟩
    · rw [List.getElem?_map, hz]
      have : z.1 = k := hz2.1.symm
      simp [this]
    · generalize k = l
      induction l with
      | nil => exact .nil
      | cons a l ih =>
        refine .cons ?_ ih
        cases a with
        | inl i => exact .int i
        | inr i => exact .str i
theorem ei_valsT (h : EV X e ρ μ (.sh (.dT kvs))) (hbase : attributeBase e "values" X.env (eval e X.env) = eval e X.env := by rfl) (hline : (apos.endLine == cpos.line) = true := by rfl) : EI X tg (.Call (.Attribute e "values" apos) [] [] cpos) ρ μ (kvs.map fun q => .sh q.2) := fun R q ad Hb H σ W N R' g => by
  refine pi_go (pi_valsL pe_self hbase hline) (h (fun y μ1 => y = .sh (.dT kvs) ∧ μ1 = μ) ⟨rfl, rfl⟩ ad Hb H σ W N _ ?_)
  rintro v x μ1 ad1 Hb1 H1 ⟨rfl, rfl⟩ s1 W1 r1
  obtain ⟨d, ks, rfl, hb, r⟩ := Rep.dT_inv r1
  have hl : ks.length = kvs.length := r.length
  refine W1.lkT hb fun o H2 hd s2 W2 => g _ _ (fun _ => True) _ _ _ _ q (s1.trans s2) W2 ⟨fun i ad3 Hb3 H3 μ3 hi s3 W3 _ => ?_, fun ad3 Hb3 H3 μ3 s3 W3 _ => ?_, fun i ad3 Hb3 H3 μ3 x H4 hi s3 W3 _ y => ?_⟩
  · exact ⟨s3.bs d _ o hb hd, by rw [List.length_map] at hi; omega⟩
  · exact ⟨s3.bs d _ o hb hd, by rw [List.length_map]; omega⟩
  · obtain ⟨rfl, k, hk⟩ := y
    obtain ⟨z, hz, hz2⟩ := pd_right r i _ hk
    refine ⟨Hb3, .sh z.2, Step.refl _ _ _, W3, ?_, Rep.mono (s2.ex.trans s3.ex) hz2.2⟩
    rw [List.getElem?_map, hz]
    rfl
/-- the same of a cell that stands still meanwhile: locked for as long as the expression runs -/
theorem tep_lock {j : Nat} {zs : List (List Key × E)} {Q : E → Mu → Prop} (hj : μ[j]? = some (some (.dT zs))) (h : ∀ o ks, TEP X e ρ (μ.set j (some (.lk o ks zs))) fun x μ1 => μ1[j]? = some (some (.lk o ks zs)) ∧ Q x (μ1.set j (some (.dT zs)))) : TEP X e ρ μ Q := fun ad Hb H σ W N Q' g => by
  have hl : j < ad.length := by rw [W.len]; exact (List.getElem?_eq_some_iff.mp hj).1
  obtain ⟨a, ha⟩ : ∃ a, ad[j]? = some a := ⟨_, List.getElem?_eq_getElem hl⟩
  obtain ⟨hb, ks, hv, r⟩ := W.off j a _ ha hj
  refine pe_go (pe_lock pe_self) ⟨a, _, hv, trivial, fun o => ?_⟩
  obtain ⟨W2, s2⟩ := W.put (d := .lk o ks zs) (o := .frz o (.dT ks)) ha hj ⟨upd_same, r⟩
  refine h o ks ad Hb _ σ W2 N _ fun v x μ1 ad1 Hb1 H1 ⟨h1, q⟩ s3 W3 r3 => ?_
  obtain ⟨hb1, hv1, r1⟩ := W3.off j a _ (s3.at_ ha) h1
  obtain ⟨W4, s4⟩ := W3.put (d := .dT zs) (o := .dT ks) (s3.at_ ha) h1 ⟨ks, upd_same, r1⟩
  exact ⟨hv1, g v x _ ad1 Hb1 _ q ((s2.trans s3).trans s4) W4 r3⟩
/-- a locked cell walked -/
theorem tip_lkKeys {j : Nat} {o : Obj} {ks : List (List Key × V)} {zs : List (List Key × E)} {R : List E → (Mu → Prop) → Mu → Prop} (h : EV X e ρ μ (.pt j)) (hj : μ[j]? = some (some (.lk o ks zs))) (q : R (zs.map fun q => .sh (.tup (q.1.map kP))) (fun μ2 => μ2[j]? = some (some (.lk o ks zs))) μ) : TIP X tg e ρ μ R := fun ad Hb H σ W N R' g => by
  refine pi_go (pi_keysL pe_self) (h (fun y μ1 => y = .pt j ∧ μ1 = μ) ⟨rfl, rfl⟩ ad Hb H σ W N _ ?_)
  rintro v x μ1 ad1 Hb1 H1 ⟨rfl, rfl⟩ s1 W1 ⟨a, ha, rfl⟩
  obtain ⟨_, hd, r⟩ := W1.off j a _ ha hj
  have hl : ks.length = zs.length := r.length
  refine ⟨a, ks, rfl, .inl ⟨o, hd, g _ _ (fun μ2 => μ2[j]? = some (some (.lk o ks zs))) _ _ _ _ q s1 W1 ⟨fun i ad3 Hb3 H3 μ3 hi s3 W3 G => ?_, fun ad3 Hb3 H3 μ3 s3 W3 G => ?_, fun i ad3 Hb3 H3 μ3 x H4 hi s3 W3 G y => ?_⟩⟩⟩
  · exact ⟨(W3.off j a _ (s3.at_ ha) G).2.1, by rw [List.length_map] at hi; omega⟩
  · exact ⟨(W3.off j a _ (s3.at_ ha) G).2.1, by rw [List.length_map]; omega⟩
  · obtain ⟨rfl, k, v, p, hk, rfl, hp⟩ := y
    obtain ⟨Hb4, h4, W4, s4⟩ := W3.join hp
    obtain ⟨z, hz, hz2⟩ := pd_right r i _ hk
    refine ⟨Hb4, .sh (.tup (k.map kP)), s4, W4, ?_, Rep.tupL h4 ?_⟩
    · rw [List.getElem?_map, hz]
      have : z.1 = k := hz2.1.symm
      simp [this]
    · generalize k = l
      induction l with
      | nil => exact .nil
      | cons a l ih =>
        refine .cons ?_ ih
        cases a with
        | inl i => exact .int i
        | inr i => exact .str i
theorem tip_lkVals {j : Nat} {o : Obj} {ks : List (List Key × V)} {zs : List (List Key × E)} {R : List E → (Mu → Prop) → Mu → Prop} (h : EV X e ρ μ (.pt j)) (hj : μ[j]? = some (some (.lk o ks zs))) (q : R (zs.map (·.2)) (fun μ2 => μ2[j]? = some (some (.lk o ks zs))) μ)
    (hbase : attributeBase e "values" X.env (eval e X.env) = eval e X.env := by rfl) (hline : (apos.endLine == cpos.line) = true := by rfl) : TIP X tg (.Call (.Attribute e "values" apos) [] [] cpos) ρ μ R := fun ad Hb H σ W N R' g => by
  refine pi_go (pi_valsL pe_self hbase hline) (h (fun y μ1 => y = .pt j ∧ μ1 = μ) ⟨rfl, rfl⟩ ad Hb H σ W N _ ?_)
  rintro v x μ1 ad1 Hb1 H1 ⟨rfl, rfl⟩ s1 W1 ⟨a, ha, rfl⟩
  obtain ⟨_, hd, r⟩ := W1.off j a _ ha hj
  have hl : ks.length = zs.length := r.length
  refine ⟨a, ks, rfl, .inl ⟨o, hd, g _ _ (fun μ2 => μ2[j]? = some (some (.lk o ks zs))) _ _ _ _ q s1 W1 ⟨fun i ad3 Hb3 H3 μ3 hi s3 W3 G => ?_, fun ad3 Hb3 H3 μ3 s3 W3 G => ?_, fun i ad3 Hb3 H3 μ3 x H4 hi s3 W3 G y => ?_⟩⟩⟩
  · exact ⟨(W3.off j a _ (s3.at_ ha) G).2.1, by rw [List.length_map] at hi; omega⟩
  · exact ⟨(W3.off j a _ (s3.at_ ha) G).2.1, by rw [List.length_map]; omega⟩
  · obtain ⟨rfl, k, hk⟩ := y
    obtain ⟨z, hz, hz2⟩ := pd_right r i _ hk
    exact ⟨Hb3, z.2, Step.refl _ _ _, W3, by rw [List.getElem?_map, hz]; rfl, RepE.step s3 hz2.2⟩
end
end PV

/-! sorted(d), list(d), .. of dicts of tuple keys. -/
namespace SrtO
open PySem PyProof.Rows Srt
theorem pv_sortedSrc {prog : Program} {w : World} {A : Around} {E : Value → Shared → Prop} {s : Shared} {T : String} {r d : Addr} {n : Nat} {P : Nat → Value → Prop} {OK : Heap → Prop} {k : Value → Int × Int} {Q : Value → Shared → Prop} (S : PySem.W.KdlSrc prog w T r d n P OK) (hh : A.handled = none) (ok : OK s.heap) (hn : n ≤ sizeLine)
    (hk : ∀ (i : Nat) v, P i v → IsPair s.heap v (k v).1 (k v).2)
    (h : ∀ (h1 h2 : Heap) (tk : Nat) (vs out : List Value) (c : Nat), vs.length = n → (∀ (j : Nat) v, vs[j]? = some v → P j v) → Srtd (fun v u => lexB (k v) (k u)) out → out.Perm vs → (∀ b o, s.heap.get? b = some o → h1.get? b = some o) → (∀ b o, h1.get? b = some o → h2.get? b = some o) → h2.get? h1.objs.size = some (seqObj "list" out.toArray c) → Q (.ref h1.objs.size) { s with heap := h2, toks := tk }) :
    wpAny (model prog w) A (call (.builtin "sorted") [.ref r]) Q E s := by
  refine Calls.call_function_entry kind_sorted plain_sorted entry_sorted (args_sorted1 _) ?_
  unfold Builtin.«sorted»
  refine wpAny_bind (m := checkCount "sorted" 1 1 _) (wpAny_pure ?_)
  refine wpAny_bind (PySem.W.kdu_collect (A := A.in1) S hh ok hn fun h1 tk acc keep it => ?_)
  have hl : acc.toList.length = n := by rw [Array.length_toList]; exact it.1
  have hz : acc.toList.length ≤ sizeLine := by rw [hl]; exact hn
  refine wpAny_bind (wpAny_newList ?_ hz)
  have items : ∀ (j : Nat) v, acc.toList[j]? = some v → P j v := fun j v e => it.2 j v (by rw [← Array.getElem?_toList]; exact e)
  have pairs : ∀ v ∈ acc.toList, IsPair s.heap v (k v).1 (k v).2 := fun v hv => by
    obtain ⟨j, hj⟩ := List.mem_iff_getElem?.mp hv
    exact hk j v (items j v hj)
  have hg : (h1.push (seqObj "list" acc.toList.toArray 0)).get? h1.objs.size = some (seqObj "list" acc.toList.toArray 0) := Heap.get?_push_size _ rfl
  have lo : ∀ b o, h1.get? b = some o → b ≠ h1.objs.size ∧ (h1.push (seqObj "list" acc.toList.toArray 0)).get? b = some o := fun b o e => ⟨Nat.ne_of_lt (Heap.lt_size e), Heap.get?_push_of_some _ e⟩
  refine wpAny_bind (wpAny_holding (wpAny_call_entry slot_list_sort ⟨_, hg, rfl⟩ entry_list_sort (list_sort_ord (s := { s with heap := h1.push (seqObj "list" acc.toList.toArray 0), toks := tk }) (swo_lex k) hg hz (fun h2 => ?_) fun out hs hb => ⟨_, rfl, ?_⟩) (args_list_sort _)))
  · refine pairs_sortableO (by omega) (fun v hv => (pairs v hv).keeps fun b o e _ => (lo b o (keep b o e)).2) fun o e c => ?_
    have e2 : some (seqObj "list" acc.toList.toArray 0) = some o := hg.symm.trans e
    cases e2
    exact absurd (Value.type.inj c) (by decide)
  · obtain ⟨c, hc⟩ := sortedHeap_at (out := out.toArray) hg
    refine wpAny_pure ⟨_, rfl, h h1 _ tk acc.toList out c hl items hs hb.perm keep (fun b o e => ?_) hc⟩
    rw [sortedHeap_old (lo b o e).1 (by rw [size_push']; exact Nat.lt_succ_of_lt (Heap.lt_size e))]
    exact (lo b o e).2
end SrtO

namespace PV
open PySem PySem.Spec PyProof.Rows L2
abbrev PR := Nat × Nat
def prK (p : PR) : List Key := [.inl (p.1 : Int), .inl (p.2 : Int)]
def prP (p : PR) : P := .tup [.int (p.1 : Int), .int (p.2 : Int)]
def prLe (p q : PR) : Prop := p.1 < q.1 ∨ (p.1 = q.1 ∧ p.2 ≤ q.2)
instance : DecidablePred fun p : PR × PR => prLe p.1 p.2 := fun p => by unfold prLe; infer_instance
def prB (p q : PR) : Bool := decide (p.1 < q.1 ∨ (p.1 = q.1 ∧ p.2 ≤ q.2))
theorem prB_iff {p q : PR} : prB p q = true ↔ prLe p q := by unfold prB prLe; exact decide_eq_true_iff
def sortP (l : List PR) : List PR := l.mergeSort prB
theorem sortP_perm (l : List PR) : (sortP l).Perm l := List.mergeSort_perm _ _
theorem sortP_sorted (l : List PR) : (sortP l).Pairwise prLe := by
  have h := List.pairwise_mergeSort (le := prB) (fun a b c h1 h2 => by
    have h1 := prB_iff.mp h1
    have h2 := prB_iff.mp h2
    refine prB_iff.mpr ?_
    unfold prLe at *
    omega) (fun a b => by
    cases h : prB a b with
    | true => rfl
    | false =>
      have h : ¬ prLe a b := fun z => by rw [prB_iff.mpr z] at h; cases h
      have : prLe b a := by
        unfold prLe at *
        omega
      rw [prB_iff.mpr this]
      rfl) l
  exact h.imp fun h => prB_iff.mp h
theorem pr_uniq : ∀ {l m : List PR}, l.Perm m → l.Pairwise prLe → m.Pairwise prLe → l = m
  | [], m, h, _, _ => (List.Perm.eq_nil h.symm).symm
  | x :: l, [], h, _, _ => absurd h.length_eq (by simp)
  | x :: l, y :: m, h, hl, hm => by
    have le : ∀ {a : PR} {r : List PR}, (a :: r).Pairwise prLe → ∀ b ∈ a :: r, prLe a b := fun {a r} hp b hb => by
      rcases List.mem_cons.mp hb with e | e
      · rw [e]; exact .inr ⟨rfl, Nat.le_refl _⟩
      · exact (List.pairwise_cons.mp hp).1 b e
    have h1 := le hl y (h.mem_iff.mpr (List.mem_cons_self ..))
    have h2 := le hm x (h.mem_iff.mp (List.mem_cons_self ..))
    have e : x = y := by
      unfold prLe at h1 h2
      exact Prod.ext (by omega) (by omega)
    subst e
    rw [pr_uniq h.cons_inv (List.pairwise_cons.mp hl).2 (List.pairwise_cons.mp hm).2]
/-- the pair of numbers that a tuple of the heap is -/
def kOf (H : Hp) : Value → Int × Int
  | .ref a => match H a with
    | some (.tup [.int i, .int j]) => (i, j)
    | _ => (0, 0)
  | _ => (0, 0)
def adV : Value → Addr
  | .ref a => a
  | _ => 0
def gOf (H : Hp) (u : Value) : PR := ((kOf H u).1.toNat, (kOf H u).2.toNat)
/-- sorted(d), its keys pairs of numbers -/
def rSortD : List V → Hp → VK → Prop := fun xs H Q => ∃ (d : Addr) (kvs : List (List Key × V)) (ps : List PR), xs = [.ref d] ∧ Rd H d (.dT kvs) ∧ kvs.map (·.1) = ps.map prK ∧
  ∀ (bs : List Addr) (p : Addr), Paired (fun b (q : PR) => H b = some (.tup [.int (q.1 : Int), .int (q.2 : Int)])) bs (sortP ps) → H p = none → Q (.ref p) (upd H p (.lst (bs.map .ref)))
theorem cr_sortedD {X : Cx} (hc : X.calm = true) : CallR X (.builtin "sorted") rSortD := by
  intro pins s σ H xs us Q I r h
  obtain ⟨d, kvs, ps, rfl, hd, hps, q⟩ := h
  obtain ⟨u, rfl, rx⟩ := r.one
  cases rx
  obtain ⟨z, hs, ks, pr, o, es, ep, ho, hx, hdt, he, hn⟩ := (show ObjOk X.prog X.w H s.heap d (.dT kvs) from hd.ok I.hok)
  have l1 : es.size = ks.length := size_of_entries he
  have l2 : kvs.length = ks.length := Paired.length pr
  -- a key's tuple
  have keyAt : ∀ (i : Nat) (b : List Key × Addr × Value), ks[i]? = some b → ∃ p : PR, ps[i]? = some p ∧ H b.2.1 = some (.tup [.int (p.1 : Int), .int (p.2 : Int)]) := fun i b hb => by
    have hi : i < kvs.length := by have := (List.getElem?_eq_some_iff.mp hb).1; omega
    obtain ⟨b2, hb2, e1, e2, _⟩ := paired_get pr (List.getElem?_eq_getElem hi)
    obtain rfl : b2 = b := Option.some.inj (hb2.symm.trans hb)
    have h1 := congrArg (·[i]?) hps
    simp only [List.getElem?_map, List.getElem?_eq_getElem hi, Option.map_some] at h1
    cases hp : ps[i]? with
    | none => rw [hp] at h1; cases h1
    | some p =>
      rw [hp] at h1
      have h2 : (kvs[i]).1 = prK p := Option.some.inj h1
      refine ⟨p, rfl, ?_⟩
      rw [e2, h2]
      rfl
  have valAt : ∀ (i : Nat) (v : Value), (∃ hi : i < es.size, v = es[i].key) → ∃ (p : PR) (a : Addr), ps[i]? = some p ∧ v = .ref a ∧ H a = some (.tup [.int (p.1 : Int), .int (p.2 : Int)]) := fun i v ⟨hi, e⟩ => by
    have qe := entry_at he i
    rw [Array.getElem?_eq_getElem hi] at qe
    cases hb : ks[i]? with
    | none => rw [hb] at qe; cases qe
    | some b =>
      rw [hb] at qe
      obtain ⟨p, h1, h2⟩ := keyAt i b hb
      refine ⟨p, b.2.1, h1, ?_, h2⟩
      rw [e, Option.some.inj qe]
      rfl
  have pairAt : ∀ (i : Nat) (v : Value), (∃ hi : i < es.size, v = es[i].key) → Srt.IsPair s.heap v (kOf H v).1 (kOf H v).2 := fun i v hv => by
    obtain ⟨p, a, _, rfl, ha⟩ := valAt i v hv
    obtain ⟨_, its, rv, o2, ho2, hc2, n2, hd2⟩ := I.hok _ _ ha
    obtain ⟨u1, u2, rfl, ⟨t1, rfl⟩, ⟨t2, rfl⟩⟩ := vals2 rv
    have ek : kOf H (.ref a) = ((p.1 : Int), (p.2 : Int)) := by
      simp only [kOf, ha]
    rw [ek]
    exact ⟨a, o2, t1, t2, n2, rfl, ho2, hc2, hd2⟩
  refine SrtO.pv_sortedSrc (k := kOf H) (PySem.KdlSrc.rawDict (es := es) (ep := ep) hs) (I.ok.hd hc) ⟨o, ho, hx, hdt⟩ (by rw [l1, ← l2]; exact z) pairAt fun h1 h2 tk vs out c lv iv srt pm k1 k2 hg => ?_
  have memAt : ∀ v ∈ vs, ∃ (p : PR) (a : Addr), p ∈ ps ∧ v = .ref a ∧ H a = some (.tup [.int (p.1 : Int), .int (p.2 : Int)]) := fun v hv => by
    obtain ⟨j, hj⟩ := List.mem_iff_getElem?.mp hv
    obtain ⟨p, a, h3, h4, h5⟩ := valAt j v (iv j v hj)
    exact ⟨p, a, List.mem_of_getElem? h3, h4, h5⟩
  have gv : ∀ {v : Value} {p : PR} {a : Addr}, v = .ref a → H a = some (.tup [.int (p.1 : Int), .int (p.2 : Int)]) → kOf H v = ((p.1 : Int), (p.2 : Int)) ∧ gOf H v = p := fun {v p a} e1 e2 => by
    subst e1
    have ek : kOf H (.ref a) = ((p.1 : Int), (p.2 : Int)) := by
      simp only [kOf, e2]
    refine ⟨ek, ?_⟩
    unfold gOf
    rw [ek]
    rfl
  have evs : vs.map (gOf H) = ps := by
    refine List.ext_getElem? fun j => ?_
    rw [List.getElem?_map]
    cases hj : vs[j]? with
    | none =>
      have h3 := List.getElem?_eq_none_iff.mp hj
      have h4 := congrArg List.length hps
      rw [List.length_map, List.length_map] at h4
      rw [List.getElem?_eq_none (by omega)]
      rfl
    | some v =>
      obtain ⟨p, a, h3, h4, h5⟩ := valAt j v (iv j v hj)
      rw [h3]
      exact congrArg some (gv h4 h5).2
  have eout : out.map (gOf H) = sortP ps := by
    refine pr_uniq ?_ ?_ (sortP_sorted ps)
    · refine ((pm.map (gOf H)).trans ?_).trans (sortP_perm ps).symm
      rw [evs]
    · refine List.pairwise_map.mpr (srt.imp_of_mem fun {a b} ha hb hab => ?_)
      obtain ⟨p, x, _, h3, h4⟩ := memAt a (pm.mem_iff.mp ha)
      obtain ⟨p2, x2, _, h5, h6⟩ := memAt b (pm.mem_iff.mp hb)
      have e1 := gv h3 h4
      have e2 := gv h5 h6
      have hno := SrtO.lexB_no.mp hab
      rw [e1.1, e2.1] at hno
      rw [e1.2, e2.2]
      unfold prLe
      simp only at hno
      omega
  have I1 : Inv X pins σ H { s with heap := h1 } := I.kept (t' := s.toks) k1
  have isref : ∀ v ∈ out, ∃ a, v = Value.ref a := fun v hv => by
    obtain ⟨p, a, _, h3, _⟩ := memAt v (pm.mem_iff.mp hv)
    exact ⟨a, h3⟩
  have eb : (out.map adV).map V.ref = out.map fun v => V.ref (adV v) := by
    rw [List.map_map]
    rfl
  have vals : Vals ((out.map adV).map V.ref) out := by
    rw [eb]
    clear eb eout pm srt hg q
    induction out with
    | nil => exact .nil
    | cons v out ih =>
      obtain ⟨a, rfl⟩ := isref v (List.mem_cons_self ..)
      exact .cons rfl (ih fun v hv => isref v (List.mem_cons_of_mem _ hv))
  have hlen : ((out.map adV).map V.ref).length ≤ sizeLine := by
    rw [List.length_map, List.length_map, pm.length_eq, lv, l1, ← l2]
    exact z
  refine ⟨.ref h1.objs.size, upd H h1.objs.size (.lst ((out.map adV).map V.ref)), I1.laid (t' := tk) k2 (Nat.le_refl _) ⟨hlen, out, c, vals, hg⟩, rfl, q _ _ ?_ (I1.hok.fresh (Nat.le_refl _))⟩
  rw [← eout]
  have all : ∀ v ∈ out, H (adV v) = some (.tup [.int ((gOf H v).1 : Int), .int ((gOf H v).2 : Int)]) := fun v hv => by
    obtain ⟨p, a, _, h3, h4⟩ := memAt v (pm.mem_iff.mp hv)
    rw [(gv h3 h4).2, h3]
    exact h4
  clear eout eb vals hlen isref pm srt hg q
  induction out with
  | nil => exact .nil
  | cons v out ih => exact .cons (all v (List.mem_cons_self ..)) (ih fun v hv => all v (List.mem_cons_of_mem _ hv))
section
variable {X : Cx} {e : Expr} {ρ : Rho} {μ : Mu} {Q : E → Mu → Prop} {pos p2 : Pos}
theorem join_pairs {K : PySem.W.Frag} {ad : List Addr} {H : Hp} {μ : Mu} : ∀ {bs : List Addr} {qs : List PR} {Hb : Hp}, Wd K ad Hb H μ → Paired (fun b (q : PR) => H b = some (.tup [.int (q.1 : Int), .int (q.2 : Int)])) bs qs → ∃ Hb2, Wd K ad Hb2 H μ ∧ Step ad Hb H ad Hb2 H ∧ RepL K Hb2 (bs.map .ref) (qs.map prP)
  | _, _, Hb, W, .nil => ⟨Hb, W, Step.refl _ _ _, .nil⟩
  | _, _, Hb, W, .cons h t => by
    obtain ⟨Hb1, h1, W1, s1⟩ := W.join h
    obtain ⟨Hb2, W2, s2, r⟩ := join_pairs W1 t
    exact ⟨Hb2, W2, s1.trans s2, .cons (Rep.tupL (s2.ex _ _ h1) (.cons (.int _) (.cons (.int _) .nil))) r⟩
/-- sorted(d), d a dict of pairs -/
theorem tep_sortD (ps : List PR) (hc : X.calm = true) (hm : X.mg "sorted" = none) (h : TEP X e ρ μ fun x μ1 => ((∃ kvs : List (List Key × P), x = .sh (.dT kvs) ∧ kvs.map (·.1) = ps.map prK) ∨ ∃ (j : Nat) (zs : List (List Key × E)), x = .pt j ∧ μ1[j]? = some (some (.dT zs)) ∧ zs.map (·.1) = ps.map prK) ∧ Q (.sh (.lst ((sortP ps).map prP))) μ1)
    (hg : Gl X "sorted" := by rfl) (hs : starEach [e] X.env = (false, eval e X.env) :: starEach [] X.env := by rfl) : TEP X (.Call (.Name "sorted" p2) [e] [] pos) ρ μ Q :=
  tep_callB (cr_sortedD hc) hg hm bo_sorted (tap_cons (fun ad Hb H σ W N Q' g => h ad Hb H σ W N Q' fun v x μ1 ad1 Hb1 H1 ⟨hx, q⟩ s1 W1 r1 => g v x μ1 ad1 Hb1 H1 (tap_nil fun ad Hb H vs W r0 Q' g => by
    obtain ⟨v, rfl, r1⟩ := vals1 r0
    have key : ∃ d ks, v = .ref d ∧ Rd H d (.dT ks) ∧ ks.map (·.1) = ps.map prK := by
      rcases hx with ⟨kvs, rfl, hk⟩ | ⟨j, zs, rfl, hj, hk⟩
      · obtain ⟨d, ks, rfl, hb, r⟩ := Rep.dT_inv r1
        exact ⟨d, ks, rfl, W.inc _ _ hb, by rw [← hk]; exact pd_fst r⟩
      · obtain ⟨d, hd, rfl⟩ := r1
        obtain ⟨_, ks, hv, r⟩ := W.off j d _ hd hj
        exact ⟨d, ks, rfl, .inl hv, by rw [← hk]; exact pd_fst r⟩
    obtain ⟨d, ks, rfl, hd, hk⟩ := key
    refine ⟨d, ks, ps, rfl, hd, hk, fun bs p pr hp => ?_⟩
    obtain ⟨Hb2, W2, s2, r2⟩ := join_pairs W pr
    obtain ⟨W3, s3⟩ := W2.alloc (o := .lst (bs.map .ref)) hp
    exact g _ (.sh (.lst ((sortP ps).map prP))) _ _ _ _ q (s2.trans s3) W3 (Rep.lstL upd_same (RepL.mono s3.ex r2))) s1 W1 r1) hs) (by decide) (by decide) hs rfl
end
end PV

/-! list(d), list(d.values()), list(d.items()) of dicts of tuple keys. -/
namespace PV
open PySem PySem.Spec PyProof.Rows L2
/-- a dict of tuple keys, read: raw -/
theorem rdV {X : Cx} {pins : List (Addr × Obj)} {σ : L2.St} {H : Hp} {s : Shared} {d : Addr} {kvs : List (List Key × V)} (I : Inv X pins σ H s) (h : Rd H d (.dT kvs)) :
    (d == sysModules) = false ∧ kvs.length ≤ sizeLine ∧ ∃ es ep, s.heap.DictRaw d es ep ∧ es.size = kvs.length ∧ ∀ (i : Nat) (hi : i < es.size), ∃ (k : List Key) (v : V) (q : Addr), kvs[i]? = some (k, v) ∧ es[i].key = .ref q ∧ H q = some (.tup (k.map kV)) ∧ RelV v es[i].val := by
  obtain ⟨z, hs, xs, pr, o, es, ep, ho, hx, hdt, he, _⟩ := (show ObjOk X.prog X.w H s.heap d (.dT kvs) from h.ok I.hok)
  have l1 : es.size = xs.length := size_of_entries he
  have l2 : kvs.length = xs.length := Paired.length pr
  refine ⟨hs, z, es, ep, ⟨o, ho, hx, hdt⟩, by omega, fun i hi => ?_⟩
  have hi2 : i < kvs.length := by omega
  obtain ⟨b, hb, e1, e2, e3⟩ := paired_get pr (List.getElem?_eq_getElem hi2)
  have q := entry_at he i
  rw [hb, Array.getElem?_eq_getElem hi] at q
  have e := Option.some.inj q
  refine ⟨(kvs[i]).1, (kvs[i]).2, b.2.1, List.getElem?_eq_getElem hi2, by rw [e]; rfl, e2, by rw [e]; exact e3⟩
section
variable {X : Cx} {e : Expr} {te : TE} {p apos cpos pos : Pos}
/-- list(e.values()) -/
theorem pe_listVals (hc : X.calm = true) (he : PE X e te) (hg : Gl X "list") (hm : X.mg "list" = none) (hbase : attributeBase e "values" X.env (eval e X.env) = eval e X.env) (hline : (apos.endLine == cpos.line) = true)
    (hs : starEach [.Call (.Attribute e "values" apos) [] [] cpos] X.env = (false, eval (.Call (.Attribute e "values" apos) [] [] cpos) X.env) :: starEach [] X.env) :
    PE X (.Call (.Name "list" p) [.Call (.Attribute e "values" apos) [] [] cpos] [] pos) (fun σ H Q => te σ H fun x H1 => ∃ (d : Addr) (kvs : List (List Key × V)), x = .ref d ∧ Rd H1 d (.dT kvs) ∧ ∀ p, H1 p = none → Q (.ref p) (upd H1 p (.lst (kvs.map (·.2))))) := .mk fun pins s σ H Q I hq => by
  refine wpAny_Call_Name_kw (ld_blt I hg hm bo_list (PyProof.Rows.callWith_type1 ?_ hs rfl))
  rw [hs]
  show wpAny _ _ (spliced ((false, eval (.Call (.Attribute e "values" apos) [] [] cpos) X.env) :: backTo pos (starEach [] X.env))) _ _ s
  refine Calls.spliced_cons (wpAny_Call_method (T := "dict") (id := "dict.values") hbase rfl hline F.plainAttrs_dict F.slot_dict_values F.type_dict_values (thn (he.run pins s σ H _ I hq) ?_))
  rintro u s1 ⟨x, H1, I1, rx, d, kvs, rfl, hd, q⟩
  obtain rfl : u = .ref d := rx
  obtain ⟨hs0, hz, es, ep, hr, hsz, ent⟩ := rdV I1 hd
  refine ⟨hr.typeIs, fun a z => ?_, ?_⟩
  · cases z
    obtain ⟨ob, h1, h2, _⟩ := hr
    exact ⟨ob, h1, h2.2.1⟩
  have I2 : Inv X pins σ H1 { s1 with heap := s1.heap.push ⟨.type "dict_values", none, .fields #[.ref d], #[]⟩ } := I1.kept (t' := s1.toks) fun b ob z => Heap.get?_push_of_some _ z
  show wpAny _ _ (callWith cpos (.builtin "dict.values") [.ref d] [] []) _ X.xe s1
  refine method_meetsIn F.slot_dict_values F.entry_dict_values rfl (PySem.evalArgs_none ⟨rfl, hr.typeIs, F.args_dict_values_1 _, _, meets_dict_values_raw d hs0, ⟨es, ep, hr⟩, ?_⟩)
  refine Calls.spliced_nil (PySem.W.kdl_call (PySem.KdlSrc.rawValues (es := es) (ep := ep) (d := d)) (I1.ok.hd hc) ⟨⟨_, Heap.get?_push_size _ rfl, rfl, rfl⟩, hr.at fun o z => Heap.get?_push_of_some _ z⟩ (by rw [hsz]; exact hz) fun h' tk acc c hk hS it => ?_)
  have rv : Vals (kvs.map (·.2)) acc.toList := by
    refine pd_of (by rw [List.length_map, Array.length_toList]; exact (it.1.trans hsz).symm) fun i v w h1 h2 => ?_
    obtain ⟨hi, rfl⟩ := it.2 i w (by rw [← Array.getElem?_toList]; exact h2)
    obtain ⟨k, v2, b, h3, _, _, h4⟩ := ent i hi
    rw [List.getElem?_map, h3] at h1
    cases h1
    exact h4
  refine ⟨.ref _, upd H1 _ (.lst (kvs.map (·.2))), I2.laid (t' := tk) hk (Nat.le_refl _) ⟨by rw [List.length_map]; exact hz, acc.toList, c, rv, by rw [Array.toArray_toList]; exact hS⟩, rfl, q _ (I2.hok.fresh (Nat.le_refl _))⟩
end
section
variable {X : Cx} {e : Expr} {ρ : Rho} {μ : Mu} {Q : E → Mu → Prop} {apos cpos pos p2 : Pos}
/-- what is known of a dict of tuple keys, shared or a cell: its keys and values -/
def DTv (μ : Mu) (x : E) (zs : List (List Key × E)) : Prop := (∃ kvs : List (List Key × P), x = .sh (.dT kvs) ∧ zs = kvs.map fun q => (q.1, .sh q.2)) ∨ ∃ j, x = .pt j ∧ μ[j]? = some (some (.dT zs))
theorem pd_map2 {κ : Type} {K : PySem.W.Frag} {ad : List Addr} {Hb : Hp} : ∀ {vs : List (κ × V)} {zs : List (κ × P)}, Paired (fun p q => p.1 = q.1 ∧ Rep K Hb p.2 q.2) vs zs → Paired (fun p q => p.1 = q.1 ∧ RepE K ad Hb p.2 q.2) vs (zs.map fun q => (q.1, E.sh q.2))
  | _, _, .nil => .nil
  | _, _, .cons r t => .cons r (pd_map2 t)
theorem DTv.get {K : PySem.W.Frag} {ad : List Addr} {Hb H : Hp} {x : E} {zs : List (List Key × E)} (h : DTv μ x zs) (W : Wd K ad Hb H μ) {v : V} (r : RepE K ad Hb v x) : ∃ d ks, v = .ref d ∧ Rd H d (.dT ks) ∧ Paired (fun p q => p.1 = q.1 ∧ RepE K ad Hb p.2 q.2) ks zs := by
  rcases h with ⟨kvs, rfl, rfl⟩ | ⟨j, rfl, hj⟩
  · obtain ⟨d, ks, rfl, hb, r⟩ := Rep.dT_inv r
    exact ⟨d, ks, rfl, W.inc _ _ hb, pd_map2 r⟩
  · obtain ⟨d, hd, rfl⟩ := r
    obtain ⟨_, ks, hv, r⟩ := W.off j d _ hd hj
    exact ⟨d, ks, rfl, .inl hv, r⟩
theorem pd_snd {κ : Type} {F : V → E → Prop} : ∀ {vs : List (κ × V)} {zs : List (κ × E)}, Paired (fun p q => p.1 = q.1 ∧ F p.2 q.2) vs zs → Paired F (vs.map (·.2)) (zs.map (·.2))
  | _, _, .nil => .nil
  | _, _, .cons r t => .cons r.2 (pd_snd t)
theorem tep_listVals {ps : List P} (hm : X.mg "list" = none) (h : TEP X e ρ μ fun x μ1 => ∃ zs : List (List Key × E), DTv μ1 x zs ∧ zs.map (·.2) = ps.map .sh ∧ Q (.sh (.lst ps)) μ1) (hc : X.calm = true := by rfl) (hg : Gl X "list" := by rfl) (hbase : attributeBase e "values" X.env (eval e X.env) = eval e X.env := by rfl) (hline : (apos.endLine == cpos.line) = true := by rfl)
    (hs : starEach [.Call (.Attribute e "values" apos) [] [] cpos] X.env = (false, eval (.Call (.Attribute e "values" apos) [] [] cpos) X.env) :: starEach [] X.env := by rfl) : TEP X (.Call (.Name "list" p2) [.Call (.Attribute e "values" apos) [] [] cpos] [] pos) ρ μ Q := fun ad Hb H σ W N Q' g => by
  refine pe_go (pe_listVals hc pe_self hg hm hbase hline hs) (h ad Hb H σ W N _ ?_)
  rintro v x μ1 ad1 Hb1 H1 ⟨zs, dv, hz, q⟩ s1 W1 r1
  obtain ⟨d, ks, rfl, hd, r⟩ := dv.get W1 r1
  refine ⟨d, ks, rfl, hd, fun p hp => ?_⟩
  obtain ⟨W2, s2⟩ := W1.alloc (o := .lst (ks.map (·.2))) hp
  have r2 := pd_snd r
  rw [hz] at r2
  exact g _ (.sh (.lst ps)) _ _ _ _ q (s1.trans s2) W2 (Rep.lstL upd_same (RepL.mono s2.ex (repEs_sh r2)))
def keyP (k : List Key) : P := .tup (k.map kP)
theorem join_keys {K : PySem.W.Frag} {ad : List Addr} {H : Hp} {μ : Mu} : ∀ {ks : List (List Key × V)} {bs : List Addr} {Hb : Hp}, Wd K ad Hb H μ → IsKeys H ks bs → ∃ Hb2, Wd K ad Hb2 H μ ∧ Step ad Hb H ad Hb2 H ∧ RepL K Hb2 (bs.map .ref) (ks.map fun q => keyP q.1)
  | _, _, Hb, W, .nil => ⟨Hb, W, Step.refl _ _ _, .nil⟩
  | _, _, Hb, W, .cons h t => by
    obtain ⟨Hb1, h1, W1, s1⟩ := W.join h
    obtain ⟨Hb2, W2, s2, r⟩ := join_keys W1 t
    refine ⟨Hb2, W2, s1.trans s2, .cons (Rep.tupL (s2.ex _ _ h1) ?_) r⟩
    generalize (_ : List Key × V).1 = l
    induction l with
    | nil => exact .nil
    | cons a l ih =>
      refine .cons ?_ ih
      cases a with
      | inl i => exact .int i
      | inr i => exact .str i
/-- list(d): the keys, in a new cell -/
theorem tep_listDC (hm : X.mg "list" = none) (h : TEP X e ρ μ fun x μ1 => ∃ zs : List (List Key × E), DTv μ1 x zs ∧ Q (.pt μ1.length) (μ1 ++ [some (.lst (zs.map fun q => .sh (keyP q.1)))])) (hc : X.calm = true := by rfl) (hg : Gl X "list" := by rfl) (hs : starEach [e] X.env = (false, eval e X.env) :: starEach [] X.env := by rfl) : TEP X (.Call (.Name "list" p2) [e] [] pos) ρ μ Q :=
  tep_callTy (call_list_dT hc) hg hm bo_list (tap_cons (fun ad Hb H σ W N Q' g => h ad Hb H σ W N Q' fun v x μ1 ad1 Hb1 H1 ⟨zs, dv, q⟩ s1 W1 r1 => g v x μ1 ad1 Hb1 H1 (tap_nil fun ad Hb H vs W r0 Q' g => by
    obtain ⟨v, rfl, r1⟩ := vals1 r0
    obtain ⟨d, ks, rfl, hd, r⟩ := dv.get W r1
    refine ⟨d, ks, rfl, hd, fun p bs hp hk => ?_⟩
    obtain ⟨Hb2, W2, s2, r2⟩ := join_keys W hk
    have e1 : zs.map (fun q => keyP q.1) = ks.map fun q => keyP q.1 := by
      have := pd_fst r
      have h2 := congrArg (List.map keyP) this
      rw [List.map_map, List.map_map] at h2
      exact h2.symm
    have e2 : (zs.map fun q => E.sh (keyP q.1)) = (ks.map fun q => keyP q.1).map .sh := by
      rw [← e1, List.map_map]
      rfl
    obtain ⟨W3, s3⟩ := W2.cell (o := .lst (bs.map .ref)) (c := .lst (zs.map fun q => .sh (keyP q.1))) hp ⟨_, upd_same, by rw [e2]; exact repEs_of r2⟩
    exact g _ (.pt _) _ _ _ _ q (s2.trans s3) W3 ⟨p, by rw [← W2.len]; simp, rfl⟩) s1 W1 r1) hs) (by decide) (by decide) hs rfl
end
end PV

/-! range downwards; dicts of pairs to numbers. -/
namespace PV
open PySem PySem.Spec PyProof.Rows L2
section
variable {X : Cx} {tg iter a b c : Expr} {ρ : Rho} {μ : Mu} {pos p2 : Pos} {D : Out} {rest : List Stmt}
/-- .. over what stands as long as G does -/
theorem lc_invG {α : Type} {l : List α} {f : α → P} {p : α → Bool} {g : α → P} {ρ' : α → Rho} {elt : Expr} {ifs : List Expr} {scope : Scope} {own : List (Str × Nat)} {js : List Nat} {Fin : List E → Mu → Prop} {G : Mu → Prop} (hG : G μ) (hi : ∀ R : List E → (Mu → Prop) → Mu → Prop, R (l.map fun a => .sh (f a)) G μ → TIP X tg iter ρ μ R) (hl : l.length ≤ 100000)
    (ht : ∀ a ∈ l, ∀ R : Rho → Mu → Prop, R (ρ' a) μ → TGB X scope tg js (.sh (f a)) (wipeR ρ (own.map (·.2))) μ R)
    (hp : ∀ a ∈ l, ∀ Q : Bool → Mu → Prop, Q (p a) μ → TTsB X scope ifs (ρ' a) μ Q) (he : ∀ a ∈ l, p a = true → ∀ Q : E → Mu → Prop, Q (.sh (g a)) μ → TEB X scope elt (ρ' a) μ Q) (q : Fin (((l.filter p).map g).map .sh) μ) :
    TIP X tg iter ρ μ fun items G μ1 => ∃ I : Nat → List E → Mu → Prop, I 0 [] μ1 ∧ (∀ i acc μ2, i ≤ items.length → I i acc μ2 → G μ2) ∧
      (∀ i x acc μ2, items[i]? = some x → I i acc μ2 → TGB X scope tg js x (wipeR ρ (own.map (·.2))) μ2 fun ρ3 μ3 => TTsB X scope ifs ρ3 μ3 fun b μ4 => if b = true then TEB X scope elt ρ3 μ4 (fun y μ5 => acc.length < 100000 ∧ I (i + 1) (acc ++ [y]) μ5) else I (i + 1) acc μ4) ∧
      ∀ acc μ2, I items.length acc μ2 → Fin acc μ2 := by
  refine hi _ ⟨fun i acc μ2 => μ2 = μ ∧ acc = (((l.take i).filter p).map g).map .sh, ⟨rfl, rfl⟩, fun _ _ _ _ h => h.1 ▸ hG, ?_, ?_⟩
  · rintro i x acc μ2 hx ⟨rfl, rfl⟩
    rw [List.getElem?_map] at hx
    cases e : l[i]? with
    | none => rw [e] at hx; cases hx
    | some a =>
      rw [e] at hx
      cases hx
      have ha : a ∈ l := List.mem_of_getElem? e
      have ht' : l.take (i + 1) = l.take i ++ [a] := by
        rw [List.take_add_one, e]
        rfl
      refine ht a ha _ (hp a ha _ ?_)
      by_cases c : p a = true
      · rw [if_pos c]
        refine he a ha c _ ⟨?_, rfl, ?_⟩
        · have h1 := List.length_filter_le p (l.take i)
          have h2 := (List.getElem?_eq_some_iff.mp e).1
          rw [List.length_map, List.length_map]
          rw [List.length_take] at h1
          omega
        · rw [ht', List.filter_append, List.map_append, List.map_append]
          simp [c]
      · rw [if_neg c]
        refine ⟨rfl, ?_⟩
        rw [ht', List.filter_append, List.map_append, List.map_append]
        simp [c]
  · rintro acc μ2 ⟨rfl, rfl⟩
    rw [List.length_map, List.take_length]
    exact q
theorem ei_rangeDown {i j : Int} (hm : X.mg "range" = none) (ha : EV X a ρ μ (.sh (.int i))) (hb : EV X b ρ μ (.sh (.int j))) (hcc : EV X c ρ μ (.sh (.int (-1)))) (hk : -(2 ^ 62) ≤ i ∧ i < 2 ^ 62 ∧ -(2 ^ 62) ≤ j ∧ j < 2 ^ 62) (hg : Gl X "range" := by rfl)
    (hs : starEach [a, b, c] X.env = (false, eval a X.env) :: starEach [b, c] X.env := by rfl) (hs2 : starEach [b, c] X.env = (false, eval b X.env) :: starEach [c] X.env := by rfl) (hs3 : starEach [c] X.env = (false, eval c X.env) :: starEach [] X.env := by rfl) (hpl : (backTo pos (starEach [b, c] X.env)).any (·.1) = false := by rfl) :
    EI X tg (.Call (.Name "range" p2) [a, b, c] [] pos) ρ μ ((List.range (i - j).toNat).map fun k => .sh (.int (i - (k : Nat)))) := fun R q ad Hb H σ W N R' g => by
  refine pi_go (pi_range3 hg hm pa_self hs hpl) ((ea_cons ha (ea_cons hb (ea_cons hcc ea_nil hs3) hs2) hs) (fun ys μ1 => ys = [.sh (.int i), .sh (.int j), .sh (.int (-1))] ∧ μ1 = μ) ⟨rfl, rfl⟩ ad Hb H σ W N _ ?_)
  rintro vs ys μ1 ad1 Hb1 H1 ⟨rfl, rfl⟩ s1 W1 r0
  obtain ⟨v, w, u, rfl, r1, r2, r3⟩ := vals3E r0
  obtain rfl := Rep.int_inv r1
  obtain rfl := Rep.int_inv r2
  obtain rfl := Rep.int_inv r3
  refine ⟨i, j, -1, (i - j).toNat, rfl, RgC.neg hk.1 hk.2.1 hk.2.2.1 hk.2.2.2, g _ _ _ _ _ _ _ q s1 W1 ?_⟩
  have e : (fun k : Nat => V.int (i + (k : Nat) * (-1))) = fun k : Nat => V.int (i - (k : Nat)) := funext fun k => by
    congr 1
    omega
  have w := walk_rangeC (lo := i) (c := -1) (n := (i - j).toNat)
  rw [e] at w
  exact pwalk_fn w fun k H => .int _
theorem ev_addN {i j : Nat} (ha : EV X a ρ μ (.sh (.int (i : Nat)))) (hb : EV X b ρ μ (.sh (.int (j : Nat)))) : EV X (.BinOp a .Add b pos) ρ μ (.sh (.int ((i + j : Nat) : Int))) := (ev_add ha hb).is (by rw [Int.natCast_add])
theorem ev_subN {i j : Nat} (h : j ≤ i) (ha : EV X a ρ μ (.sh (.int (i : Nat)))) (hb : EV X b ρ μ (.sh (.int (j : Nat)))) : EV X (.BinOp a .Sub b pos) ρ μ (.sh (.int ((i - j : Nat) : Int))) := (ev_sub ha hb).is (by rw [show ((i - j : Nat) : Int) = (i : Int) - j by omega])
/-- [elt for x in d.values()], d a cell -/
theorem ev_lcVals {α : Type} {j : Nat} {zs : List (List Key × E)} {o elt : Expr} {scope : Scope} {apos cpos : Pos} (l : List α) (f : α → P) (g : α → P) (r : α → Rho) (js : List Nat) (own : List (Str × Nat)) (nd : X.N.Nodup) (ok : BlkOk X.N X.env.scope scope own) (hj : μ[j]? = some (some (.dT zs))) (hz : zs.map (·.2) = l.map fun a => .sh (f a)) (hl : l.length ≤ 100000)
    (ho : ∀ μ2, EV X o ρ μ2 (.pt j)) (ht : ∀ a ∈ l, ∀ μ2, TgB X scope tg js (.sh (f a)) (wipeR ρ (own.map (·.2))) (r a) μ2) (he : ∀ a ∈ l, ∀ μ2, EVB X scope elt (r a) μ2 (.sh (g a))) (hjs : ∀ j ∈ js, j ∈ own.map (·.2) := by decide) (hc : X.calm = true := by rfl)
    (hbase : attributeBase o "values" X.env (eval o X.env) = eval o X.env := by rfl) (hline : (apos.endLine == cpos.line) = true := by rfl) (hs : ∀ x, foldedSetIterable (.Call (.Attribute o "values" apos) [] [] cpos) X.env x = pure x := by intro _; rfl) :
    EV X (.ListComp elt [⟨tg, .Call (.Attribute o "values" apos) [] [] cpos, [], 0⟩] scope pos) ρ μ (.sh (.lst (l.map g))) := fun Q q => by
  have hl2 : j < μ.length := (List.getElem?_eq_some_iff.mp hj).1
  refine tep_lock hj fun od ks => ?_
  have hj2 : (μ.set j (some (.lk od ks zs)))[j]? = some (some (.lk od ks zs)) := List.getElem?_set_self hl2
  have back : (μ.set j (some (.lk od ks zs))).set j (some (.dT zs)) = μ := by
    rw [List.set_set]
    refine List.ext_getElem? fun i => ?_
    by_cases c : j = i
    · subst c
      rw [List.getElem?_set_self hl2, hj]
    · rw [List.getElem?_set_ne c]
  have e : l.filter (fun _ => true) = l := List.filter_eq_self.mpr fun _ _ => rfl
  refine tep_lc own js hc nd ok hjs (lc_invG (p := fun _ => true) (g := g) (G := fun μ2 => μ2[j]? = some (some (.lk od ks zs))) (Fin := fun acc μ2 => ∃ ys : List P, acc = ys.map .sh ∧ (μ2[j]? = some (some (.lk od ks zs)) ∧ Q (.sh (.lst ys)) (μ2.set j (some (.dT zs))))) hj2 (fun R h => tip_lkVals (ho _) hj2 (by rw [hz]; exact h) hbase hline) hl (fun a ha => ht a ha _) (fun a _ => ttsb0) (fun a ha _ Q q s H C cl fp => he a ha _ s H C cl fp Q q) ⟨l.map g, by rw [e], hj2, by rw [back]; exact q⟩) hs
/-- a cell's dict is as good as shared from here on -/
theorem tss_shareT (j : Nat) {zs : List (List Key × P)} {R : Rho} (hj : μ[j]? = some (some (.dT (zs.map fun q => (q.1, .sh q.2))))) (hR : R.length = ρ.length) (hR2 : ∀ (i : Nat) (x : E), R[i]? = some (some x) → ρ[i]? = some (some x) ∨ (ρ[i]? = some (some (.pt j)) ∧ x = .sh (.dT zs))) (h : TSs X rest R (μ.set j none) D) : TSs X rest ρ μ D := fun ad Hb H σ W N D' g => by
  have hl : j < μ.length := (List.getElem?_eq_some_iff.mp hj).1
  have hla : j < ad.length := by rw [W.len]; exact hl
  obtain ⟨a, ha⟩ : ∃ a, ad[j]? = some a := ⟨_, List.getElem?_eq_getElem hla⟩
  obtain ⟨b1, vs, hv, r⟩ := W.off j a _ ha hj
  have s : Step ad Hb H ad (upd Hb a (.dT vs)) H := ⟨Ex.new b1, ⟨[], by simp⟩, fun _ z => .inl z, fun _ _ _ z => .inl z, fun b o hb e t n => by
    rw [upd_ne (fun z => hb (by rw [z]; exact List.mem_of_getElem? ha))]
    exact n, fun _ _ _ _ z => z⟩
  have sp : ∀ (i : Nat) (b : Addr) (c : Cell), ad[i]? = some b → (μ.set j none)[i]? = some (some c) → b ≠ a ∧ μ[i]? = some (some c) := fun i b c hb hc => by
    by_cases e : j = i
    · subst e
      rw [List.getElem?_set_self hl] at hc
      cases hc
    · rw [List.getElem?_set_ne e] at hc
      refine ⟨fun z => ?_, hc⟩
      subst z
      exact e (W.nd j i b _ c ha hb hj hc)
  refine h ad _ H σ ⟨by rw [List.length_set]; exact W.len, fun b u e => ?_, fun i b c hb hc => ?_, fun i k b c d hi hk hc hd => W.nd i k b c d hi hk (sp i b c hi hc).2 (sp k b d hk hd).2, W.trk⟩ ⟨N.1.trans hR.symm, fun i x hx => ?_⟩ D' (g.after s)
  · by_cases eb : b = a
    · subst eb
      rw [upd_same] at e
      cases e
      exact .inl hv
    · rw [upd_ne eb] at e
      exact W.inc b u e
  · obtain ⟨n, hc2⟩ := sp i b c hb hc
    obtain ⟨h3, h4⟩ := W.off i b c hb hc2
    exact ⟨by rw [upd_ne n]; exact h3, h4.keep rfl fun v x r => RepE.step s r⟩
  · rcases hR2 i x hx with h1 | ⟨h1, rfl⟩
    · obtain ⟨v, h2, h3⟩ := N.2 i x h1
      exact ⟨v, h2, RepE.step s h3⟩
    · obtain ⟨v, h2, b, h3, rfl⟩ := N.2 i _ h1
      rw [ha] at h3
      cases h3
      exact ⟨_, h2, .dT upd_same (pd_fst (pd_unmap r)) fun i v x h5 h6 => Rep.mono s.ex (pd_get (pd_unmap r) i v x h5 h6).2⟩
/-- xs[::-1], xs a cell: a new one -/
theorem tep_revC {j k : Nat} {p1 p3 : Pos} {zs : List E} {Q : E → Mu → Prop} (ha : EV X a ρ μ (.pt j)) (hj : μ[j]? = some (some (.lst zs))) (q : Q (.pt μ.length) (μ ++ [some (.lst zs.reverse)])) : TEP X (.Subscript a (.Slice none none (some (.UnaryOp .USub (.Constant (.int 1) k p1) p2)) p3) pos) ρ μ Q := fun ad Hb H σ W N Q' g => by
  refine pe_go (pe_revL pe_self) (ha (fun y μ1 => y = .pt j ∧ μ1 = μ) ⟨rfl, rfl⟩ ad Hb H σ W N _ ?_)
  rintro v x μ1 ad1 Hb1 H1 ⟨rfl, rfl⟩ s1 W1 ⟨d, hd, rfl⟩
  obtain ⟨_, vs, hv, r⟩ := W1.off j d _ hd hj
  refine ⟨d, vs, rfl, .inl (.inl hv), fun p hp => ?_⟩
  obtain ⟨W4, s4⟩ := W1.cell (o := .lst vs.reverse) (c := .lst zs.reverse) hp ⟨_, upd_same, pd_imp (fun v x r => repE_mono (Ex.refl _) ⟨[p], rfl⟩ r) (pd_rev r)⟩
  exact g _ (.pt μ1.length) _ _ _ _ q (s1.trans s4) W4 ⟨p, by rw [← W1.len]; simp, rfl⟩
/-- names = a tuple, some of the names cells -/
theorem tgp_namesC {es : List Expr} {k : Nat} {js : List Nat} (ns : List Str) (is : List Nat) {x : P} {xs : List P} {R : Rho → Mu → Prop} (nd : X.N.Nodup) (hx : Sq x xs) (hl : xs.length = ns.length) (q : R (setsR ρ is (xs.map .sh)) μ) (hc : X.calm = true := by rfl) (he : es.map nmOf = ns.map some := by rfl) (hj : ∀ i ∈ is, i ∈ js := by decide)
    (hi : is.map (fun i => X.N[i]?) = ns.map some := by rfl) (hf : ns.all (fun n => decide (X.env.scope.names.lookup n = some .local) || decide (X.env.scope.names.lookup n = some .cell)) = true := by rfl) (hfn : ∀ n, X.fn n = true := by exact fun _ => rfl) : TGP X (.Tuple es k pos) js (.sh x) ρ μ R := by
  have h := tgs_names (js := js) (R := R) nd ns es is (xs.map .sh) ρ he (by rw [List.length_map]; exact hl) hj hi (fun n hn => by
    have := List.all_eq_true.mp hf n hn
    simp only [Bool.or_eq_true, decide_eq_true_eq] at this
    exact ⟨this, .inl (hfn n)⟩) q
  obtain ⟨h1, h2⟩ := names_len (env := X.env) he
  rcases hx with rfl | rfl
  · exact tgp_unl hc h hl h1 h2
  · exact tgp_tup hc h hl h1 h2
theorem tsp_asgA (js : List Nat) {tg e : Expr} {x : E} (h : EV X e ρ μ x) (t : TGP X tg js x ρ μ D.nx) (hs : swapsWithSole [tg] e pos.line X.env = pure false := by rfl) (hw : swappedStores [tg] e X.env = pure none := by rfl) (h1 : (assignEach [tg] X.env).map (·.2) = [assign tg X.env] := by rfl) : TSP X (.Assign [tg] e pos) ρ μ D := tsp_asg js (h _ t) hs hw h1
end
section
variable {κ κ' α β : Type} [DecidableEq κ] [DecidableEq κ']
theorem dget_mapk {f : κ → κ'} (inj : ∀ a b, f a = f b → a = b) (g : α → β) (d : List (κ × α)) (k : κ) : dget (d.map fun q => (f q.1, g q.2)) (f k) = (dget d k).map g := by
  unfold dget
  induction d with
  | nil => rfl
  | cons q d ih =>
    rw [List.map_cons, List.find?_cons, List.find?_cons]
    by_cases c : q.1 = k
    · simp [c]
    · have c2 : ¬ f q.1 = f k := fun z => c (inj _ _ z)
      simp only [c, c2, decide_false]
      exact ih
theorem dput_mapk {f : κ → κ'} (inj : ∀ a b, f a = f b → a = b) (g : α → β) (d : List (κ × α)) (k : κ) (v : α) : dput (d.map fun q => (f q.1, g q.2)) (f k) (g v) = (dput d k v).map fun q => (f q.1, g q.2) := by
  unfold dput
  have e : ((d.map fun q => (f q.1, g q.2)).any fun kv => decide (kv.1 = f k)) = (d.any fun kv => decide (kv.1 = k)) := by
    rw [List.any_map]
    refine congrArg (List.any d) (funext fun q => ?_)
    exact decide_eq_decide.mpr ⟨fun z => inj _ _ z, fun z => congrArg f z⟩
  rw [e]
  split
  · rw [List.map_map, List.map_map]
    refine List.map_congr_left fun q _ => ?_
    by_cases c : q.1 = k
    · simp [c]
    · have c2 : ¬ f q.1 = f k := fun z => c (inj _ _ z)
      simp [c, c2]
  · rw [List.map_append]
    rfl
theorem dget_mem {d : List (κ × α)} {k : κ} {v : α} (h : dget d k = some v) : (k, v) ∈ d := by
  unfold dget at h
  cases e : d.find? (fun kv => decide (kv.1 = k)) with
  | none => rw [e] at h; cases h
  | some q =>
    rw [e] at h
    have h1 : q.1 = k := of_decide_eq_true (List.find?_some (p := fun kv : κ × α => decide (kv.1 = k)) e)
    have h2 : q.2 = v := Option.some.inj h
    have := List.mem_of_find?_eq_some e
    rw [← h1, ← h2]
    exact this
/-- keys once -/
def dnd (d : List (κ × α)) : Prop := (d.map (·.1)).Nodup
theorem dput_keys (d : List (κ × α)) (k : κ) (v : α) : (dput d k v).map (·.1) = if (d.any fun kv => decide (kv.1 = k)) = true then d.map (·.1) else d.map (·.1) ++ [k] := by
  unfold dput
  split
  · rw [List.map_map]
    refine List.map_congr_left fun q _ => ?_
    by_cases c : q.1 = k <;> simp [c]
  · rw [List.map_append]
    rfl
theorem dput_nd {d : List (κ × α)} (h : dnd d) (k : κ) (v : α) : dnd (dput d k v) := by
  unfold dnd
  rw [dput_keys]
  split
  · exact h
  · rename_i c
    refine List.nodup_append.mpr ⟨h, (List.pairwise_singleton _ _ : [k].Nodup), fun x hx y hy => ?_⟩
    have := List.mem_singleton.mp hy
    subst this
    rintro rfl
    obtain ⟨q, hq, rfl⟩ := List.mem_map.mp hx
    exact c (List.any_eq_true.mpr ⟨q, hq, by simp⟩)
theorem dget_of_mem {d : List (κ × α)} (h : dnd d) {k : κ} {v : α} (hm : (k, v) ∈ d) : dget d k = some v := by
  unfold dget
  induction d with
  | nil => cases hm
  | cons q d ih =>
    rw [List.find?_cons]
    have h' := List.nodup_cons.mp h
    rcases List.mem_cons.mp hm with e | e
    · subst e
      simp
    · have c : ¬ q.1 = k := fun z => h'.1 (by show q.1 ∈ _; rw [z]; exact List.mem_map.mpr ⟨_, e, rfl⟩)
      simp only [c, decide_false]
      exact ih h'.2 e
theorem dget_key {d : List (κ × α)} {k : κ} : (dget d k).isSome = true ↔ k ∈ d.map (·.1) := by
  unfold dget
  rw [Option.isSome_map, List.find?_isSome]
  simp only [decide_eq_true_eq]
  constructor
  · rintro ⟨q, hq, rfl⟩
    exact List.mem_map.mpr ⟨q, hq, rfl⟩
  · intro h
    obtain ⟨q, hq, e⟩ := List.mem_map.mp h
    exact ⟨q, hq, e⟩
end
/-- pairs of numbers to numbers -/
abbrev DD := List (PR × Int)
theorem prK_inj : ∀ a b : PR, prK a = prK b → a = b := fun a b h => by
  unfold prK at h
  have h1 := (List.cons.inj h).1
  have h2 := (List.cons.inj (List.cons.inj h).2).1
  exact Prod.ext (by have := Sum.inl.inj h1; omega) (by have := Sum.inl.inj h2; omega)
def ddP (d : DD) : List (List Key × P) := d.map fun q => (prK q.1, .int q.2)
def ddE (d : DD) : List (List Key × E) := d.map fun q => (prK q.1, .sh (.int q.2))
theorem ddE_get (d : DD) (p : PR) : dget (ddE d) (prK p) = (dget d p).map fun v => .sh (.int v) := dget_mapk prK_inj (fun v => E.sh (.int v)) d p
theorem ddP_get (d : DD) (p : PR) : dget (ddP d) (prK p) = (dget d p).map fun v => .int v := dget_mapk prK_inj (fun v => P.int v) d p
theorem ddE_put (d : DD) (p : PR) (v : Int) : dput (ddE d) (prK p) (.sh (.int v)) = ddE (dput d p v) := dput_mapk prK_inj (fun v => E.sh (.int v)) d p v
theorem ddP_put (d : DD) (p : PR) (v : Int) : dput (ddP d) (prK p) (.int v) = ddP (dput d p v) := dput_mapk prK_inj (fun v => P.int v) d p v
theorem ddE_P (d : DD) : ddE d = (ddP d).map fun q => (q.1, .sh q.2) := by
  unfold ddE ddP
  rw [List.map_map]
  rfl
theorem ddP_keys (d : DD) : (ddP d).map (·.1) = (d.map (·.1)).map prK := by
  unfold ddP
  rw [List.map_map, List.map_map]
  rfl
theorem ddE_keys (d : DD) : (ddE d).map (·.1) = (d.map (·.1)).map prK := by
  unfold ddE
  rw [List.map_map, List.map_map]
  rfl
theorem ddE_len (d : DD) : (ddE d).length = d.length := by unfold ddE; rw [List.length_map]
end PV

/-! == and != of nested lists and tuples. -/
namespace PV
open PySem PySem.Spec PyProof.Rows L2
/-- x read as the kit's data, nested n deep at most -/
inductive PD : Nat → P → PyData → Prop
  | non (n : Nat) : PD n .non .none
  | bl (n : Nat) (b : Bool) : PD n (.bl b) (.bool b)
  | int (n : Nat) (i : Int) : PD n (.int i) (.int i)
  | lst {n : Nat} {xs : List P} {ds : List PyData} (l : xs.length = ds.length) (e : ∀ (i : Nat) x d, xs[i]? = some x → ds[i]? = some d → PD n x d) : PD (n + 1) (.lst xs) (.list ds)
  | tup {n : Nat} {xs : List P} {ds : List PyData} (l : xs.length = ds.length) (e : ∀ (i : Nat) x d, xs[i]? = some x → ds[i]? = some d → PD n x d) : PD (n + 1) (.tup xs) (.tuple ds)
theorem dpAll_of {K : PySem.W.Frag} {H : Hp} : ∀ {vs : List V} {ds : List PyData}, vs.length = ds.length → (∀ (i : Nat) v d, vs[i]? = some v → ds[i]? = some d → Dp K H v d) → DpAll K H vs ds
  | [], [], _, _ => .nil
  | [], _ :: _, h, _ => by simp at h
  | _ :: _, [], h, _ => by simp at h
  | v :: vs, d :: ds, h, e => .cons (e 0 v d rfl rfl) (dpAll_of (by simpa using h) fun i v d h1 h2 => e (i + 1) v d (by simpa using h1) (by simpa using h2))
theorem PD.dp {K : PySem.W.Frag} {ad : List Addr} {Hb H : Hp} {μ : Mu} (W : Wd K ad Hb H μ) {n : Nat} {x : P} {d : PyData} (h : PD n x d) : ∀ {v : V}, Rep K Hb v x → Dp K H v d := by
  induction h with
  | non n => intro v r; obtain rfl := Rep.non_inv r; exact .non
  | bl n b => intro v r; obtain rfl := Rep.bl_inv r; exact .bl b
  | int n i => intro v r; obtain rfl := Rep.int_inv r; exact .int i
  | lst l e ih =>
    intro v r
    obtain ⟨a, vs, rfl, hq, r⟩ := Rep.lst_inv r
    refine .lst (W.sqL hq) (dpAll_of (r.length.trans l) fun i v d h1 h2 => ?_)
    obtain ⟨x, h3, h4⟩ := pd_right r i v h1
    exact ih i x d h3 h2 h4
  | tup l e ih =>
    intro v r
    obtain ⟨a, vs, rfl, hq, r⟩ := Rep.tup_inv r
    refine .tup (.inl (.inl (W.tup hq))) (dpAll_of (r.length.trans l) fun i v d h1 h2 => ?_)
    obtain ⟨x, h3, h4⟩ := pd_right r i v h1
    exact ih i x d h3 h2 h4
theorem lay_all : ∀ {ds : List PyData} {n : Nat}, (∀ d ∈ ds, d.canLay0 = true ∧ d.depth ≤ n) → PyData.canLayAll0 ds = true ∧ PyData.depthAll ds ≤ n
  | [], n, _ => ⟨rfl, Nat.zero_le _⟩
  | d :: ds, n, h => by
    have h1 := h d (List.mem_cons_self ..)
    have h2 := lay_all fun e he => h e (List.mem_cons_of_mem _ he)
    unfold PyData.canLayAll0 PyData.depthAll
    exact ⟨by rw [h1.1, h2.1]; rfl, Nat.max_le.mpr ⟨h1.2, h2.2⟩⟩
theorem PD.lay {n : Nat} {x : P} {d : PyData} (h : PD n x d) : d.canLay0 = true ∧ d.depth ≤ n := by
  induction h with
  | non n => exact ⟨by simp [PyData.canLay0], by simp [PyData.depth]⟩
  | bl n b => exact ⟨by simp [PyData.canLay0], by simp [PyData.depth]⟩
  | int n i => exact ⟨by simp [PyData.canLay0], by simp [PyData.depth]⟩
  | @lst n xs ds l e ih =>
    have h2 := lay_all (ds := ds) (n := n) fun d hd => by
      obtain ⟨i, hi⟩ := List.mem_iff_getElem?.mp hd
      have hl : i < xs.length := by rw [l]; exact (List.getElem?_eq_some_iff.mp hi).1
      exact ih i _ d (List.getElem?_eq_getElem hl) hi
    refine ⟨by simp only [PyData.canLay0]; exact h2.1, by simp only [PyData.depth]; omega⟩
  | @tup n xs ds l e ih =>
    have h2 := lay_all (ds := ds) (n := n) fun d hd => by
      obtain ⟨i, hi⟩ := List.mem_iff_getElem?.mp hd
      have hl : i < xs.length := by rw [l]; exact (List.getElem?_eq_some_iff.mp hi).1
      exact ih i _ d (List.getElem?_eq_getElem hl) hi
    refine ⟨by simp only [PyData.canLay0]; exact h2.1, by simp only [PyData.depth]; omega⟩
theorem PD.shaped {n : Nat} {x : P} {d : PyData} (h : PD n x d) (hn : n ≤ 64) : SeqAt.shaped d = true := by
  unfold SeqAt.shaped
  rw [h.lay.1, decide_eq_true (Nat.le_trans h.lay.2 hn)]
  rfl
/-- a value, or a list of values in a cell, as data -/
inductive DE (μ : Mu) : E → PyData → Prop
  | sh {n : Nat} {x : P} {d : PyData} (h : PD n x d) (hn : n ≤ 64) : DE μ (.sh x) d
  | pt {n j : Nat} {xs : List P} {d : PyData} (hj : μ[j]? = some (some (.lst (xs.map .sh)))) (h : PD n (.lst xs) d) (hn : n ≤ 64) : DE μ (.pt j) d
theorem DE.dp {K : PySem.W.Frag} {ad : List Addr} {Hb H : Hp} {μ : Mu} (W : Wd K ad Hb H μ) {x : E} {d : PyData} (h : DE μ x d) {v : V} (r : RepE K ad Hb v x) : Dp K H v d ∧ SeqAt.shaped d = true := by
  cases h with
  | sh h hn => exact ⟨h.dp W r, h.shaped hn⟩
  | pt hj h hn =>
    obtain ⟨a, ha, rfl⟩ := r
    obtain ⟨_, vs, hv, r⟩ := W.off _ a _ ha hj
    refine ⟨?_, h.shaped hn⟩
    have r2 := repEs_sh r
    cases h with
    | lst l e =>
      refine .lst (.inl (.inl hv)) (dpAll_of (r2.length.trans l) fun i v d h1 h2 => ?_)
      obtain ⟨x, h3, h4⟩ := pd_right r2 i v h1
      exact (e i x d h3 h2).dp W h4
section
variable {X : Cx} {a b : Expr} {ρ : Rho} {μ : Mu} {pos : Pos} {x y : E} {d e : PyData}
theorem v2_eqD {Q : E → Mu → Prop} (h1 : DE μ x d) (h2 : DE μ y e) (q : Q (.sh (.bl (PyData.eqv d e))) μ) : V2 X.K (rEqD X.K) x y μ Q := fun ad Hb H v w W r1 r2 Q' g =>
  ⟨d, e, (h1.dp W r1).1, (h2.dp W r2).1, (h1.dp W r1).2, (h2.dp W r2).2, g.now W (x := .sh (.bl _)) (.bl _) q⟩
theorem v2_neD {Q : E → Mu → Prop} (h1 : DE μ x d) (h2 : DE μ y e) (q : Q (.sh (.bl (!PyData.eqv d e))) μ) : V2 X.K (rNeD X.K) x y μ Q := fun ad Hb H v w W r1 r2 Q' g =>
  ⟨d, e, (h1.dp W r1).1, (h2.dp W r2).1, (h1.dp W r1).2, (h2.dp W r2).2, g.now W (x := .sh (.bl _)) (.bl _) q⟩
theorem ev_eqD (hu : X.A.units + 64 < cLine) (ha : EV X a ρ μ x) (hb : EV X b ρ μ y) (h1 : DE μ x d) (h2 : DE μ y e) : EV X (.Compare a [.Eq] [b] pos) ρ μ (.sh (.bl (PyData.eqv d e))) := ev_cmp (op_eqD hu) (nomark _) ha hb fun Q q => v2_eqD h1 h2 q
theorem ev_neD (hu : X.A.units + 64 < cLine) (ha : EV X a ρ μ x) (hb : EV X b ρ μ y) (h1 : DE μ x d) (h2 : DE μ y e) : EV X (.Compare a [.NotEq] [b] pos) ρ μ (.sh (.bl (!PyData.eqv d e))) := ev_cmp (op_neD hu) (nomark _) ha hb fun Q q => v2_neD h1 h2 q
theorem et_eqD (hu : X.A.units + 64 < cLine) (ha : EV X a ρ μ x) (hb : EV X b ρ μ y) (h1 : DE μ x d) (h2 : DE μ y e) : ET X (.Compare a [.Eq] [b] pos) ρ μ (PyData.eqv d e) := et_cmp (op_eqD hu) (nomark _) ha hb fun Q q => v2_eqD h1 h2 q
theorem et_neD (hu : X.A.units + 64 < cLine) (ha : EV X a ρ μ x) (hb : EV X b ρ μ y) (h1 : DE μ x d) (h2 : DE μ y e) : ET X (.Compare a [.NotEq] [b] pos) ρ μ (!PyData.eqv d e) := et_cmp (op_neD hu) (nomark _) ha hb fun Q q => v2_neD h1 h2 q
end
theorem pd_ints {n : Nat} (ns : List Int) : PD (n + 1) (.lst (ns.map .int)) (.list (ns.map .int)) := .lst (by simp) fun i x d h1 h2 => by
  rw [List.getElem?_map] at h1 h2
  cases e : ns[i]? with
  | none => rw [e] at h1; cases h1
  | some z => rw [e] at h1 h2; cases h1; cases h2; exact .int _ _
theorem pd_nil {n : Nat} : PD (n + 1) (.lst []) (.list []) := .lst rfl fun i x d h1 h2 => by simp at h1
theorem eqv_nil (ds : List PyData) : PyData.eqv (.list ds) (.list []) = ds.isEmpty := by
  cases ds <;> simp [PyData.eqv, PyData.eqvAll]
theorem RoomG.u64 {g : Bool} {k : Nat} {A : Around} (r : RoomG g k A) : A.units + 64 < cLine := r.room.units
/-- what holds between two statements -/
theorem tsp_mid {X : Cx} {st : Stmt} {ρ : Rho} {μ : Mu} {D : Out} (M : Rho → Mu → Prop) (h : TSP X st ρ μ { D with nx := M }) (k : ∀ ρ1 μ1, M ρ1 μ1 → D.nx ρ1 μ1) : TSP X st ρ μ D := fun ad Hb H σ W N D' g => h ad Hb H σ W N D' ⟨fun σ' ρ' μ' ad' Hb' H' q s W' N' => g.nx σ' ρ' μ' ad' Hb' H' (k ρ' μ' q) s W' N', g.rt, g.bk, g.ct⟩
end PV

/-! index, range of what is not known beforehand. -/
namespace PV
open PySem PySem.Spec PyProof.Rows L2
theorem idx_min : ∀ (l : List Nat) (x m : Nat) (h : m < l.length), l[m] = x → l.idxOf x ≤ m
  | [], _, _, h, _ => absurd h (by simp)
  | a :: l, x, 0, _, e => by
    have e : a = x := e
    subst e
    simp
  | a :: l, x, m + 1, h, e => by
    have := idx_min l x m (by simpa using h) (by simpa using e)
    rw [List.idxOf_cons]
    by_cases c : a == x
    · simp [c]
    · simp [c]; omega
section
variable {X : Cx} {tg o e : Expr} {ρ : Rho} {μ : Mu} {apos cpos pos p2 : Pos} {l : List Nat} {x : Nat}
theorem rep_nats {K : PySem.W.Frag} {H : Hp} : ∀ {vs : List V} {l : List Nat}, RepL K H vs (natsP l) → vs = l.map fun e => V.int (e : Nat)
  | _, [], .nil => rfl
  | _, a :: l, .cons r t => by
    rw [Rep.int_inv r, rep_nats t]
    rfl
/-- order.index(x), x in it -/
theorem ev_indexN (ho : EV X o ρ μ (.sh (.lst (natsP l)))) (h : EV X e ρ μ (.sh (.int (x : Nat)))) (hx : x ∈ l)
    (hbase : attributeBase o "index" X.env (eval o X.env) = eval o X.env := by rfl)
    (hfew : ((backTo cpos (starEach [e] X.env)).all (fun x => !x.1) && (backToKw cpos (keywordEach [] X.env)).all (fun x => x.1.isSome) && decide ([e].length + ([] : List Keyword).length + (if ([] : List Keyword).isEmpty then 0 else 1) < 30)) = true := by rfl)
    (hline : (apos.endLine == cpos.line) = true := by rfl) (hs : starEach [e] X.env = (false, eval e X.env) :: starEach [] X.env := by rfl) : EV X (.Call (.Attribute o "index" apos) [e] [] cpos) ρ μ (.sh (.int (l.idxOf x : Nat))) := fun Q q =>
  tep_bm PySem.F.plainAttrs_list PySem.F.slot_list_index PySem.F.type_list_index mt_index (ho _ ⟨rfl, tap_cons (h _ (tap_nil fun ad Hb H v vs W r0 rs Q' g => by
    obtain ⟨w, rfl, rw_⟩ := vals1 rs
    obtain rfl := Rep.int_inv rw_
    obtain ⟨a, us, rfl, hq, r⟩ := Rep.lst_inv r0
    obtain rfl := rep_nats r
    have hl := List.idxOf_lt_length_iff.mpr hx
    refine ⟨a, _, _, l.idxOf x, .int (x : Nat), rfl, rfl, W.sqL hq, rfl, ?_, ?_, ?_, fun m z hm hz => ?_, g.now W (x := .sh (.int (l.idxOf x : Nat))) (.int _) q⟩
    · rw [List.all_map, List.all_eq_true]
      intro _ _
      rfl
    · rw [List.getElem?_map, List.getElem?_eq_getElem hl, List.getElem_idxOf hl]
      rfl
    · simp [eqV]
    · rw [List.getElem?_map, List.getElem?_eq_getElem (by omega)] at hz
      cases hz
      have : l[m] ≠ x := fun z => by have := idx_min l x m (by omega) z; omega
      have h2 : ¬ ((l[m] : Int) = (x : Int)) := fun z => this (by omega)
      simp [eqV, h2])) hs⟩) hbase hfew hline hs rfl
/-- for .. in range(e) -/
theorem tip_range1 {R : List E → (Mu → Prop) → Mu → Prop} (hm : X.mg "range" = none) (h : TEP X e ρ μ fun x μ1 => ∃ n : Nat, x = .sh (.int (n : Nat)) ∧ n < 100000 ∧ R ((List.range n).map fun i => .sh (.int (i : Nat))) (fun _ => True) μ1) (hg : Gl X "range" := by rfl) (hs : starEach [e] X.env = [(false, eval e X.env)] := by rfl) (hs2 : starEach [e] X.env = (false, eval e X.env) :: starEach [] X.env := by rfl) : TIP X tg (.Call (.Name "range" p2) [e] [] pos) ρ μ R := fun ad Hb H σ W N R' g => by
  refine pi_go (pi_range1 hg hm pa_self hs) ((tap_cons (Q := fun ys μ1 => ∃ n : Nat, ys = [.sh (.int (n : Nat))] ∧ n < 100000 ∧ R ((List.range n).map fun i => .sh (.int (i : Nat))) (fun _ => True) μ1) (fun ad Hb H σ W N Q' g => h ad Hb H σ W N Q' fun v x μ1 ad1 Hb1 H1 ⟨n, hx, hn, q⟩ s1 W1 r1 => g v x μ1 ad1 Hb1 H1 (tap_nil ⟨n, by rw [hx], hn, q⟩) s1 W1 r1) hs2) ad Hb H σ W N _ ?_)
  rintro vs ys μ1 ad1 Hb1 H1 ⟨n, rfl, hn, q⟩ s1 W1 r1
  obtain ⟨v, rfl, r⟩ := vals1 r1
  obtain rfl := Rep.int_inv r
  refine ⟨(n : Int), rfl, by omega, by omega, g _ _ _ _ _ _ _ q s1 W1 ?_⟩
  have w := pwalk_fn (K := X.K) (ad := ad1) (Hb := Hb1) (H := H1) (f' := fun i => .int (i : Nat)) (walk_range (lo := 0) (n := (n : Int).toNat)) fun i H => by
    rw [Int.zero_add]
    exact .int _
  exact w
end
end PV

/-! A cell lent to a pure def whose result is flat. -/
namespace PV
open PySem PySem.Spec PyProof.Rows L2
def flatP : P → Bool
  | .non => true
  | .bl _ => true
  | .int _ => true
  | .str _ => true
  | _ => false
theorem flat_rep {K : PySem.W.Frag} {H H2 : Hp} {v : V} {y : P} (h : flatP y = true) (r : Rep K H v y) : Rep K H2 v y := by
  cases r with
  | non => exact .non
  | bl b => exact .bl b
  | int i => exact .int i
  | str x => exact .str x
  | _ => cases h
abbrev Lent (μ : Mu) : List E → List P → Prop := Paired fun z p => z = .sh p ∨ ∃ j xs, z = .pt j ∧ p = .lst xs ∧ μ[j]? = some (some (.lst (xs.map .sh)))
theorem ev_lend {g : Bool} {X : Cx} {e : Expr} {es : List Expr} {ρ : Rho} {μ : Mu} {pos p2 : Pos} {k : Nat} {x : Str} {Fr : List P → P → Prop} (c : Ct g X.prog X.w X.K X.mg X.base k x (SF Fr)) (hr : RoomG g k X.A) {zs : List E} {ps : List P} {y : P} (h : EA X (e :: es) ρ μ zs) (hl : Lent μ zs ps) (hF : Fr ps y) (hy : flatP y = true) (hg : Gl X x := by rfl) (hdb : (x == ("__debug__" : Str)) = false := by decide)
    (he : starEach (e :: es) X.env = (false, eval e X.env) :: starEach es X.env := by rfl) (hpl : (backTo pos (starEach es X.env)).any (·.1) = false := by rfl) : EV X (.Call (.Name x p2) (e :: es) [] pos) ρ μ (.sh y) := fun Q q ad Hb H σ W N Q' g0 => by
  classical
  obtain ⟨f, fd, pn, h1, h2, h3, h4⟩ := c.ok
  refine pe_go (pe_callG (E := E0) h4 hr hg h1 h2 h3 pa_self hdb he hpl) (h (fun ys μ1 => ys = zs ∧ μ1 = μ) ⟨rfl, rfl⟩ ad Hb H σ W N _ ?_)
  rintro vs ys μ1 ad Hb1 H1 ⟨rfl, rfl⟩ s1 W r
  rw [List.append_nil]
  let live : Addr → Prop := fun a => ∃ (j : Nat) (xs : List P), ad[j]? = some a ∧ μ1[j]? = some (some (.lst (xs.map .sh)))
  let Hp2 : Hp := fun a => if live a then H1 a else Hb1 a
  have lv : ∀ {a}, live a → Hp2 a = H1 a ∧ Hb1 a = none ∧ ∃ us, H1 a = some (.lst us) := fun {a} l => by
    obtain ⟨j, xs, ha, hj⟩ := id l
    obtain ⟨b, us, hu, _⟩ := W.off j a _ ha hj
    exact ⟨if_pos l, b, us, hu⟩
  have dd : ∀ {a}, ¬ live a → Hp2 a = Hb1 a := fun l => if_neg l
  have ex : Ex Hb1 Hp2 := fun a o e => by
    by_cases l : live a
    · rw [(lv l).2.1] at e; cases e
    · rw [dd l]; exact e
  have W0 : Wd X.K [] Hp2 H1 [] := ⟨rfl, fun a u e => by
    by_cases l : live a
    · rw [(lv l).1] at e
      exact Std.of e
    · rw [dd l] at e
      exact W.inc a u e, fun j a c h => by simp at h, fun i j a c d h => by simp at h, fun a h => by simp at h⟩
  have rp : RepL X.K Hp2 vs ps := by
    clear h hF g0
    induction hl generalizing vs with
    | nil => cases r; exact .nil
    | cons hz _ ih =>
      cases r with
      | cons r t =>
        refine .cons ?_ (ih _ t)
        rcases hz with rfl | ⟨j, xs, rfl, rfl, hj⟩
        · exact Rep.mono ex r
        · obtain ⟨a, ha, rfl⟩ := r
          have l : live a := ⟨j, xs, ha, hj⟩
          obtain ⟨b, us, hu, ru⟩ := W.off j a _ ha hj
          exact Rep.lstL ((lv l).1.trans hu) (RepL.mono ex (repEs_sh ru))
  refine ⟨[], Hp2, [], ps.map .sh, fun z _ => z = .sh y, W0, repEs_of rp, ⟨ps, y, rfl, hF, rfl⟩, fun v z μ' ad' Hb' H' hz s' W' r' => ?_⟩
  subst hz
  -- what stood stands, or is locked
  have keep : ∀ {a o}, H1 a = some o → Hb1 a = none → H' a = some o := fun {a o} e n => by
    rcases s'.fr a o (by simp) e with z | ⟨_, d, z, _⟩
    · exact z
    · by_cases l : live a
      · obtain ⟨_, _, us, hu⟩ := lv l
        rw [hu] at e
        cases e
        cases d
      · rw [dd l, n] at z
        cases z
  refine g0 v (.sh y) μ1 ad Hb1 H' q (s1.trans ⟨Ex.refl _, ⟨[], by simp⟩, fun _ z => .inl z, fun a o _ e => ?_, fun _ _ _ _ _ n => n, fun a u q hb e => s'.bs a u q (ex a u hb) e⟩) ⟨W.len, fun a u hb => ?_, fun j a c ha hc => ?_, W.nd, fun a ha => ?_⟩ (flat_rep hy r')
  · rcases s'.fr a o (by simp) e with z | ⟨q, d, z, z2⟩
    · exact .inl z
    · refine .inr ⟨q, d, ?_, z2⟩
      by_cases l : live a
      · obtain ⟨_, _, us, hu⟩ := lv l
        rw [hu] at e
        cases e
        cases d
      · rw [← dd l]; exact z
  · have st := W.inc a u hb
    have gen : ∀ o, H1 a = some o → H' a = some o ∨ ∃ q, isD o = true ∧ H' a = some (.frz q o) := fun o e => by
      rcases s'.fr a o (by simp) e with z | ⟨q, d, _, z⟩
      · exact .inl z
      · exact .inr ⟨q, d, z⟩
    cases u with
    | dT kvs =>
      rcases st with z | ⟨o, z⟩
      · rcases gen _ z with z | ⟨q, _, z⟩
        · exact .inl z
        · exact .inr ⟨q, z⟩
      · exact .inr ⟨o, s'.bs a _ o (ex a _ hb) z⟩
    | dK kvs =>
      rcases st with z | ⟨o, z⟩
      · rcases gen _ z with z | ⟨q, _, z⟩
        · exact .inl z
        · exact .inr ⟨q, z⟩
      · exact .inr ⟨o, s'.bs a _ o (ex a _ hb) z⟩
    | _ =>
      rcases gen _ st with z | ⟨q, d, z⟩
      · exact z
      · cases d
  · obtain ⟨n, ok⟩ := W.off j a c ha hc
    obtain ⟨o, e, _⟩ := ok.some
    exact ⟨n, ok.keep ((keep e n).trans e.symm) fun _ _ r => r⟩
  · cases e : H1 a with
    | none => exact absurd e (W.trk a ha)
    | some o => exact s'.fr1 (by simp) e
end PV

/-! a <= b < c. -/
namespace PV
open PySem PySem.Spec PyProof.Rows L2
section
variable {X : Cx} {a b c : Expr} {ρ : Rho} {μ : Mu} {pos : Pos} {i j k : Int}
/-- i <= j < k -/
theorem ev_leLt (ha : EV X a ρ μ (.sh (.int i))) (hb : EV X b ρ μ (.sh (.int j))) (hc : EV X c ρ μ (.sh (.int k))) (hm : lastMarks [.LtE, .Lt] [b, c] = false := by with_unfolding_all rfl) : EV X (.Compare a [.LtE, .Lt] [b, c] pos) ρ μ (.sh (.bl (decide (i ≤ j) && decide (j < k)))) := fun Q q ad Hb H σ W N Q' g => by
  refine pe_go (pe_chain op_le op_lt pe_self pe_self pe_self hm) (ha (fun y μ1 => y = .sh (.int i) ∧ μ1 = μ) ⟨rfl, rfl⟩ ad Hb H σ W N _ ?_)
  rintro v y μ1 ad1 Hb1 H1 ⟨rfl, rfl⟩ s1 W1 r1
  refine hb (fun y μ2 => y = .sh (.int j) ∧ μ2 = μ1) ⟨rfl, rfl⟩ ad1 Hb1 H1 σ W1 (N.step s1) _ ?_
  rintro w y μ2 ad2 Hb2 H2 ⟨rfl, rfl⟩ s2 W2 r2
  obtain rfl := Rep.int_inv r1
  obtain rfl := Rep.int_inv r2
  refine ⟨i, j, rfl, rfl, decide (i ≤ j), rfl, ?_⟩
  by_cases h : i ≤ j
  · rw [if_pos (decide_eq_true h)]
    refine hc (fun y μ3 => y = .sh (.int k) ∧ μ3 = μ2) ⟨rfl, rfl⟩ ad2 Hb2 H2 σ W2 ((N.step s1).step s2) _ ?_
    rintro u y μ3 ad3 Hb3 H3 ⟨rfl, rfl⟩ s3 W3 r3
    obtain rfl := Rep.int_inv r3
    rw [decide_eq_true h, Bool.true_and] at q
    exact ⟨j, k, rfl, rfl, g _ (.sh (.bl _)) _ _ _ _ q ((s1.trans s2).trans s3) W3 (.bl _)⟩
  · rw [if_neg (by simpa using h)]
    rw [decide_eq_false h, Bool.false_and] at q
    exact g _ (.sh (.bl _)) _ _ _ _ q (s1.trans s2) W2 (.bl _)
end
end PV

/-! xs[:e], xs + e, where e draws. -/
namespace PV
open PySem PySem.Spec PyProof.Rows L2
section
variable {X : Cx} {a b e : Expr} {ρ : Rho} {μ : Mu} {Q : E → Mu → Prop} {pos p2 : Pos} {xs ys : List P}
theorem tep_sliceHi (ha : EV X a ρ μ (.sh (.lst xs))) (h : TEP X e ρ μ fun y μ1 => ∃ j : Int, y = .sh (.int j) ∧ Q (.sh (.lst (cutP xs none (some j)))) μ1) : TEP X (.Subscript a (.Slice none (some e) none p2) pos) ρ μ Q := fun ad Hb H σ W N Q' g => by
  refine pe_go (pe_slice sl_list pe_self po_none (po_some pe_self)) (ha (fun y μ1 => y = .sh (.lst xs) ∧ μ1 = μ) ⟨rfl, rfl⟩ ad Hb H σ W N _ ?_)
  rintro v x μ1 ad1 Hb1 H1 ⟨rfl, rfl⟩ s1 W1 r1
  refine h ad1 Hb1 H1 σ W1 (N.step s1) _ ?_
  rintro w y μ2 ad2 Hb2 H2 ⟨j, rfl, q⟩ s2 W2 r2
  obtain rfl := Rep.int_inv r2
  refine ⟨j, rfl, ?_⟩
  obtain ⟨a, vs, rfl, hq, r⟩ := Rep.lst_inv (Rep.mono s2.ex r1)
  refine ⟨a, vs, rfl, W2.sqL hq, fun p hp => ?_⟩
  obtain ⟨W4, s4⟩ := W2.alloc (o := .lst (cutV vs none (some j))) hp
  exact g _ (.sh (.lst (cutP xs none (some j)))) _ _ _ _ q ((s1.trans s2).trans s4) W4 (Rep.lstL upd_same (RepL.mono s4.ex (pd_cut r none (some j))))
theorem v2_cat (hl : xs.length + ys.length ≤ 100000) (q : Q (.sh (.lst (xs ++ ys))) μ) : V2 X.K rCat (.sh (.lst xs)) (.sh (.lst ys)) μ Q := fun ad Hb H v w W r1 r2 Q' g => by
  obtain ⟨a, vs, rfl, h1, r1⟩ := Rep.lst_at r1
  obtain ⟨b, ws, rfl, h2, r2⟩ := Rep.lst_at r2
  refine ⟨a, b, vs, ws, rfl, rfl, W.inc _ _ h1, W.inc _ _ h2, Nat.le_trans (by rw [r1.length, r2.length]; exact hl) (by decide), fun p hp => ?_⟩
  obtain ⟨W2, s2⟩ := W.alloc (o := .lst (vs ++ ws)) hp
  exact g _ (.sh (.lst (xs ++ ys))) _ _ _ _ q s2 W2 (Rep.lstL upd_same (RepL.mono s2.ex (pd_app r1 r2)))
theorem tep_cat (h : TEP X a ρ μ fun x μ1 => TEP X b ρ μ1 fun y μ2 => ∃ xs ys : List P, x = .sh (.lst xs) ∧ y = .sh (.lst ys) ∧ xs.length + ys.length ≤ 100000 ∧ Q (.sh (.lst (xs ++ ys))) μ2) : TEP X (.BinOp a .Add b pos) ρ μ Q :=
  tep_op op_cat (fun ad Hb H σ W N Q' g => h ad Hb H σ W N Q' fun v x μ1 ad1 Hb1 H1 hx s W1 r => g v x μ1 ad1 Hb1 H1 (fun ad Hb H σ W N Q' g => hx ad Hb H σ W N Q' fun v y μ2 ad1 Hb1 H1 hy s W1 r => g v y μ2 ad1 Hb1 H1 (by
    obtain ⟨xs, ys, rfl, rfl, hl, q⟩ := hy
    exact v2_cat hl q) s W1 r) s W1 r)
end
end PV

/-! repr of data; == and != of texts. -/
namespace PV
open PySem PySem.Spec PyProof.Rows L2
def rReprD (K : PySem.W.Frag) : List V → Hp → VK → Prop := fun xs H Q => ∃ v d, xs = [v] ∧ Dp K H v d ∧ d.showable = true ∧ d.hasDict = false ∧ d.depth ≤ 60 ∧ d.shown.length ≤ sizeLine ∧ Q (.str d.shown) H
theorem call_reprD {X : Cx} (hg : X.A.guards = some []) (hu : X.A.units + 64 < cLine) : CallR X (.builtin "repr") (rReprD X.K) := by
  intro pins s σ H xs us Q I r h
  obtain ⟨v, d, rfl, hd, hs, hn, hdp, hz, q⟩ := h
  obtain ⟨u, rfl, rv⟩ := L2.vals1 r
  obtain ⟨as, hr⟩ := Dp.reads I d v u hd rv
  cases hd with
  | non =>
    cases rv
    exact PySem.P.repr_of_none ⟨.str _, H, I.tok _, ⟨_, rfl⟩, q⟩
  | bl b =>
    cases rv
    exact PySem.P.repr_of_bool ⟨.str _, H, I.tok _, ⟨_, rfl⟩, q⟩
  | int i =>
    obtain ⟨t, rfl⟩ := rv
    exact PySem.P.repr_of_int (by simpa [PyData.showable] using hs) ⟨.str _, H, I.tok _, ⟨_, rfl⟩, q⟩
  | str x =>
    obtain ⟨t, rfl⟩ := rv
    exact PySem.P.repr_of_str ⟨.str _, H, I.tok _, ⟨_, rfl⟩, q⟩ (by simpa only [PyData.shown] using hz)
  | lst h1 h2 =>
    cases rv
    exact repr_of_reads' hr hs (PySem.PyData.noDict_hsm hn) hg (by omega) (fun _ _ e => e) (fun h' u tk hk => ⟨.str _, H, I.kept hk, ⟨_, rfl⟩, q⟩) hz
  | tup h1 h2 =>
    cases rv
    exact repr_of_reads' hr hs (PySem.PyData.noDict_hsm hn) hg (by omega) (fun _ _ e => e) (fun h' u tk hk => ⟨.str _, H, I.kept hk, ⟨_, rfl⟩, q⟩) hz
section
variable {X : Cx} {a b e : Expr} {ρ : Rho} {μ : Mu} {Q : E → Mu → Prop} {pos p2 : Pos}
theorem ev_repr {k : Nat} {x : E} {d : PyData} (hr : RoomG true k X.A) (hm : X.mg "repr" = none) (h : EV X e ρ μ x) (hd : DE μ x d) (hs : d.showable = true) (hn : d.hasDict = false) (hdp : d.depth ≤ 60) (hz : d.shown.length ≤ sizeLine) (hg : Gl X "repr" := by rfl) (hst : starEach [e] X.env = (false, eval e X.env) :: starEach [] X.env := by rfl) :
    EV X (.Call (.Name "repr" p2) [e] [] pos) ρ μ (.sh (.str d.shown)) :=
  ev_callB (call_reprD (hr.gd rfl) hr.u64) hg hm bo_repr (ea_cons h ea_nil hst) (fun Q q ad Hb H vs W r0 Q' g => by
    obtain ⟨v, rfl, r⟩ := vals1 r0
    exact ⟨v, d, rfl, (hd.dp W r).1, hs, hn, hdp, hz, g.now W (x := .sh (.str _)) (.str _) q⟩) (by decide) (by decide) hst rfl
theorem ev_eqS {x y : Str} (ha : EV X a ρ μ (.sh (.str x))) (hb : EV X b ρ μ (.sh (.str y))) : EV X (.Compare a [.Eq] [b] pos) ρ μ (.sh (.bl (decide (x = y)))) := ev_cmp op_eq (nomark _) ha hb fun Q q ad Hb H v w W r1 r2 Q' k => by
  obtain rfl := Rep.str_inv r1
  obtain rfl := Rep.str_inv r2
  refine ⟨rfl, ?_⟩
  have e : (decide (V.str x = V.str y)) = decide (x = y) := decide_eq_decide.mpr ⟨fun z => by cases z; rfl, fun z => by rw [z]⟩
  rw [e]
  exact k.now W (x := .sh (.bl (decide (x = y)))) (.bl _) q
theorem ev_neS {x y : Str} (ha : EV X a ρ μ (.sh (.str x))) (hb : EV X b ρ μ (.sh (.str y))) : EV X (.Compare a [.NotEq] [b] pos) ρ μ (.sh (.bl (!decide (x = y)))) := ev_cmp op_ne (nomark _) ha hb fun Q q ad Hb H v w W r1 r2 Q' k => by
  obtain rfl := Rep.str_inv r1
  obtain rfl := Rep.str_inv r2
  refine ⟨rfl, ?_⟩
  have e : (decide (V.str x = V.str y)) = decide (x = y) := decide_eq_decide.mpr ⟨fun z => by cases z; rfl, fun z => by rw [z]⟩
  rw [e]
  exact k.now W (x := .sh (.bl (!decide (x = y)))) (.bl _) q
end
end PV

/-! Cells of any depth lent to a pure def whose result is flat; a cell shared from an expression on. -/
namespace PV
open PySem PySem.Spec PyProof.Rows L2
/-- what a cell may be lent as: lists, locked dicts -/
inductive Lend (μ : Mu) : E → P → Prop
  | sh (x : P) : Lend μ (.sh x) x
  | lst {j : Nat} {zs : List E} {xs : List P} (h : μ[j]? = some (some (.lst zs))) (l : zs.length = xs.length) (e : ∀ (i : Nat) (z : E) (x : P), zs[i]? = some z → xs[i]? = some x → Lend μ z x) : Lend μ (.pt j) (.lst xs)
  | lk {j : Nat} {o : Obj} {ks : List (List Key × V)} {zs : List (List Key × E)} {xs : List (List Key × P)} (h : μ[j]? = some (some (.lk o ks zs))) (l : zs.map (·.1) = xs.map (·.1)) (e : ∀ (i : Nat) (z : List Key × E) (x : List Key × P), zs[i]? = some z → xs[i]? = some x → Lend μ z.2 x.2) : Lend μ (.pt j) (.dT xs)
theorem Lend.lstS {μ : Mu} {j : Nat} {xs : List P} (h : μ[j]? = some (some (.lst (xs.map .sh)))) : Lend μ (.pt j) (.lst xs) := .lst h (by simp) fun i z x h1 h2 => by
  rw [List.getElem?_map, h2] at h1
  cases h1
  exact .sh x
theorem Lend.lkS {μ : Mu} {j : Nat} {o : Obj} {ks : List (List Key × V)} {xs : List (List Key × P)} (h : μ[j]? = some (some (.lk o ks (xs.map fun q => (q.1, .sh q.2))))) : Lend μ (.pt j) (.dT xs) := .lk h (by rw [List.map_map]; rfl) fun i z x h1 h2 => by
  rw [List.getElem?_map, h2] at h1
  cases h1
  exact .sh x.2
theorem lend_pd {K : PySem.W.Frag} {ad : List Addr} {Hb Hb2 : Hp} {μ : Mu} (lend : ∀ x y, Lend μ x y → ∀ v, RepE K ad Hb v x → Rep K Hb2 v y) : ∀ {vs : List V} {zs : List E} {ps : List P}, RepEs K ad Hb vs zs → Paired (Lend μ) zs ps → RepL K Hb2 vs ps
  | _, _, _, .nil, .nil => .nil
  | _, _, _, .cons r t, .cons f g => .cons (lend _ _ f _ r) (lend_pd lend t g)
theorem tep_lend {g : Bool} {X : Cx} {e : Expr} {es : List Expr} {ρ : Rho} {μ : Mu} {pos p2 : Pos} {k : Nat} {x : Str} {Fr : List P → P → Prop} (c : Ct g X.prog X.w X.K X.mg X.base k x (SF Fr)) (hr : RoomG g k X.A) {Q : E → Mu → Prop}
    (h : TAP X (e :: es) ρ μ fun zs μ1 => ∃ ps y, Paired (Lend μ1) zs ps ∧ Fr ps y ∧ flatP y = true ∧ Q (.sh y) μ1) (hg : Gl X x := by rfl) (hdb : (x == ("__debug__" : Str)) = false := by decide)
    (he : starEach (e :: es) X.env = (false, eval e X.env) :: starEach es X.env := by rfl) (hpl : (backTo pos (starEach es X.env)).any (·.1) = false := by rfl) : TEP X (.Call (.Name x p2) (e :: es) [] pos) ρ μ Q := fun ad0 Hb0 H0 σ W0 N0 Q' g0 => by
  classical
  obtain ⟨f, fd, pn, h1, h2, h3, h4⟩ := c.ok
  refine pe_go (pe_callG (E := E0) h4 hr hg h1 h2 h3 pa_self hdb he hpl) (h ad0 Hb0 H0 σ W0 N0 _ ?_)
  rintro vs zs μ1 ad Hb1 H1 ⟨ps, y, hl, hF, hy, q⟩ s1 W r
  rw [List.append_nil]
  let live : Addr → Prop := fun a => ∃ (j : Nat) (c : Cell), ad[j]? = some a ∧ μ1[j]? = some (some c) ∧ ((∃ zs, c = .lst zs) ∨ ∃ o ks zs, c = .lk o ks zs)
  let un : Option HO → Option HO := fun o => match o with
    | some (.frz _ u) => some u
    | o => o
  let Hp2 : Hp := fun a => if live a then un (H1 a) else Hb1 a
  have lv : ∀ {a}, live a → Hp2 a = un (H1 a) ∧ Hb1 a = none ∧ ((∃ us, H1 a = some (.lst us)) ∨ ∃ o ks, H1 a = some (.frz o (.dT ks))) := fun {a} l => by
    obtain ⟨j, c, ha, hj, hc⟩ := id l
    obtain ⟨b, ok⟩ := W.off j a _ ha hj
    refine ⟨if_pos l, b, ?_⟩
    rcases hc with ⟨zs, rfl⟩ | ⟨o, ks, zs, rfl⟩
    · obtain ⟨us, hu, _⟩ := ok
      exact .inl ⟨us, hu⟩
    · exact .inr ⟨o, ks, ok.1⟩
  have dd : ∀ {a}, ¬ live a → Hp2 a = Hb1 a := fun l => if_neg l
  have ex : Ex Hb1 Hp2 := fun a o e => by
    by_cases l : live a
    · rw [(lv l).2.1] at e; cases e
    · rw [dd l]; exact e
  have W0 : Wd X.K [] Hp2 H1 [] := ⟨rfl, fun a u e => by
    by_cases l : live a
    · obtain ⟨e1, _, ⟨us, hu⟩ | ⟨o, ks, hu⟩⟩ := lv l
      · rw [e1, hu] at e
        cases e
        exact hu
      · rw [e1, hu] at e
        cases e
        exact .inr ⟨o, hu⟩
    · rw [dd l] at e
      exact W.inc a u e, fun j a c h => by simp at h, fun i j a c d h => by simp at h, fun a h => by simp at h⟩
  have lend : ∀ x y, Lend μ1 x y → ∀ v, RepE X.K ad Hb1 v x → Rep X.K Hp2 v y := by
    intro x y hxy
    induction hxy with
    | sh x => exact fun v r => Rep.mono ex r
    | @lst j zs xs h l e ih =>
      intro v r
      obtain ⟨a, ha, rfl⟩ := r
      obtain ⟨_, vs, hv, r⟩ := W.off j a _ ha h
      have hlv := (lv ⟨j, _, ha, h, .inl ⟨zs, rfl⟩⟩).1
      rw [hv] at hlv
      refine .lst hlv (r.length.trans l) fun i v x h1 h2 => ?_
      obtain ⟨z, h3, h4⟩ := pd_right r i v h1
      exact ih i z x h3 h2 v h4
    | @lk j o ks zs xs h l e ih =>
      intro v r
      obtain ⟨a, ha, rfl⟩ := r
      obtain ⟨_, hv, r⟩ := W.off j a _ ha h
      have hlv := (lv ⟨j, _, ha, h, .inr ⟨o, ks, zs, rfl⟩⟩).1
      rw [hv] at hlv
      refine .dT hlv ((pd_fst r).trans l) fun i v x h1 h2 => ?_
      obtain ⟨z, h3, h4⟩ := pd_right r i v h1
      exact ih i z x h3 h2 v.2 h4.2
  have rp : RepL X.K Hp2 vs ps := lend_pd lend r hl
  refine ⟨[], Hp2, [], ps.map .sh, fun z _ => z = .sh y, W0, repEs_of rp, ⟨ps, y, rfl, hF, rfl⟩, fun v z μ' ad' Hb' H' hz s' W' r' => ?_⟩
  subst hz
  -- what stood stands, or is locked
  have keep : ∀ {a o}, H1 a = some o → Hb1 a = none → H' a = some o := fun {a o} e n => by
    by_cases l : live a
    · obtain ⟨e1, _, ⟨us, hu⟩ | ⟨q, ks, hu⟩⟩ := lv l
      · rcases s'.fr a o (by simp) e with z | ⟨_, d, z, _⟩
        · exact z
        · rw [hu] at e
          cases e
          cases d
      · rw [hu] at e1
        rw [e] at hu
        cases hu
        exact s'.bs a (.dT ks) q e1 e
    · rcases s'.fr a o (by simp) e with z | ⟨_, d, z, _⟩
      · exact z
      · rw [dd l, n] at z
        cases z
  refine g0 v (.sh y) μ1 ad Hb1 H' q (s1.trans ⟨Ex.refl _, ⟨[], by simp⟩, fun _ z => .inl z, fun a o _ e => ?_, fun _ _ _ _ _ n => n, fun a u q hb e => s'.bs a u q (ex a u hb) e⟩) ⟨W.len, fun a u hb => ?_, fun j a c ha hc => ?_, W.nd, fun a ha => ?_⟩ (flat_rep hy r')
  · by_cases l : live a
    · exact .inl (keep e (lv l).2.1)
    · rcases s'.fr a o (by simp) e with z | ⟨q, d, z, z2⟩
      · exact .inl z
      · exact .inr ⟨q, d, by rw [← dd l]; exact z, z2⟩
  · have st := W.inc a u hb
    have gen : ∀ o, H1 a = some o → H' a = some o ∨ ∃ q, isD o = true ∧ H' a = some (.frz q o) := fun o e => by
      rcases s'.fr a o (by simp) e with z | ⟨q, d, _, z⟩
      · exact .inl z
      · exact .inr ⟨q, d, z⟩
    cases u with
    | dT kvs =>
      rcases st with z | ⟨o, z⟩
      · rcases gen _ z with z | ⟨q, _, z⟩
        · exact .inl z
        · exact .inr ⟨q, z⟩
      · exact .inr ⟨o, s'.bs a _ o (ex a _ hb) z⟩
    | dK kvs =>
      rcases st with z | ⟨o, z⟩
      · rcases gen _ z with z | ⟨q, _, z⟩
        · exact .inl z
        · exact .inr ⟨q, z⟩
      · exact .inr ⟨o, s'.bs a _ o (ex a _ hb) z⟩
    | _ =>
      rcases gen _ st with z | ⟨q, d, z⟩
      · exact z
      · cases d
  · obtain ⟨n, ok⟩ := W.off j a c ha hc
    obtain ⟨o, e, _⟩ := ok.some
    exact ⟨n, ok.keep ((keep e n).trans e.symm) fun _ _ r => r⟩
  · cases e : H1 a with
    | none => exact absurd e (W.trk a ha)
    | some o => exact s'.fr1 (by simp) e
/-- a cell's dict joins the base -/
theorem Wd.shareT {K : PySem.W.Frag} {ad : List Addr} {Hb H : Hp} {μ : Mu} (W : Wd K ad Hb H μ) {j : Nat} {zs : List (List Key × P)} (hj : μ[j]? = some (some (.dT (zs.map fun q => (q.1, .sh q.2))))) :
    ∃ a Hb2, ad[j]? = some a ∧ Wd K ad Hb2 H (μ.set j none) ∧ Step ad Hb H ad Hb2 H ∧ Rep K Hb2 (.ref a) (.dT zs) := by
  have hl : j < μ.length := (List.getElem?_eq_some_iff.mp hj).1
  have hla : j < ad.length := by rw [W.len]; exact hl
  obtain ⟨a, ha⟩ : ∃ a, ad[j]? = some a := ⟨_, List.getElem?_eq_getElem hla⟩
  obtain ⟨b1, vs, hv, r⟩ := W.off j a _ ha hj
  have s : Step ad Hb H ad (upd Hb a (.dT vs)) H := ⟨Ex.new b1, ⟨[], by simp⟩, fun _ z => .inl z, fun _ _ _ z => .inl z, fun b o hb e t n => by
    rw [upd_ne (fun z => hb (by rw [z]; exact List.mem_of_getElem? ha))]
    exact n, fun _ _ _ _ z => z⟩
  have sp : ∀ (i : Nat) (b : Addr) (c : Cell), ad[i]? = some b → (μ.set j none)[i]? = some (some c) → b ≠ a ∧ μ[i]? = some (some c) := fun i b c hb hc => by
    by_cases e : j = i
    · subst e
      rw [List.getElem?_set_self hl] at hc
      cases hc
    · rw [List.getElem?_set_ne e] at hc
      refine ⟨fun z => ?_, hc⟩
      subst z
      exact e (W.nd j i b _ c ha hb hj hc)
  refine ⟨a, upd Hb a (.dT vs), ha, ⟨by rw [List.length_set]; exact W.len, fun b u e => ?_, fun i b c hb hc => ?_, fun i k b c d hi hk hc hd => W.nd i k b c d hi hk (sp i b c hi hc).2 (sp k b d hk hd).2, W.trk⟩, s, .dT upd_same (pd_fst (pd_unmap r)) fun i v x h5 h6 => Rep.mono s.ex (pd_get (pd_unmap r) i v x h5 h6).2⟩
  · by_cases eb : b = a
    · subst eb
      rw [upd_same] at e
      cases e
      exact .inl hv
    · rw [upd_ne eb] at e
      exact W.inc b u e
  · obtain ⟨n, hc2⟩ := sp i b c hb hc
    obtain ⟨h3, h4⟩ := W.off i b c hb hc2
    exact ⟨by rw [upd_ne n]; exact h3, h4.keep rfl fun v x r => RepE.step s r⟩
/-- what e yields, a dict, is as good as shared from here on -/
theorem tep_shareT {X : Cx} {e : Expr} {ρ : Rho} {μ : Mu} {Q : E → Mu → Prop} (h : TEP X e ρ μ fun x μ1 => (∃ p, x = .sh p ∧ Q x μ1) ∨ ∃ j kvs, x = .pt j ∧ μ1[j]? = some (some (.dT (kvs.map fun q => (q.1, .sh q.2)))) ∧ Q (.sh (.dT kvs)) (μ1.set j none)) : TEP X e ρ μ Q := fun ad Hb H σ W N Q' g => by
  refine h ad Hb H σ W N Q' ?_
  rintro v x μ1 ad1 Hb1 H1 (⟨p, rfl, q⟩ | ⟨j, kvs, rfl, hj, q⟩) s1 W1 r1
  · exact g v _ μ1 ad1 Hb1 H1 q s1 W1 r1
  · obtain ⟨a, Hb2, ha, W2, s2, r2⟩ := W1.shareT hj
    obtain ⟨b, hb, rfl⟩ := r1
    rw [ha] at hb
    cases hb
    exact g _ (.sh (.dT kvs)) _ ad1 Hb2 H1 q (s1.trans s2) W2 r2
/-- new objects all around: one of them joins the base -/
theorem Wd.lay {K : PySem.W.Frag} {ad : List Addr} {Hb H H' : Hp} {μ : Mu} (W : Wd K ad Hb H μ) (k : ∀ b o, H b = some o → H' b = some o) {p : Addr} {o : HO} (hp : H p = none) (e : H' p = some o) : Wd K ad (upd Hb p o) H' μ ∧ Step ad Hb H ad (upd Hb p o) H' := by
  have hb := W.base_none hp
  have at_ : ∀ {a o}, H a = some o → a ≠ p ∧ H' a = H a := fun {a o} h => ⟨ne_of_none h hp, (k _ _ h).trans h.symm⟩
  refine ⟨⟨W.len, fun a u h => ?_, fun j a c ha hc => ?_, W.nd, fun a ha => ?_⟩, ⟨Ex.new hb, ⟨[], by simp⟩, fun _ z => .inl z, fun a u _ h => .inl (k _ _ h), fun a u _ h _ n => ?_, fun a u q _ h => k _ _ h⟩⟩
  · by_cases ea : a = p
    · subst ea
      rw [upd_same] at h
      cases h
      exact Std.of e
    · rw [upd_ne ea] at h
      have st := W.inc a u h
      cases hH : H a with
      | none => cases u <;> (simp only [Std, Rd] at st; rw [hH] at st; first | (rcases st with z | ⟨_, z⟩ <;> cases z; done) | cases st)
      | some o2 => exact st.keep (at_ hH).2
  · obtain ⟨h1, h2⟩ := W.off j a c ha hc
    obtain ⟨o2, h3, _⟩ := h2.some
    exact ⟨by rw [upd_ne (at_ h3).1]; exact h1, h2.keep (at_ h3).2 fun v x r => repE_mono (Ex.new hb) ⟨[], by simp⟩ r⟩
  · cases hH : H a with
    | none => exact absurd hH (W.trk a ha)
    | some o2 => rw [k _ _ hH]; exact fun z => nomatch z
  · rw [upd_ne (at_ h).1]
    exact n
end PV

/-! Dicts of tuple keys: list(d.items()), dict(pairs), == of different sizes. -/
namespace PV
open PySem PySem.Spec PyProof.Rows L2
/-! ### list(d.items()) -/
def putV : Hp → List Addr → List (V × V) → Hp
  | H, a :: as, p :: kvs => putV (upd H a (.tup [p.1, p.2])) as kvs
  | H, _, _ => H
theorem putV_off {b : Addr} : ∀ (as : List Addr) (kvs : List (V × V)) (H : Hp), b ∉ as → putV H as kvs b = H b
  | [], _, _, _ => rfl
  | _ :: _, [], _, _ => rfl
  | a :: as, p :: kvs, H, h => by
    show putV (upd H a (.tup [p.1, p.2])) as kvs b = H b
    rw [putV_off as kvs _ (fun z => h (List.mem_cons_of_mem _ z)), upd_ne (fun z => h (by rw [z]; exact List.mem_cons_self))]
theorem putV_at : ∀ (as : List Addr) (kvs : List (V × V)) (H : Hp), as.Nodup → ∀ (i : Nat) (t : Addr) (p : V × V), as[i]? = some t → kvs[i]? = some p → putV H as kvs t = some (.tup [p.1, p.2])
  | [], _, _, _, _, _, _, h, _ => by simp at h
  | _ :: _, [], _, _, _, _, _, _, h => by simp at h
  | a :: as, q :: kvs, H, hn, 0, t, p, h1, h2 => by
    simp at h1 h2
    subst h1
    subst h2
    show putV (upd H a (.tup [q.1, q.2])) as kvs a = _
    rw [putV_off as kvs _ (List.nodup_cons.mp hn).1, upd_same]
  | a :: as, q :: kvs, H, hn, i + 1, t, p, h1, h2 => putV_at as kvs _ (List.nodup_cons.mp hn).2 i t p (by simpa using h1) (by simpa using h2)
def rItemsLT : V → Hp → VK → Prop := fun x H Q => ∃ (d : Addr) (kvs : List (List Key × V)), x = .ref d ∧ Rd H d (.dT kvs) ∧
  ∀ (H' : Hp) (p : Addr) (ts : List Addr), (∀ b o, H b = some o → H' b = some o) → H p = none → H' p = some (.lst (ts.map V.ref)) → ts.length = kvs.length →
    (∀ (i : Nat) (t : Addr) (q : List Key × V), ts[i]? = some t → kvs[i]? = some q → ∃ b, H b = some (.tup (q.1.map kV)) ∧ H' t = some (.tup [.ref b, q.2])) → Q (.ref p) H'
section
variable {X : Cx} {e : Expr} {te : TE} {p apos cpos pos : Pos}
theorem items_laidT {pins : List (Addr × Obj)} {σ : L2.St} {H : Hp} {s : Shared} {h' : Heap} {tk : Nat} {kvs : List (List Key × V)} {es : Array DictEntry} {acc : Array Value} {c : Nat} {as : List Addr} (I : Inv X pins σ H s) (hz : kvs.length ≤ sizeLine) (hsz : es.size = kvs.length)
    (ent : ∀ (i : Nat) (hi : i < es.size), ∃ (k : List Key) (v : V) (q : Addr), kvs[i]? = some (k, v) ∧ es[i].key = .ref q ∧ H q = some (.tup (k.map kV)) ∧ RelV v es[i].val)
    (hk : ∀ b o, s.heap.get? b = some o → h'.get? b = some o) (hS : h'.get? s.heap.objs.size = some { cls := .type "list", dict := none, data := .seq acc c, slots := #[] }) (hl : as.length = es.size) (hG : PySem.W.DilG es s.heap.objs.size h' as) (hacc : acc.toList = as.map Value.ref) :
    ∃ H' : Hp, (∀ b o, H b = some o → H' b = some o) ∧ H s.heap.objs.size = none ∧ H' s.heap.objs.size = some (.lst (as.map V.ref)) ∧
      (∀ (i : Nat) (t : Addr) (q : List Key × V), as[i]? = some t → kvs[i]? = some q → ∃ b, H b = some (.tup (q.1.map kV)) ∧ H' t = some (.tup [.ref b, q.2])) ∧ Inv X pins σ H' { s with heap := h', toks := tk } := by
  have hSn : s.heap.objs.size ∉ as := fun z => Nat.lt_irrefl _ (hG.above _ z)
  have nd : as.Nodup := List.Pairwise.imp (fun {a b} (h : a < b) => Nat.ne_of_lt h) hG.rise
  have new : ∀ t ∈ as, H t = none := fun t ht => I.hok.fresh (Nat.le_of_lt (hG.above t ht))
  have newS : H s.heap.objs.size = none := I.hok.fresh (Nat.le_refl _)
  let ps : List (V × V) := (es.toList.zip kvs).map fun z => (V.ref (adV z.1.key), z.2.2)
  have psat : ∀ (i : Nat) (hi : i < es.size), ∃ (k : List Key) (v : V) (q : Addr), kvs[i]? = some (k, v) ∧ ps[i]? = some (.ref q, v) ∧ es[i].key = .ref q ∧ H q = some (.tup (k.map kV)) ∧ RelV v es[i].val := fun i hi => by
    obtain ⟨k, v, q, h1, h2, h3, h4⟩ := ent i hi
    refine ⟨k, v, q, h1, ?_, h2, h3, h4⟩
    have e1 : (es.toList.zip kvs)[i]? = some (es[i], (k, v)) := by
      rw [List.getElem?_zip_eq_some]
      exact ⟨by rw [Array.getElem?_toList]; exact Array.getElem?_eq_getElem hi, h1⟩
    show ((es.toList.zip kvs).map fun z => (V.ref (adV z.1.key), z.2.2))[i]? = _
    rw [List.getElem?_map, e1]
    simp [h2, adV]
  have atP := putV_at as ps (upd H s.heap.objs.size (.lst (as.map V.ref))) nd
  have off : ∀ b, b ∉ as → b ≠ s.heap.objs.size → putV (upd H s.heap.objs.size (.lst (as.map V.ref))) as ps b = H b := fun b h1 h2 => by rw [putV_off as ps _ h1, upd_ne h2]
  have low : ∀ b o, s.heap.get? b = some o → b ∉ as ∧ b ≠ s.heap.objs.size := fun b o e => ⟨fun z => absurd (Heap.lt_size e) (Nat.not_lt.mpr (Nat.le_of_lt (hG.above b z))), Nat.ne_of_lt (Heap.lt_size e)⟩
  have kp : ∀ b u, H b = some u → (putV (upd H s.heap.objs.size (.lst (as.map V.ref))) as ps) b = some u := fun b u e => by
    rw [off b (fun z => by rw [new b z] at e; cases e) (fun z => by rw [z, newS] at e; cases e)]
    exact e
  have eS : putV (upd H s.heap.objs.size (.lst (as.map V.ref))) as ps s.heap.objs.size = some (.lst (as.map V.ref)) := by rw [putV_off as ps _ hSn, upd_same]
  refine ⟨putV (upd H s.heap.objs.size (.lst (as.map V.ref))) as ps, kp, newS, eS, fun i t q h1 h2 => ?_, ?_⟩
  · have hi : i < es.size := by rw [← hl]; exact (List.getElem?_eq_some_iff.mp h1).1
    obtain ⟨k, v, b, g1, g2, g3, g4, g5⟩ := psat i hi
    rw [h2] at g1
    cases g1
    exact ⟨b, g4, atP i t _ h1 g2⟩
  refine I.call' (ch := []) rfl ⟨fun b o q _ _ _ => hk b o q, fun b o q _ _ _ => ⟨o.slots, hk b o q⟩, fun b o q n _ => ?_, fun b o q _ => ⟨o, hk b o q⟩, fun b xs q => kp b _ q, fun b o u q => kp b _ q, fun b ps q => ⟨#[], by rw [kp b _ q]; simp⟩⟩ (fun b u q => ?_) I.bare fun b z => by simp at z
  · obtain ⟨z1, z2⟩ := low b o q
    rw [off b z1 z2]
    exact n
  · by_cases hb : b ∈ as
    · obtain ⟨j, e1⟩ := List.mem_iff_getElem?.mp hb
      have hi : j < es.size := by rw [← hl]; exact (List.getElem?_eq_some_iff.mp e1).1
      obtain ⟨k, v, b2, g1, g2, g3, g4, g5⟩ := psat j hi
      rw [atP j b _ e1 g2] at q
      cases q
      obtain ⟨hj, f3⟩ := hG.pairs j b e1
      rw [g3] at f3
      exact ⟨by show 2 ≤ sizeLine; decide, [.ref b2, es[j].val], .cons rfl (.cons g5 .nil), ⟨_, f3, rfl, _, rfl⟩⟩
    · by_cases hb2 : b = s.heap.objs.size
      · rw [hb2] at q ⊢
        rw [eS] at q
        cases q
        refine ⟨by rw [List.length_map]; omega, acc.toList, c, by rw [hacc]; exact LiI.vals_refs as, ?_⟩
        rw [Array.toArray_toList]
        exact hS
      · rw [off b hb hb2] at q
        exact (I.hok b u q).stay (fun d v _ y => hk d v y) (fun d y => kp d _ y) fun d xs y => kp d _ y
theorem pe_listItemsT (hc : X.calm = true) (he : PE X e te) (hg : Gl X "list") (hm : X.mg "list" = none) (hbase : attributeBase e "items" X.env (eval e X.env) = eval e X.env) (hline : (apos.endLine == cpos.line) = true)
    (hs : starEach [.Call (.Attribute e "items" apos) [] [] cpos] X.env = (false, eval (.Call (.Attribute e "items" apos) [] [] cpos) X.env) :: starEach [] X.env) :
    PE X (.Call (.Name "list" p) [.Call (.Attribute e "items" apos) [] [] cpos] [] pos) (fun σ H Q => te σ H fun x H1 => rItemsLT x H1 Q) := .mk fun pins s σ H Q I hq => by
  refine wpAny_Call_Name_kw (ld_blt I hg hm bo_list (PyProof.Rows.callWith_type1 ?_ hs rfl))
  rw [hs]
  show wpAny _ _ (spliced ((false, eval (.Call (.Attribute e "items" apos) [] [] cpos) X.env) :: backTo pos (starEach [] X.env))) _ _ s
  refine Calls.spliced_cons (wpAny_Call_method (T := "dict") (id := "dict.items") hbase rfl hline F.plainAttrs_dict F.slot_dict_items F.type_dict_items (thn (he.run pins s σ H _ I hq) ?_))
  rintro u s1 ⟨x, H1, I1, rx, d, kvs, rfl, hd, q⟩
  obtain rfl : u = .ref d := rx
  obtain ⟨hs0, hz, es, ep, hr, hsz, ent⟩ := rdV I1 hd
  refine ⟨hr.typeIs, fun a z => ?_, ?_⟩
  · cases z
    obtain ⟨ob, h1, h2, _⟩ := hr
    exact ⟨ob, h1, h2.2.1⟩
  have I2 : Inv X pins σ H1 { s1 with heap := s1.heap.push ⟨.type "dict_items", none, .fields #[.ref d], #[]⟩ } := I1.kept (t' := s1.toks) fun b ob z => Heap.get?_push_of_some _ z
  show wpAny _ _ (callWith cpos (.builtin "dict.items") [.ref d] [] []) _ X.xe s1
  refine method_meetsIn F.slot_dict_items F.entry_dict_items rfl (PySem.evalArgs_none ⟨rfl, hr.typeIs, F.args_dict_items_1 _, _, meets_dict_items_raw d hs0, ⟨es, ep, hr⟩, ?_⟩)
  refine Calls.spliced_nil (PySem.W.dil_call (es := es) (ep := ep) (d := d) (I1.ok.hd hc) ⟨_, Heap.get?_push_size _ rfl, rfl, rfl⟩ (hr.at fun o z => Heap.get?_push_of_some _ z) (by rw [hsz]; exact hz) fun h' tk acc c as hk hS hl hG hacc => ?_)
  obtain ⟨H', k1, k2, k5, k6, J⟩ := items_laidT (tk := tk) I2 hz hsz ent hk hS hl hG hacc
  exact ⟨.ref _, H', J, rfl, q H' _ as k1 k2 k5 (by rw [hl, hsz]) k6⟩
end
theorem rep_key_tup {K : PySem.W.Frag} {H : Hp} {b : Addr} {k : List Key} (h : H b = some (.tup (k.map kV))) : Rep K H (.ref b) (keyP k) := by
  refine Rep.tupL h ?_
  induction k generalizing b with
  | nil => exact .nil
  | cons a l ih =>
    have : ∀ l : List Key, RepL K H (l.map kV) (l.map kP) := fun l => by
      induction l with
      | nil => exact .nil
      | cons a l ih =>
        refine .cons ?_ ih
        cases a with
        | inl i => exact .int i
        | inr i => exact .str i
    exact this (a :: l)
theorem join_items {K : PySem.W.Frag} {ad : List Addr} {H : Hp} {μ : Mu} : ∀ {ts : List Addr} {ks : List (List Key × V)} {zs : List (List Key × P)} {Hb : Hp}, Wd K ad Hb H μ → ts.length = ks.length → Paired (fun p q => p.1 = q.1 ∧ Rep K Hb p.2 q.2) ks zs →
    (∀ (i : Nat) (t : Addr) (q : List Key × V), ts[i]? = some t → ks[i]? = some q → ∃ b, H b = some (.tup (q.1.map kV)) ∧ H t = some (.tup [.ref b, q.2])) →
    ∃ Hb2, Wd K ad Hb2 H μ ∧ Step ad Hb H ad Hb2 H ∧ RepL K Hb2 (ts.map .ref) (zs.map fun q => .tup [keyP q.1, q.2])
  | [], _, _, Hb, W, h, r, _ => by
    cases r with
    | nil => exact ⟨Hb, W, Step.refl _ _ _, .nil⟩
    | cons _ _ => cases h
  | _ :: _, [], _, _, _, h, _, _ => by cases h
  | t :: ts, q :: ks, _, Hb, W, h, .cons (b := z) r rs, hi => by
    obtain ⟨b, hb, ht⟩ := hi 0 t q rfl rfl
    obtain ⟨Hb1, h1, W1, s1⟩ := W.join hb
    obtain ⟨Hb2, h2, W2, s2⟩ := W1.join ht
    obtain ⟨Hb3, W3, s3, r3⟩ := join_items (Hb := Hb2) W2 (Nat.succ.inj h) (pd_imp (fun _ _ x => ⟨x.1, Rep.mono (s1.ex.trans s2.ex) x.2⟩) rs) fun i t q h1 h2 => hi (i + 1) t q (by simpa using h1) (by simpa using h2)
    refine ⟨Hb3, W3, (s1.trans s2).trans s3, .cons (Rep.tupL (s3.ex _ _ h2) (.cons (by rw [← r.1]; exact rep_key_tup (s3.ex _ _ (s2.ex _ _ h1))) (.cons (Rep.mono (s1.ex.trans (s2.ex.trans s3.ex)) r.2) .nil))) r3⟩
section
variable {X : Cx} {a b e : Expr} {ρ : Rho} {μ : Mu} {Q : E → Mu → Prop} {apos cpos pos p2 : Pos} {kvs : List (List Key × P)}
theorem ev_listItems (hm : X.mg "list" = none) (h : EV X e ρ μ (.sh (.dT kvs))) (hc : X.calm = true := by rfl) (hg : Gl X "list" := by rfl) (hbase : attributeBase e "items" X.env (eval e X.env) = eval e X.env := by rfl) (hline : (apos.endLine == cpos.line) = true := by rfl)
    (hs : starEach [.Call (.Attribute e "items" apos) [] [] cpos] X.env = (false, eval (.Call (.Attribute e "items" apos) [] [] cpos) X.env) :: starEach [] X.env := by rfl) : EV X (.Call (.Name "list" p2) [.Call (.Attribute e "items" apos) [] [] cpos] [] pos) ρ μ (.sh (.lst (kvs.map fun q => .tup [keyP q.1, q.2]))) := fun Q q ad Hb H σ W N Q' g => by
  refine pe_go (pe_listItemsT hc pe_self hg hm hbase hline hs) (h (fun y μ1 => y = .sh (.dT kvs) ∧ μ1 = μ) ⟨rfl, rfl⟩ ad Hb H σ W N _ ?_)
  rintro v x μ1 ad1 Hb1 H1 ⟨rfl, rfl⟩ s1 W1 r1
  obtain ⟨d, ks, rfl, hb, r⟩ := Rep.dT_inv r1
  refine ⟨d, ks, rfl, W1.inc _ _ hb, fun H' p ts hk hp hl hlen hi => ?_⟩
  obtain ⟨W2, s2⟩ := W1.lay hk hp hl
  obtain ⟨Hb3, W3, s3, r3⟩ := join_items W2 hlen (pd_imp (fun _ _ x => ⟨x.1, Rep.mono s2.ex x.2⟩) r) fun i t q h1 h2 => by
    obtain ⟨b, h3, h4⟩ := hi i t q h1 h2
    exact ⟨b, hk _ _ h3, h4⟩
  exact g _ (.sh (.lst _)) _ _ _ _ q ((s1.trans s2).trans s3) W3 (Rep.lstL (s3.ex _ _ upd_same) r3)
end
/-! ### == of dicts of different sizes -/
def rEqDn : R2 := fun x y H Q => ∃ a b ks ls, x = .ref a ∧ y = .ref b ∧ Rd H a (.dT ks) ∧ Rd H b (.dT ls) ∧ ks.length ≠ ls.length ∧ Q (.bl false) H
theorem op_eqDn {X : Cx} (hu : X.A.units + 1 < cLine) : OpR X (compareOp .Eq) rEqDn := by
  intro pins s σ H x y v u Q I rx ry h
  obtain ⟨a, b, ks, ls, rfl, rfl, ha, hb, hn, q⟩ := h
  cases (show v = Value.ref a from rx)
  cases (show u = Value.ref b from ry)
  obtain ⟨sa, _, es, ep, da, za, _⟩ := rdV I ha
  obtain ⟨sb, _, es', ep', db, zb, _⟩ := rdV I hb
  obtain ⟨oa, hoa, _, hda⟩ := id da
  obtain ⟨ob, hob, _, hdb⟩ := id db
  refine wpAny_richCompare_same_room (op := .Eq) da.typeIs db.typeIs PySem.F.slot_dict_eq (wpAny_call_entry PySem.F.slot_dict_eq da.typeIs PySem.F.entry_dict_eq ?_ (PySem.F.args_dict_eq_2 _ _)) (Nat.lt_of_succ_lt hu)
  show wpAny _ _ (Builtin.Dict.dictSlotArgs "__eq__" ⟨[.ref a, .ref b], []⟩ >>= _) _ _ s
  refine wpAny_bind ?_
  unfold Builtin.Dict.dictSlotArgs
  refine wpAny_bind (wpAny_notOrdered_dict da.typeIs ?_)
  show wpAny _ _ (pure (Value.ref a, Value.ref b)) _ _ s
  refine wpAny_pure ?_
  refine wpAny_bind (wpAny_isInstance (T := "dict") db.typeIs PySem.F.sub_dict_dict ?_)
  simp only [Bool.not_true, Bool.false_eq_true, if_false]
  refine wpAny_bind (wpAny_pure (wpAny_bind (wpAny_pure ?_)))
  refine wpAny_bind ?_
  unfold Builtin.Dict.samePairs Builtin.Dict.showsAll
  rw [if_neg (show ¬ (a == sysModules) = true by rw [sa]; exact Bool.false_ne_true), if_neg (show ¬ (b == sysModules) = true by rw [sb]; exact Bool.false_ne_true)]
  refine wpAny_bind (wpAny_pure (wpAny_bind (wpAny_pure ?_)))
  refine wpAny_bind (wpAny_dictEntries hoa hda ?_)
  dsimp only
  refine wpAny_bind (wpAny_dictEntries hob hdb ?_)
  rw [if_pos (by rw [za, zb]; simpa using hn)]
  refine wpAny_bind (wpAny_rule (wpAny_pure ?_))
  refine wpAny_pure ⟨_, rfl, ?_, ?_⟩
  · exact fun x => nomatch x
  · exact ⟨.bl false, H, I, rfl, q⟩
section
variable {X : Cx} {a b e : Expr} {ρ : Rho} {μ : Mu} {Q : E → Mu → Prop} {pos p2 : Pos}
theorem tep_eqDn (hu : X.A.units + 1 < cLine) (h : TEP X a ρ μ fun x μ1 => TEP X b ρ μ1 fun y μ2 => ∃ zs ys, DTv μ2 x zs ∧ DTv μ2 y ys ∧ zs.length ≠ ys.length ∧ Q (.sh (.bl false)) μ2) : TEP X (.Compare a [.Eq] [b] pos) ρ μ Q :=
  tep_cmp (op_eqDn hu) (nomark _) (fun ad Hb H σ W N Q' g => h ad Hb H σ W N Q' fun v x μ1 ad1 Hb1 H1 hx s1 W1 r1 => g v x μ1 ad1 Hb1 H1 (fun ad Hb H σ W N Q' g => hx ad Hb H σ W N Q' fun v y μ2 ad1 Hb1 H1 hy s1 W1 r1 => g v y μ2 ad1 Hb1 H1 (fun ad Hb H v w W r1 r2 Q' g => by
    obtain ⟨zs, ys, d1, d2, hn, q⟩ := hy
    obtain ⟨a, ks, rfl, ha, p1⟩ := d1.get W r1
    obtain ⟨b, ls, rfl, hb, p2⟩ := d2.get W r2
    exact ⟨a, b, ks, ls, rfl, rfl, ha, hb, by rw [p1.length, p2.length]; exact hn, g.now W (x := .sh (.bl false)) (.bl _) q⟩) s1 W1 r1) s1 W1 r1)
end
end PV

/-! dict(pairs), the keys tuples, each once. -/
namespace PV
open PySem PySem.Spec PyProof.Rows L2
def rDictT (K : PySem.W.Frag) : List V → Hp → VK → Prop := fun xs H Q => ∃ (a : Addr) (ts : List Addr) (ks : List (List Key × V)), xs = [.ref a] ∧ SqL K H a (ts.map .ref) ∧ ts.length = ks.length ∧
  (∀ (i : Nat) (t : Addr) (q : List Key × V), ts[i]? = some t → ks[i]? = some q → ∃ b, H b = some (.tup (q.1.map kV)) ∧ H t = some (.tup [.ref b, q.2])) ∧ (ks.map (·.1)).Nodup ∧ ∀ p, H p = none → Q (.ref p) (upd H p (.dT ks))
theorem stored_nd {K : Type} [DecidableEq K] : ∀ (ps xs : List (K × Addr × Value)), ((xs ++ ps).map (·.1)).Nodup → storedAllH xs ps = xs ++ ps
  | [], xs, _ => by simp [storedAllH]
  | p :: ps, xs, h => by
    have e : storedH xs p.1 p.2.1 p.2.2 = xs ++ [p] := by
      rw [storedH_new]
      unfold atKey
      rw [List.find?_eq_none.mpr]
      · rfl
      · intro x hx
        simp only [decide_eq_true_eq]
        intro z
        rw [List.map_append, List.nodup_append] at h
        exact h.2.2 x.1 (List.mem_map.mpr ⟨x, hx, rfl⟩) p.1 (List.mem_map.mpr ⟨p, List.mem_cons_self .., rfl⟩) z
    show storedAllH (storedH xs p.1 p.2.1 p.2.2) ps = _
    rw [e, stored_nd ps (xs ++ [p]) (by rw [List.append_assoc]; exact h), List.append_assoc]
    rfl
theorem raw_pairs {X : Cx} {pins : List (Addr × Obj)} {σ : L2.St} {H : Hp} {s : Shared} (I : Inv X pins σ H s) : ∀ {ts : List Addr} {ks : List (List Key × V)}, ts.length = ks.length →
    (∀ (i : Nat) (t : Addr) (q : List Key × V), ts[i]? = some t → ks[i]? = some q → ∃ b, H b = some (.tup (q.1.map kV)) ∧ H t = some (.tup [.ref b, q.2])) →
    ∃ xs : List (List Key × Addr × Value), Paired (fun (p : List Key × V) (q : List Key × Addr × Value) => p.1 = q.1 ∧ H q.2.1 = some (.tup (p.1.map kV)) ∧ RelV p.2 q.2.2) ks xs ∧ ∀ (i : Nat) (t : Addr) (q : List Key × Addr × Value), ts[i]? = some t → xs[i]? = some q → IsTup s.heap t #[.ref q.2.1, q.2.2]
  | [], [], _, _ => ⟨[], .nil, fun i t q h => by simp at h⟩
  | [], _ :: _, h, _ => by cases h
  | _ :: _, [], h, _ => by cases h
  | t :: ts, q :: ks, h, hi => by
    obtain ⟨b, hb, ht⟩ := hi 0 t q rfl rfl
    obtain ⟨xs, pr, hx⟩ := raw_pairs I (Nat.succ.inj h) fun i t q h1 h2 => hi (i + 1) t q (by simpa using h1) (by simpa using h2)
    obtain ⟨_, its, rv, htu⟩ := (show ObjOk X.prog X.w H s.heap t (.tup [.ref b, q.2]) from I.hok t _ ht)
    obtain ⟨u, y, rfl, ru, ry⟩ := vals2 rv
    obtain rfl : u = .ref b := ru
    refine ⟨(q.1, b, y) :: xs, .cons ⟨rfl, hb, ry⟩ pr, fun i t' q' h1 h2 => ?_⟩
    cases i with
    | zero =>
      simp at h1 h2
      subst h1
      subst h2
      exact htu
    | succ i => exact hx i t' q' (by simpa using h1) (by simpa using h2)
theorem call_dictT {X : Cx} (hc : X.calm = true) (hu : X.A.units + 64 < cLine) : CallR X (.type "dict") (rDictT X.K) := by
  intro pins s σ H xs us Q I r h
  obtain ⟨a, ts, ks, rfl, hq, hl, hi, hn, q⟩ := h
  obtain ⟨u, rfl, rx⟩ := L2.vals1 r
  obtain rfl : u = .ref a := rx
  obtain ⟨its, rv, ⟨o, n, ho, ho1, ho2, ho3⟩, hz⟩ := I.list hq
  obtain rfl := L2.refs_at rv
  rw [List.length_map] at hz
  obtain ⟨xs, pr, hx⟩ := raw_pairs I hl hi
  have lx : xs.length = ts.length := by rw [← Paired.length pr, hl]
  let Ts : Nat → Addr := fun j => ts.getD j 0
  let ps : List (Value × Value) := xs.map fun q => (.ref q.2.1, q.2.2)
  have hTs : ∀ {j : Nat}, j < ts.length → ts[j]? = some (Ts j) := fun {j} hj => by
    show _ = some (ts.getD j 0)
    rw [List.getD_eq_getElem?_getD, List.getElem?_eq_getElem hj]
    rfl
  have psl : ps.length = ts.length := by show (xs.map _).length = _; rw [List.length_map, lx]
  have psx : ∀ {i : Nat} {k v : Value}, ps[i]? = some (k, v) → ∃ x, xs[i]? = some x ∧ k = .ref x.2.1 ∧ v = x.2.2 := fun {i k v} h => by
    have h : (xs.map fun q : List Key × Addr × Value => ((.ref q.2.1, q.2.2) : Value × Value))[i]? = some (k, v) := h
    rw [List.getElem?_map] at h
    obtain ⟨x, h1, h2⟩ := Option.map_eq_some_iff.mp h
    cases h2
    exact ⟨x, h1, rfl, rfl⟩
  have ok : PySem.PlainSeq "list" s.heap a (ts.map Value.ref).toArray ∧ PySem.PairItems s.heap (ts.map Value.ref).toArray Ts ps := by
    refine ⟨⟨o, n, ho, ho1, ho2, ho3⟩, by simp [psl], fun j k v hj => ?_⟩
    obtain ⟨x, h1, rfl, rfl⟩ := psx hj
    have hjl : j < ts.length := by rw [← lx]; exact (List.getElem?_eq_some_iff.mp h1).1
    have h3 := hTs hjl
    refine ⟨by simp [h3], .inl ?_⟩
    obtain ⟨o, g1, g2, n, g3⟩ := hx j _ x h3 h1
    exact ⟨o, g1, g2, n, g3⟩
  have key : ∀ x ∈ xs, (tupleKind (mixKind X.prog X.w)).is s.heap x.1 x.2.1 := fun x hx => by
    obtain ⟨i, h1⟩ := List.mem_iff_getElem?.mp hx
    obtain ⟨p, h2, h3⟩ := pd_left pr i x h1
    refine key_of I.hok ?_
    rw [← h3.1]
    exact h3.2.1
  have ndx : (xs.map (·.1)).Nodup := by
    have : ks.map (·.1) = xs.map (·.1) := by
      clear hi hn hl hx lx hTs psl psx ok key q
      induction pr with
      | nil => rfl
      | cons r _ ih => rw [List.map_cons, List.map_cons, r.1, ih]
    rw [← this]
    exact hn
  refine PySem.call_dict_pairsH (knd := tupleKind (mixKind X.prog X.w)) (ps := xs) (PySem.PairArg.list a (ts.map Value.ref).toArray Ts ps) (I.ok.hd hc) (by show X.A.units + 1 + 1 < cLine; omega) ok ⟨by rw [psl, lx], fun i k v hr => ?_⟩ (fun h' hk x hx => ?_) (by rw [psl]; exact hz) fun h' tk hd' hk => ?_
  · obtain ⟨x, h1, rfl, rfl⟩ := psx (show ps[i]? = some (k, v) from hr)
    exact ⟨x.1, x.2.1, h1, rfl⟩
  · obtain ⟨o, its, n, h1, h2, h3, h4⟩ := key x hx
    exact ⟨o, its, n, hk _ _ (Nat.ne_of_lt (Heap.lt_size h1)) (by simp) h1, h2, h3, h4⟩
  · have hm : (s.heap.objs.size == sysModules) = false := beq_eq_false_iff_ne.mpr (Nat.ne_of_gt I.big)
    rw [stored_nd xs [] (by simpa using ndx), List.nil_append] at hd'
    obtain ⟨o, es, ep, g1, g2, g3, g4, g5, g6⟩ := hd'
    refine ⟨.ref s.heap.objs.size, upd H s.heap.objs.size (.dT ks), I.laid (t' := tk) (fun b u e => hk b u (by simp) e) (Nat.le_refl _) ⟨by rw [← hl]; exact hz, hm, xs, pd_imp (fun p q z => ⟨z.1, ?_, z.2.2⟩) pr, o, es, ep, g1, g2, g3, g4, g6⟩, rfl, q _ (I.hok.fresh (Nat.le_refl _))⟩
    rw [upd_ne (ne_of_none z.2.1 (I.hok.fresh (Nat.le_refl _)))]
    exact z.2.1
section
variable {X : Cx} {e : Expr} {ρ : Rho} {μ : Mu} {pos p2 : Pos}
theorem pairs_ix {K : PySem.W.Frag} {H : Hp} : ∀ {vs : List V} {kvs : List (List Key × P)}, RepL K H vs (kvs.map fun q => .tup [keyP q.1, q.2]) → ∃ (ts : List Addr) (ks : List (List Key × V)), vs = ts.map .ref ∧ ts.length = ks.length ∧ Paired (fun p q => p.1 = q.1 ∧ Rep K H p.2 q.2) ks kvs ∧
    ∀ (i : Nat) (t : Addr) (q : List Key × V), ts[i]? = some t → ks[i]? = some q → ∃ b, H b = some (.tup (q.1.map kV)) ∧ H t = some (.tup [.ref b, q.2])
  | [], [], _ => ⟨[], [], rfl, rfl, .nil, fun i t q h => by simp at h⟩
  | _ :: _, [], r => by cases r
  | [], _ :: _, r => by cases r
  | v :: vs, q :: kvs, r => by
    cases r with
    | cons r rs =>
      obtain ⟨ts, ks, rfl, hl, pr, hi⟩ := pairs_ix rs
      obtain ⟨t, ws, rfl, ht, rw⟩ := Rep.tup_inv r
      cases rw with
      | cons r1 rw =>
        cases rw with
        | cons r2 rw =>
          cases rw
          obtain ⟨b, rfl, hb⟩ := rep_keyT r1
          refine ⟨t :: ts, (q.1, _) :: ks, rfl, by simp [hl], .cons ⟨rfl, r2⟩ pr, fun i t' q' h1 h2 => ?_⟩
          cases i with
          | zero =>
            simp at h1 h2
            subst h1
            subst h2
            exact ⟨b, hb, ht⟩
          | succ i => exact hi i t' q' (by simpa using h1) (by simpa using h2)
/-- dict([(key, value), ..]), each key once -/
theorem ev_dictT {kvs : List (List Key × P)} (hu : X.A.units + 64 < cLine) (hm : X.mg "dict" = none) (h : EV X e ρ μ (.sh (.lst (kvs.map fun q => .tup [keyP q.1, q.2])))) (hn : (kvs.map (·.1)).Nodup) (hc : X.calm = true := by rfl) (hg : Gl X "dict" := by rfl) (hs : starEach [e] X.env = (false, eval e X.env) :: starEach [] X.env := by rfl) : EV X (.Call (.Name "dict" p2) [e] [] pos) ρ μ (.sh (.dT kvs)) :=
  ev_callTy (call_dictT hc hu) hg hm bo_dict (ea_cons h ea_nil hs) (fun Q q ad Hb H vs W r0 Q' g => by
    obtain ⟨v, rfl, r⟩ := vals1 r0
    obtain ⟨a, ws, rfl, hq, r⟩ := Rep.lst_inv r
    obtain ⟨ts, ks, rfl, hl, pr, hi⟩ := pairs_ix r
    refine ⟨a, ts, ks, rfl, W.sqL hq, hl, fun i t q h1 h2 => ?_, by rw [pd_fst pr]; exact hn, fun p hp => ?_⟩
    · obtain ⟨b, h3, h4⟩ := hi i t q h1 h2
      exact ⟨b, W.tup h3, W.tup h4⟩
    · obtain ⟨W2, s2⟩ := W.alloc (o := .dT ks) hp
      exact g _ (.sh (.dT kvs)) _ _ _ _ q s2 W2 (.dT upd_same (pd_fst pr) fun i v x h1 h2 => Rep.mono s2.ex (pd_get pr i v x h1 h2).2)) (by decide) (by decide) hs rfl
end
end PV

/-! The end: a law's contract, its guards known, where the caller stands. -/
namespace PV
open PySem PySem.Spec PyProof.Rows L2
theorem rep_nums {K : PySem.W.Frag} {H : Hp} : ∀ ns : List Int, RepL K H (ns.map V.int) (ns.map P.int)
  | [] => .nil
  | n :: ns => .cons (.int n) (rep_nums ns)
/-- the world of the script alone -/
theorem sp_law {K : PySem.W.Frag} {S : PSpec} {H : Hp} {a : Addr} {ns : List Int} {E : XK} (hO : Only H) (hS : SqL K H a (ns.map V.int)) (h : S [.sh (.scr (ns.map .int))] [] fun z _ => z = .sh (.bl true)) : spOf K S [.ref a] H (fun v _ => v = .bl true) E := by
  have W : Wd K [] H H [] := ⟨rfl, fun b u e => Std.of e, fun j b c e => by simp at e, fun i j b c d e => by simp at e, fun b e => by simp at e⟩
  have r := rep_nums (K := K) (H := H) ns
  refine ⟨[], H, [], [.sh (.scr (ns.map .int))], fun z _ => z = .sh (.bl true), W, .cons (show Rep K H (.ref a) (.scr (ns.map .int)) from .scr hS r.length (pd_get r)) .nil, h, fun v z μ' ad' Hb' H' hz _ _ rv => ?_⟩
  subst hz
  exact Rep.bl_inv rv
theorem law_callG {P : Program} {w : World} {K : PySem.W.Frag} {mg mb : Str → Option Value} {k : Nat} {fa a : Addr} {x : Str} {S : PSpec} {s₁ : Shared} {vs : List Value} {ns : List Int} (KX : K.In s₁.heap) (hns : s₁.heap.Ns mainGlobals mg) (hb : s₁.heap.Ns builtinsNs mb) (hbb : ∀ x : Str, x ≠ "__name__" → mb x = bootBuiltins x)
    (hlim : s₁.heap.NoLimit) (hg : s₁.gens = #[]) (ha : s₁.heap.get? a = some { cls := .type "list", data := .seq vs.toArray }) (hi : IntsAre vs ns) (hl : ns.length ≤ sizeLine) (hr : Room k callerA) (hm : mg x = some (.ref fa))
    (C : ∀ base : Heap, K.In base → base.Ns mainGlobals mg → Ct true P w K mg base k x S) (hS : S [.sh (.scr (ns.map .int))] [] fun z _ => z = .sh (.bl true)) :
    codeAny (model P w) callerA (.call (.ref fa) ⟨[.ref a], []⟩) (fun r s' => r = .ok (.ret (.bool true)) ∧ OldK s₁.heap s'.heap ∧ s'.os = s₁.os ∧ AllBare s'.gens) s₁ := by
  have rv := vals_ints hi
  have lenV := hi.length
  have core : ∀ H : Hp, Only H → SqL K H a (ns.map V.int) → HOk P w H s₁.heap → (∀ b, H b ≠ none → b = a) → (H a ≠ none → K.lookup a = none) →
      codeAny (model P w) callerA (.call (.ref fa) ⟨[.ref a], []⟩) (fun r s' => r = .ok (.ret (.bool true)) ∧ OldK s₁.heap s'.heap ∧ s'.os = s₁.os ∧ AllBare s'.gens) s₁ := by
    intro H hO hq hok hA hK
    have base_of : ∀ {b : Addr} {o : Obj}, s₁.heap.get? b = some o → H b = none → (hidT s₁.heap H).get? b = some o := fun e n => hidT_get e n
    have noA : ∀ {b : Addr} {o : Obj} {es : Array DictEntry} {ep : Nat}, s₁.heap.get? b = some o → o.data = .dict es ep → H b = none := fun {b o es ep} e d => by
      cases q : H b with
      | none => rfl
      | some u =>
        obtain rfl : b = a := hA b (by rw [q]; simp)
        rw [ha] at e
        cases e
        cases (show Data.seq vs.toArray _ = Data.dict es ep from d)
    have nsK : ∀ {b : Addr} {m : Str → Option Value}, s₁.heap.Ns b m → (hidT s₁.heap H).Ns b m := fun {b m} ⟨o, es, ep, e, d, r⟩ => ⟨o, es, ep, base_of e (noA e d), d, r⟩
    have hKb : K.In (hidT s₁.heap H) := fun b o e => base_of (KX b o e) (by
      cases q : H b with
      | none => rfl
      | some u =>
        obtain rfl : b = a := hA b (by rw [q]; simp)
        rw [hK (by rw [q]; simp)] at e
        cases e)
    have hM : Mod K mg (hidT s₁.heap H) := ⟨hKb, nsK hns, ⟨mb, nsK hb, hbb⟩, let ⟨mc, h1, h2⟩ := hlim; ⟨mc, nsK h1, h2⟩⟩
    have e0 : Env0 P w K mg (hidT s₁.heap H) callerA [] s₁ H := ⟨rfl, hM, fun b o e => of_hidT e, Nat.le_of_eq (hidT_size _ _), trivial, fun b hb => absurd (show b ∈ ([] : List Addr) from hb) (by simp), hok, .of_eq hg⟩
    obtain ⟨f, fd, ps, h1, _, h3, h4⟩ := (C _ hKb (nsK hns)).ok
    rw [hm] at h1
    cases h1
    have sp := sp_law (S := S) (E := fun _ _ _ => False) hO hq hS
    have b1 := h3 s₁ [.ref a] KX (by rw [List.append_nil]; exact h4.num sp)
    rw [List.append_nil] at b1
    refine codeAny_mono (h4.go (A := callerA) (outer := []) (vs := [.ref a]) (us := [.ref a]) ⟨hr, fun _ => rfl⟩ e0 b1 (.cons rfl .nil) sp) fun r s' h => ?_
    cases r with
    | error e => exact (show False from h).elim
    | ok fl =>
      cases fl with
      | ret u =>
        obtain ⟨v, H', os, bare, un, hok', r', q⟩ := h
        obtain rfl : v = .bl true := q
        obtain rfl : u = Value.bool true := r'
        refine ⟨rfl, OldK.of_keep fun b o e => ?_, os, bare⟩
        cases q : H b with
        | none => exact un.keep b o e q (by intro z; exact absurd (show b ∈ ([] : List Addr) from z) (by simp)) (by simp)
        | some u =>
          rcases hO b with z | ⟨ob, xs, z⟩
          · rw [q] at z
            cases z
          · obtain ⟨e1, _⟩ := hok b _ z
            obtain ⟨e2, _⟩ := hok' b _ (un.frzs b ob _ z)
            rw [e] at e1
            cases e1
            exact e2
      | _ => exact (show False from h).elim
  cases hk : K.lookup a with
  | some o =>
    have e := KX a o hk
    rw [ha] at e
    cases e
    exact core (fun _ => none) (fun _ => .inl rfl) (.inr ⟨_, vs.toArray, _, hk, rfl, rfl, rfl, by rw [List.size_toArray, lenV]; exact hl, by simpa using rv⟩) (fun b u z => nomatch (show (none : Option HO) = some u from z)) (fun b z => absurd rfl z) fun z => absurd rfl z
  | none =>
    let o0 : Obj := { cls := .type "list", data := .seq vs.toArray }
    refine core (fun b => if b = a then some (.frz o0 (.lst (ns.map V.int))) else none) (fun b => ?_) (.inl (.inr ⟨o0, if_pos rfl⟩)) (fun b u z => ?_) (fun b z => ?_) fun _ => hk
    · by_cases h : b = a
      · exact .inr ⟨_, _, if_pos h⟩
      · exact .inl (if_neg h)
    · by_cases h : b = a
      · cases (if_pos h).symm.trans z
        subst h
        exact ⟨ha, by rw [List.length_map]; exact hl, vs, _, rv, ha⟩
      · cases (if_neg h).symm.trans z
    · by_cases h : b = a
      · exact h
      · exact absurd (if_neg h) z
/-- a law's row, from its contract over every base -/
theorem walk_ofG {l : PySem.W.OpenLaw} {n k : Nat} {q : Program} {loose : List Str} {XP : (Str → Option Value) → Heap → Prop} {YP : World → Heap → Prop} {d : DefRec} {S : PSpec} (hn : l.most = some n) (hn2 : n ≤ sizeLine) (hdf : d.params.defaults = []) (hr : Room k callerA)
    (F : ∀ (w : World) (mg : Str → Option Value) (fa : Addr) (h : Heap), YP w h → h.Ns mainGlobals mg → mg d.name = some (.ref fa) → ∃ K : PySem.W.Frag, K.In h ∧ ∀ base : Heap, K.In base → base.Ns mainGlobals mg → Ct true l.prog w K mg base k d.name S)
    (hS : ∀ ns : List Int, ns.length ≤ n → S [.sh (.scr (ns.map .int))] [] fun z _ => z = .sh (.bl true)) : PySem.W.WalkO q loose XP YP l.row.toRowW d [] (fun f vs => PySem.call f vs) := by
  refine Att.attach_call hn hdf fun w s₀ s₁ mg mb fa o pm cd doc a vs ns G Y ho hd hcd hmg hobj hints hlen hg => ?_
  obtain ⟨K, KX, hC⟩ := F w mg fa _ Y G.T.g hmg
  exact law_callG KX G.T.g G.T.b G.T.builtins G.T.nolimit hg hobj hints (Nat.le_trans hlen hn2) hr hmg hC (hS ns hlen)
end PV

namespace PV
open PySem PySem.Spec PyProof.Rows L2
def top (i : Nat) : Stmt := PySem.Challenge.pw_anyload_k81_whole_latest_plans.main.body.getD i (.Pass ⟨0, 0, 0, 0⟩)
abbrev s_is_list := top 4
abbrev s_is_whole := top 5
abbrev s_is_number := top 6
abbrev s_is_positive := top 7
abbrev s_are_numbers := top 16
abbrev s_is_arc := top 17
abbrev s_checked_arcs := top 18
abbrev s_order_of := top 21
abbrev s_net_init := inClass (top 22) 0
abbrev s_check_event := top 24
abbrev s_table_of := top 25
abbrev s_chain_of := top 27
abbrev s_checked_dues := top 29
abbrev s_latest_of := top 30
abbrev s_latest := top 31
abbrev s_starts_for := top 32
abbrev s_late_chain := top 33
abbrev s_slack := top 34
abbrev s_law_start := top 36
abbrev s_law_draw := top 37
abbrev s_law_pick := top 38
abbrev s_law_mixed := top 39
abbrev s_law_same := top 40
abbrev s_law_loose := top 41
abbrev s_law_n_net := top 42
abbrev s_law_n_links := top 43
abbrev s_law_n_table := top 44
abbrev s_law_n_asked := top 45
abbrev s_law_n_chain := top 46
abbrev s_law_n_dues := top 47
abbrev s_law_n_latest := top 48
abbrev s_law_is_late := top 49
abbrev s_law_dues_right := top 50
abbrev s_law := top 51
abbrev s_check_number := top 8
end PV

set_option maxHeartbeats 0
namespace PV
open PySem PySem.Spec PyProof.Rows L2
section
variable {g : Bool} {Pr : Program} {w : World} {K : PySem.W.Frag} {mg : Str → Option Value} {base : Heap} {f : Addr} {fd : FuncData}
def isListP : P → Bool
  | .lst _ => true
  | .tup _ => true
  | _ => false
def isWholeP : P → Bool
  | .int _ => true
  | _ => false
theorem sc_is_list : FnScope ["thing"] ["thing"] (defScope s_is_list) := ⟨rfl, rfl, rfl, by decide +kernel, rfl, by decide +kernel, by decide +kernel⟩
def F_is_list (zs : List P) (y : P) : Prop := ∃ x T, zs = [x] ∧ tyP x = some T ∧ y = .bl (isListP x)
theorem c_is_list (F : FnP K "is_list" "is_list" s_is_list f fd) (hm : mg "is_list" = some (.ref f)) (B : Bl mg) : Ct g Pr w K mg base 1 "is_list" (SF F_is_list) := by
  refine ct_pure F hm sc_is_list (fun _ _ _ _ _ _ us hl => match us, hl with | [_], _ => rfl) (by rintro _ _ ⟨x, T, rfl, _⟩; rfl) fun cdv A outer s H E hr zs y hF => ?_
  obtain ⟨x, T, rfl, hT, rfl⟩ := hF
  have r : ∃ b, PySem.W.kitAny K (.type T) (["list", "tuple"].map Value.type) = some b ∧ b = isListP x := by
    cases x <;> cases hT <;> exact ⟨_, rfl, rfl⟩
  obtain ⟨b, hk, rfl⟩ := r
  exact tss_one (tsp_retV (ev_isiT B.isinstance (ev_name 0) (ev_tup (ys := [.ty "list", .ty "tuple"]) (eas_cons (ev_ty B.list bo_list) (eas_cons (ev_ty B.tuple bo_tuple) eas_nil))) (cs := ["list", "tuple"]) hT hk) (.sh _))

theorem sc_is_whole : FnScope ["thing"] ["thing"] (defScope s_is_whole) := ⟨rfl, rfl, rfl, by decide +kernel, rfl, by decide +kernel, by decide +kernel⟩
def F_is_whole (zs : List P) (y : P) : Prop := ∃ x T, zs = [x] ∧ tyP x = some T ∧ y = .bl (isWholeP x)
theorem c_is_whole (F : FnP K "is_whole" "is_whole" s_is_whole f fd) (hm : mg "is_whole" = some (.ref f)) (B : Bl mg) : Ct g Pr w K mg base 1 "is_whole" (SF F_is_whole) := by
  refine ct_pure F hm sc_is_whole (fun _ _ _ _ _ _ us hl => match us, hl with | [_], _ => rfl) (by rintro _ _ ⟨x, T, rfl, _⟩; rfl) fun cdv A outer s H E hr zs y hF => ?_
  obtain ⟨x, T, rfl, hT, rfl⟩ := hF
  have r : ∃ b c, PySem.W.kitOne K (.type T) (.type "int") = some b ∧ PySem.W.kitOne K (.type T) (.type "bool") = some c ∧ (b && !c) = isWholeP x := by
    cases x <;> cases hT <;> exact ⟨_, _, rfl, rfl, rfl⟩
  obtain ⟨b, c, hb, hc, e⟩ := r
  rw [← e]
  exact tss_one (tsp_retV (ev_and (ev_isi B.isinstance (ev_name 0) (ev_ty B.int bo_int) hT hb) fun _ => ev_one (ev_not (ev_isi B.isinstance (ev_name 0) (ev_ty B.bool bo_bool) hT hc))) (.sh _))
def isNumP : P → Bool
  | .int i => decide (0 ≤ i)
  | _ => false
def isPosP : P → Bool
  | .int i => decide (1 ≤ i)
  | _ => false
theorem sc_is_number : FnScope ["thing"] ["thing"] (defScope s_is_number) := ⟨rfl, rfl, rfl, by decide +kernel, rfl, by decide +kernel, by decide +kernel⟩
def F_is_number (zs : List P) (y : P) : Prop := ∃ x T, zs = [x] ∧ tyP x = some T ∧ y = .bl (isNumP x)
theorem c_is_number (F : FnP K "is_number" "is_number" s_is_number f fd) (hm : mg "is_number" = some (.ref f)) (c1 : Ct g Pr w K mg base 1 "is_whole" (SF F_is_whole)) : Ct g Pr w K mg base 2 "is_number" (SF F_is_number) := by
  refine ct_pure F hm sc_is_number (fun _ _ _ _ _ _ us hl => match us, hl with | [_], _ => rfl) (by rintro _ _ ⟨x, T, rfl, _⟩; rfl) fun cdv A outer s H E hr zs y hF => ?_
  obtain ⟨x, T, rfl, hT, rfl⟩ := hF
  have e : isNumP x = (isWholeP x && isNumP x) := by cases x <;> rfl
  rw [e]
  refine tss_one (tsp_retV (ev_and (ev_call c1 hr (eas_cons (ev_name 0) eas_nil) ⟨x, T, rfl, hT, rfl⟩) fun h => ?_) (.sh _))
  cases x with
  | int i => exact ev_one (ev_ge (ev_name 0) ev_int)
  | _ => cases h
theorem sc_is_positive : FnScope ["thing"] ["thing"] (defScope s_is_positive) := ⟨rfl, rfl, rfl, by decide +kernel, rfl, by decide +kernel, by decide +kernel⟩
def F_is_positive (zs : List P) (y : P) : Prop := ∃ x T, zs = [x] ∧ tyP x = some T ∧ y = .bl (isPosP x)
theorem c_is_positive (F : FnP K "is_positive" "is_positive" s_is_positive f fd) (hm : mg "is_positive" = some (.ref f)) (c1 : Ct g Pr w K mg base 1 "is_whole" (SF F_is_whole)) : Ct g Pr w K mg base 2 "is_positive" (SF F_is_positive) := by
  refine ct_pure F hm sc_is_positive (fun _ _ _ _ _ _ us hl => match us, hl with | [_], _ => rfl) (by rintro _ _ ⟨x, T, rfl, _⟩; rfl) fun cdv A outer s H E hr zs y hF => ?_
  obtain ⟨x, T, rfl, hT, rfl⟩ := hF
  have e : isPosP x = (isWholeP x && isPosP x) := by cases x <;> rfl
  rw [e]
  refine tss_one (tsp_retV (ev_and (ev_call c1 hr (eas_cons (ev_name 0) eas_nil) ⟨x, T, rfl, hT, rfl⟩) fun h => ?_) (.sh _))
  cases x with
  | int i => exact ev_one (ev_ge (ev_name 0) ev_int)
  | _ => cases h
def itemsP : P → List P
  | .lst xs => xs
  | .tup xs => xs
  | _ => []
theorem sc_are_numbers : FnScope ["thing", "many", "number"] ["thing", "many"] (defScope s_are_numbers) := ⟨rfl, rfl, rfl, by decide +kernel, rfl, by decide +kernel, by decide +kernel⟩
def areNums (x : P) (m : Int) : Bool := isListP x && (decide (((itemsP x).length : Int) = m) && (itemsP x).all isNumP)
def F_are_numbers (zs : List P) (y : P) : Prop := ∃ x m T, zs = [x, .int m] ∧ tyP x = some T ∧ (∀ z ∈ itemsP x, ∃ T, tyP z = some T) ∧ (itemsP x).length ≤ 100000 ∧ y = .bl (areNums x m)
theorem c_are_numbers (F : FnP K "are_numbers" "are_numbers" s_are_numbers f fd) (hm : mg "are_numbers" = some (.ref f)) (B : Bl mg) (c1 : Ct g Pr w K mg base 1 "is_list" (SF F_is_list)) (c2 : Ct g Pr w K mg base 2 "is_number" (SF F_is_number)) :
    Ct g Pr w K mg base 3 "are_numbers" (SF F_are_numbers) := by
  refine ct_pure F hm sc_are_numbers (fun _ _ _ _ _ _ us hl => match us, hl with | [_, _], _ => rfl) (by rintro _ _ ⟨x, m, T, rfl, _⟩; rfl) fun cdv A outer s H E hr zs y hF => ?_
  obtain ⟨x, m, T, rfl, hT, hz, hl, rfl⟩ := hF
  have nx : isListP x = true → Sq x (itemsP x) := fun h => by
    cases x with
    | lst xs => exact .inl rfl
    | tup xs => exact .inr rfl
    | _ => cases h
  refine tss_one (tsp_retV (ev_and (ev_call c1 (hr.mono (by decide)) (eas_cons (ev_name 0) eas_nil) ⟨x, T, rfl, hT, rfl⟩) fun h => ?_) (.sh _))
  refine ev_and (ev_eqI (ev_lenS (nx h) B.len (ev_name 0)) (ev_name 1)) fun _ => ev_one ?_
  refine (ev_all (bs := (itemsP x).map isNumP) rfl B.all ((ev_lc0 (itemsP x) (fun z => z) (fun z => [some (.sh x), some (.sh (.int m)), some (.sh z)]) (fun z => .bl (isNumP z)) [2] [("number", 2)] rfl sc_are_numbers.nd (blkOk_by (by kernel_rfl)) (ei_seq (nx h) (ev_name 0)) hl (fun a _ => tgb_name 2 sc_are_numbers.nd (by decide) rfl rfl)
    fun a ha s H C cl fp => ?_).is (by rw [List.map_map]; rfl))).is (by rw [List.all_map]; rfl)
  obtain ⟨T, hT⟩ := hz a ha
  exact ev_call c2 hr (eas_cons (ev_name 2) eas_nil) ⟨a, T, rfl, hT, rfl⟩
theorem sc_is_arc : FnScope ["thing", "many"] ["thing", "many"] (defScope s_is_arc) := ⟨rfl, rfl, rfl, by decide +kernel, rfl, by decide +kernel, by decide +kernel⟩
/-- a, b, tokens, ticks -/
abbrev Arc := Nat × Nat × Nat × Nat
def arcL (a : Arc) : List P := [.int a.1, .int a.2.1, .int a.2.2.1, .int a.2.2.2]
def arcP (a : Arc) : P := .tup (arcL a)
def F_is_arc (zs : List P) (y : P) : Prop := ∃ x a n, zs = [x, .int (n : Nat)] ∧ Sq x (arcL a) ∧ a.1 < n ∧ a.2.1 < n ∧ y = .bl true
theorem c_is_arc (F : FnP K "is_arc" "is_arc" s_is_arc f fd) (hm : mg "is_arc" = some (.ref f)) (c1 : Ct g Pr w K mg base 3 "are_numbers" (SF F_are_numbers)) : Ct g Pr w K mg base 4 "is_arc" (SF F_is_arc) := by
  refine ct_pure F hm sc_is_arc (fun _ _ _ _ _ _ us hl => match us, hl with | [_, _], _ => rfl) (by rintro _ _ ⟨x, a, n, rfl, _⟩; rfl) fun cdv A outer s H E hr zs y hF => ?_
  obtain ⟨x, a, n, rfl, hx, h1, h2, rfl⟩ := hF
  have i1 : itemsP x = arcL a := by rcases hx with rfl | rfl <;> rfl
  have i2 : isListP x = true := by rcases hx with rfl | rfl <;> rfl
  have i3 : ∃ T, tyP x = some T := by rcases hx with rfl | rfl <;> exact ⟨_, rfl⟩
  obtain ⟨T, hT⟩ := i3
  have j1 : ∀ z ∈ itemsP x, ∃ T, tyP z = some T := by
    rw [i1]
    intro z hz
    simp only [arcL, List.mem_cons, List.not_mem_nil, or_false] at hz
    rcases hz with rfl | rfl | rfl | rfl <;> exact ⟨_, rfl⟩
  have j2 : (itemsP x).length ≤ 100000 := by rw [i1]; simp [arcL]
  have j3 : areNums x 4 = true := by
    unfold areNums
    rw [i1, i2]
    simp [arcL, isNumP]
  refine tss_one (tsp_retV (EV.is (ev_and (r := true) (ev_call c1 hr (eas_cons (ev_name 0) (eas_cons ev_int eas_nil)) ⟨x, 4, T, rfl, hT, j1, j2, rfl⟩) fun _ => EV.is (ev_and (r := true) (ev_lt (ev_ixS hx (ev_name 0) ev_int rfl) (ev_name 1)) fun _ => ev_one (EV.is (ev_lt (ev_ixS hx (ev_name 0) ev_int rfl) (ev_name 1)) (by simp [h2]))) (by simp [h1])) (by rw [j3]; rfl)) (.sh _))
end
end PV

namespace PV
open PySem PySem.Spec PyProof.Rows L2
section
variable {g : Bool} {Pr : Program} {w : World} {K : PySem.W.Frag} {mg : Str → Option Value} {base : Heap} {f : Addr} {fd : FuncData}
/-- x tells the arcs as, as lists or tuples -/
def LArcs (x : P) (as : List Arc) : Prop := ∃ ps, Sq x ps ∧ Paired (fun p a => Sq p (arcL a)) ps as
def InN (n : Nat) (as : List Arc) : Prop := ∀ a ∈ as, a.1 < n ∧ a.2.1 < n
theorem larcs_tup {ps : List P} {as : List Arc} (r : Paired (fun p a => Sq p (arcL a)) ps as) : ps.map (fun p => P.tup (itemsP p)) = as.map arcP := by
  induction r with
  | nil => rfl
  | cons h _ ih =>
    rw [List.map_cons, List.map_cons, ih]
    rcases h with rfl | rfl <;> rfl
theorem sc_checked_arcs : FnScope ["many", "arcs", "index", "thing", "arc"] ["many", "arcs"] (defScope s_checked_arcs) := ⟨rfl, rfl, rfl, by decide +kernel, rfl, by decide +kernel, by decide +kernel⟩
def F_checked_arcs (zs : List P) (y : P) : Prop := ∃ x as n, zs = [.int (n : Nat), x] ∧ LArcs x as ∧ InN n as ∧ as.length ≤ 1000 ∧ y = .lst (as.map arcP)
theorem c_checked_arcs (F : FnP K "checked_arcs" "checked_arcs" s_checked_arcs f fd) (hm : mg "checked_arcs" = some (.ref f)) (B : Bl mg) (c1 : Ct g Pr w K mg base 1 "is_list" (SF F_is_list)) (c2 : Ct g Pr w K mg base 4 "is_arc" (SF F_is_arc)) :
    Ct g Pr w K mg base 5 "checked_arcs" (SF F_checked_arcs) := by
  refine ct_pure F hm sc_checked_arcs (fun _ _ _ _ _ _ us hl => match us, hl with | [_, _], _ => rfl) (by rintro _ _ ⟨x, as, n, rfl, _⟩; rfl) fun cdv A outer s H E hr zs y hF => ?_
  obtain ⟨x, as, n, rfl, ⟨ps, hx, hp⟩, hn, hl, rfl⟩ := hF
  have i3 : ∃ T, tyP x = some T ∧ isListP x = true := by rcases hx with rfl | rfl <;> exact ⟨_, rfl, rfl⟩
  obtain ⟨T, hT, i2⟩ := i3
  have nd := sc_checked_arcs.nd
  refine tss_cons (tsp_ifE (et_not (et_val (ev_call c1 (hr.mono (by decide)) (eas_cons (ev_name 1) eas_nil) ⟨x, T, rfl, hT, rfl⟩))) (fun h => absurd h (by rw [i2]; decide)) fun _ => tss_nil ?_)
  refine tss_cons (tsp_forL (List.range ps.length) (fun i => .tup [.int (i : Nat), ps.getD i .non]) [2, 3] (fun i ρ2 μ2 => μ2 = [] ∧ ∃ u v, ρ2 = [some (.sh (.int (n : Nat))), some (.sh x), u, v, none]) (ei_enumS hx B.enumerate (ev_name 1)) ⟨rfl, none, none, rfl⟩ ?_ ?_)
  · rintro i j ρ2 μ2 e ⟨rfl, u, v, rfl⟩
    obtain ⟨hj, rfl⟩ := List.getElem?_eq_some_iff.mp e
    simp only [List.length_range] at hj
    simp only [List.getElem_range]
    obtain ⟨a, ha, hpa⟩ := pd_right hp i ps[i] (List.getElem?_eq_getElem hj)
    have eg : ps.getD i .non = ps[i] := by rw [List.getD_eq_getElem?_getD, List.getElem?_eq_getElem hj]; rfl
    rw [eg]
    have hv := hn a (List.mem_of_getElem? ha)
    refine tgp_names ["index", "thing"] [2, 3] nd (.inr rfl) rfl ?_
    refine tss_one (tsp_ifE (et_not (et_val (ev_call c2 hr (eas_cons (ev_name 3) (eas_cons (ev_name 0) eas_nil)) ⟨ps[i], a, n, rfl, hpa, hv.1, hv.2, rfl⟩))) (fun h => nomatch h) fun _ => tss_nil ⟨rfl, _, _, rfl⟩)
  · rintro ρ2 μ2 ⟨rfl, u, v, rfl⟩
    rw [← larcs_tup hp]
    refine tss_one (tsp_retV (ev_lc0 ps (fun z => z) (fun z => [some (.sh (.int (n : Nat))), some (.sh x), u, v, some (.sh z)]) (fun z => .tup (itemsP z)) [4] [("arc", 4)] rfl nd (blkOk_by (by kernel_rfl)) (ei_seq hx (ev_name 1)) ?_ (fun a _ => tgb_name 4 nd (by decide) rfl rfl) fun a ha s H C cl fp => ?_) (.sh _))
    · rw [hp.length]
      exact Nat.le_trans hl (by decide)
    · obtain ⟨i, hi⟩ := List.mem_iff_getElem?.mp ha
      obtain ⟨b, _, hb⟩ := pd_right hp i a hi
      refine ev_tuple B.tuple (ev_name 4) ?_
      rcases hb with rfl | rfl
      · exact .inl rfl
      · exact .inr rfl
end
end PV

namespace PV
open PySem PySem.Spec PyProof.Rows L2
section
variable {g : Bool} {Pr : Program} {w : World} {K : PySem.W.Frag} {mg : Str → Option Value} {base : Heap} {f : Addr} {fd : FuncData}
def freeOf (links : List Arc) (left : List Nat) : List Nat := left.filter fun e => !(links.any fun a => decide (a.1 ∈ left) && decide (a.2.1 = e))
def orderGo (links : List Arc) : Nat → List Nat → List Nat → Option (List Nat)
  | 0, _, found => some found
  | k + 1, left, found => if left.length = 0 then some found else if (freeOf links left).length = 0 then none else orderGo links k (left.filter fun e => !decide (e ∈ freeOf links left)) (found ++ freeOf links left)
def zeroArcs (as : List Arc) : List Arc := as.filter fun a => decide ((a.2.2.1 : Int) = 0)
def orderOf (n : Nat) (as : List Arc) : Option (List Nat) := orderGo (zeroArcs as) n (List.range n) []
def optP : Option (List Nat) → P
  | none => .non
  | some l => .lst (natsP l)
theorem sc_order_of : FnScope ["many", "arcs", "links", "left", "found", "held", "free", "arc", "one", "other", "tokens", "ticks", "event"] ["many", "arcs"] (defScope s_order_of) := ⟨rfl, rfl, rfl, by decide +kernel, rfl, by decide +kernel, by decide +kernel⟩
def F_order_of (zs : List P) (y : P) : Prop := ∃ n as, zs = [.int (n : Nat), .lst (as.map arcP)] ∧ n ≤ 1000 ∧ as.length ≤ 1000 ∧ y = optP (orderOf n as)
theorem filter_lt {α : Type} (p : α → Bool) : ∀ (l : List α), (l.filter p).length ≤ l.length := List.length_filter_le p
theorem natsP_app (a b : List Nat) : natsP a ++ natsP b = natsP (a ++ b) := by
  unfold natsP
  rw [List.map_append]
theorem c_order_of (F : FnP K "order_of" "order_of" s_order_of f fd) (hm : mg "order_of" = some (.ref f)) (B : Bl mg) : Ct g Pr w K mg base 1 "order_of" (SF F_order_of) := by
  refine ct_pure F hm sc_order_of (fun _ _ _ _ _ _ us hl => match us, hl with | [_, _], _ => rfl) (by rintro _ _ ⟨n, as, rfl, _⟩; rfl) fun cdv A outer s H E hr zs y hF => ?_
  obtain ⟨n, as, rfl, hn, hl, rfl⟩ := hF
  have nd := sc_order_of.nd
  have hu := hr.un
  refine tss_cons (tsp_parN ["links", "left", "found"] [2, 3, 4] nd (tap_consV (ev_lc1 as arcP (fun a => [some (.sh (.int (n : Nat))), some (.sh (.lst (as.map arcP))), none, none, none, none, none, some (.sh (arcP a)), none, none, none, none, none]) (fun a => decide ((a.2.2.1 : Int) = 0)) arcP [7] [("arc", 7)] rfl nd (blkOk_by (by kernel_rfl)) (ei_list (ev_name 1)) (Nat.le_trans hl (by decide)) (fun a _ => tgb_name 7 nd (by decide) rfl rfl)
    (fun a _ s H C cl fp => et_eqI (ev_ixT (ev_name 7) ev_int rfl) ev_int) (fun a _ _ s H C cl fp => ev_name 7))
    (tap_cons (tep_listRg B.list B.range (ev_name 0) (Nat.le_trans hn (by decide)) (tap_cons (tep_lstC (tap_nil ⟨by decide, tap_nil ⟨rfl, ?_⟩⟩)))))))
  refine tss_cons (tsp_whileP (fun m ρ2 μ2 => ∃ left found u v, orderGo (zeroArcs as) m left found = orderOf n as ∧ left.length ≤ m ∧ left.length ≤ 1000 ∧ found.length + left.length ≤ 2000 ∧ μ2 = [some (.lst ((natsP found).map .sh))] ∧
    ρ2 = [some (.sh (.int (n : Nat))), some (.sh (.lst (as.map arcP))), some (.sh (.lst ((zeroArcs as).map arcP))), some (.sh (.lst (natsP left))), some (.pt 0), u, v, none, none, none, none, none, none]) n ⟨List.range n, [], none, none, rfl, by simp, by simpa using hn, by simp; omega, rfl, rfl⟩ ?_)
  rintro m ρ2 μ2 ⟨left, found, u, v, he, h1, h2, h3, rfl, rfl⟩
  have hlen : (natsP left).length = left.length := by unfold natsP; rw [List.length_map]
  have e0 : decide ((0 : Int) < ((natsP left).length : Int)) = decide (left.length ≠ 0) := by
    rw [hlen]
    by_cases c : left.length = 0 <;> simp [c]
    omega
  refine ((et_gt (ev_len B.len (ev_name 3)) ev_int).is e0) _ ?_
  by_cases c : left.length = 0
  · rw [if_neg (by simp [c])]
    have e1 : orderOf n as = some found := by
      rw [← he]
      cases m with
      | zero => rfl
      | succ m => unfold orderGo; rw [if_pos c]
    rw [e1]
    exact tss_one (tsp_retV (ev_name 4) (Frz.lstS rfl))
  rw [if_pos (by simp [c])]
  cases m with
  | zero => omega
  | succ m =>
  unfold orderGo at he
  rw [if_neg c] at he
  -- held
  refine tss_cons (tsp_setV 5 nd (ev_dcK (zeroArcs as) arcP (fun a => decide (a.1 ∈ left)) (fun a => .inl (a.2.1 : Nat)) (fun _ => .bl true) (fun a => [some (.sh (.int (n : Nat))), some (.sh (.lst (as.map arcP))), some (.sh (.lst ((zeroArcs as).map arcP))), some (.sh (.lst (natsP left))), some (.pt 0), u, v, none, some (.sh (.int (a.1 : Nat))), some (.sh (.int (a.2.1 : Nat))), some (.sh (.int (a.2.2.1 : Nat))), some (.sh (.int (a.2.2.2 : Nat))), none])
    [("one", 8), ("other", 9), ("tokens", 10), ("ticks", 11)] [8, 9, 10, 11] (Nat.lt_of_succ_lt hu) rfl nd (blkOk_by (by kernel_rfl)) (ei_list (ev_name 2)) (Nat.le_trans (filter_lt _ _) (Nat.le_trans hl (by decide))) (fun a _ => tgb_tup ["one", "other", "tokens", "ticks"] [8, 9, 10, 11] nd (.inr rfl))
    (fun a _ => ttsb1 fun s H C cl fp => et_inN (ev_name 8) (ev_name 3)) (fun a _ _ s H C cl fp => ev_name 9) (fun a _ _ s H C cl fp => ev_bl)) ?_)
  generalize hd : ((zeroArcs as).filter fun a => decide (a.1 ∈ left)).foldl (fun d a => dput d (Sum.inl (a.2.1 : Int)) (P.bl true)) ([] : List (Key × P)) = held
  have hheld : ∀ e : Nat, (dget held (.inl (e : Int))).isSome = (zeroArcs as).any fun a => decide (a.1 ∈ left) && decide (a.2.1 = e) := by
    intro e
    rw [← hd, dget_foldl_some (fun a : Arc => (Sum.inl (a.2.1 : Int) : Key)) (fun _ => P.bl true), List.any_filter]
    have : dget ([] : List (Key × P)) (Sum.inl (e : Int)) = none := rfl
    rw [this]
    simp only [Option.isSome_none, Bool.false_or]
    refine congrArg (List.any _) (funext fun a => ?_)
    rw [show decide ((Sum.inl (a.2.1 : Int) : Key) = Sum.inl (e : Int)) = decide (a.2.1 = e) from decide_eq_decide.mpr ⟨fun h => by have := Sum.inl.inj h; omega, fun h => by rw [h]⟩]
  refine tss_cons (tsp_setV 6 nd ((ev_lc1 left (fun e => .int (e : Nat)) (fun e => [some (.sh (.int (n : Nat))), some (.sh (.lst (as.map arcP))), some (.sh (.lst ((zeroArcs as).map arcP))), some (.sh (.lst (natsP left))), some (.pt 0), some (.sh (.dK held)), v, none, none, none, none, none, some (.sh (.int (e : Nat)))])
    (fun e => !((zeroArcs as).any fun a => decide (a.1 ∈ left) && decide (a.2.1 = e))) (fun e => .int (e : Nat)) [12] [("event", 12)] rfl nd (blkOk_by (by kernel_rfl)) (ei_nats (ev_name 3)) (Nat.le_trans h2 (by decide)) (fun a _ => tgb_name 12 nd (by decide) rfl rfl)
    (fun e _ s H C cl fp => (et_dnotIn hu (ev_name 12) (ev_name 5) (DG.shK (k := .inl (e : Int)))).is (by rw [Option.isSome_map, hheld])) (fun a _ _ s H C cl fp => ev_name 12)).is (x := _) (y := .sh (.lst (natsP (freeOf (zeroArcs as) left)))) rfl) ?_)
  generalize hfr : freeOf (zeroArcs as) left = free at he ⊢
  have hfl : free.length ≤ left.length := by rw [← hfr]; exact filter_lt _ _
  have hfm : ∀ e ∈ free, e ∈ left := fun e he => by rw [← hfr] at he; exact (List.mem_filter.mp he).1
  have hlen2 : (natsP free).length = free.length := by unfold natsP; rw [List.length_map]
  refine tss_cons (tsp_ifE ((et_eqI (ev_len B.len (ev_name 6)) ev_int).is (y := decide (free.length = 0)) (by rw [hlen2]; by_cases c : free.length = 0 <;> simp [c])) (fun c0 => ?_) fun c0 => tss_nil ?_)
  · have c0 : free.length = 0 := of_decide_eq_true c0
    rw [if_pos c0] at he
    rw [← he]
    exact tss_one (tsp_retV ev_non (.sh _))
  have c0 : free.length ≠ 0 := of_decide_eq_false c0
  rw [if_neg c0] at he
  have hsum : left.length = free.length + (left.filter fun e => !decide (e ∈ free)).length := by
    rw [← hfr]
    unfold freeOf
    rw [filter_split (fun e => !((zeroArcs as).any fun a => decide (a.1 ∈ left) && decide (a.2.1 = e)))]
    congr 2
    refine List.filter_congr fun e he => ?_
    simp only [List.mem_filter, he, true_and]
    cases (zeroArcs as).any fun a => decide (a.1 ∈ left) && decide (a.2.1 = e) <;> rfl
  have hll : (left.filter fun e => !decide (e ∈ free)).length < left.length := by
    omega
  refine tss_cons (tsp_expr (tep_extend (ev_name 4) (ev_name 6) rfl (by rw [List.length_map, hlen2]; unfold natsP; rw [List.length_map]; omega) ?_))
  refine tss_one (tsp_setV 3 nd ((ev_lc1 left (fun e => .int (e : Nat)) (fun e => [some (.sh (.int (n : Nat))), some (.sh (.lst (as.map arcP))), some (.sh (.lst ((zeroArcs as).map arcP))), some (.sh (.lst (natsP left))), some (.pt 0), some (.sh (.dK held)), some (.sh (.lst (natsP free))), none, none, none, none, none, some (.sh (.int (e : Nat)))])
    (fun e => !decide (e ∈ free)) (fun e => .int (e : Nat)) [12] [("event", 12)] rfl nd (blkOk_by (by kernel_rfl)) (ei_nats (ev_name 3)) (Nat.le_trans h2 (by decide)) (fun a _ => tgb_name 12 nd (by decide) rfl rfl)
    (fun e _ s H C cl fp => et_notInN (ev_name 12) (ev_name 6)) (fun a _ _ s H C cl fp => ev_name 12)).is (x := _) (y := .sh (.lst (natsP (left.filter fun e => !decide (e ∈ free))))) rfl) ?_)
  refine ⟨m, Nat.lt_succ_self _, left.filter fun e => !decide (e ∈ free), found ++ free, _, _, he, by omega, by omega, ?_, ?_, rfl⟩
  · rw [List.length_append]
    omega
  · rw [← natsP_app, List.map_append]
    rfl
end
end PV

namespace PV
open PySem PySem.Spec PyProof.Rows L2
/-- the class Net as it stands behind the top -/
structure NetC (K : PySem.W.Frag) (C : Addr) : Prop where
  cls : Cls K C
  many : NoAttr K C "many"
  own : NoAttr K C "own_arcs"
  order : NoAttr K C "order"
  links : NoAttr K C "links"
  kept : NoAttr K C "kept"
def netP (C : Addr) (n : Nat) (as : List Arc) (ord : List Nat) (ls : List Arc) : P :=
  .obj C [("many", .int n), ("own_arcs", .lst (as.map arcP)), ("order", .lst (natsP ord)), ("links", .lst (ls.map arcP)), ("kept", .dT [])]
/-- what event e's start k is asked by, by a table -/
def askOf (ls : List Arc) (S : Nat → Nat → Int) (e k : Nat) : List Int := (ls.filter fun a => decide ((a.2.1 : Int) = e) && decide ((a.2.2.1 : Int) ≤ k)).map fun a => S a.1 (k - a.2.2.1) + a.2.2.2
def IsSol (n : Nat) (ls : List Arc) (S : Nat → Nat → Int) : Prop := ∀ e, e < n → ∀ k, S e k = maxL (0 :: askOf ls S e k)
/-- an order of the events in which links without tokens lead on -/
structure OrdOk (n : Nat) (ls : List Arc) (ord : List Nat) : Prop where
  nd : ord.Nodup
  mem : ∀ e, e ∈ ord ↔ e < n
  fw : ∀ i e a, ord[i]? = some e → a ∈ ls → a.2.1 = e → a.2.2.1 = 0 → a.1 ∈ ord.take i
section
variable {g : Bool} {Pr : Program} {w : World} {K : PySem.W.Frag} {mg : Str → Option Value} {base : Heap} {f : Addr} {fd : FuncData}
def rowP (S : Nat → Nat → Int) (m e : Nat) : P := .lst ((List.range m).map fun k => .int (S e k))
def tabP (n : Nat) (S : Nat → Nat → Int) (m : Nat) : P := .lst ((List.range n).map (rowP S m))
theorem sc_table_of : FnScope ["net", "many", "found", "k", "event", "asked", "a", "b", "t", "d"] ["net", "many"] (defScope s_table_of) := ⟨rfl, rfl, rfl, by decide +kernel, rfl, by decide +kernel, by decide +kernel⟩
def F_table_of (K : PySem.W.Frag) (zs : List P) (y : P) : Prop := ∃ C n as ord ls S m, zs = [netP C n as ord ls, .int (m : Nat)] ∧ NetC K C ∧ n ≤ 1000 ∧ m ≤ 1000 ∧ ls.length ≤ 1000 ∧ InN n ls ∧ OrdOk n ls ord ∧ IsSol n ls S ∧ y = tabP n S m
/-- a row that has come to m items -/
def rowC (S : Nat → Nat → Int) (m e : Nat) : Option Cell := some (.lst ((List.range m).map fun k => .sh (.int (S e k))))
theorem c_table_of (F : FnP K "table_of" "table_of" s_table_of f fd) (hm : mg "table_of" = some (.ref f)) (B : Bl mg) : Ct g Pr w K mg base 1 "table_of" (SF (F_table_of K)) := by
  refine ct_pure F hm sc_table_of (fun _ _ _ _ _ _ us hl => match us, hl with | [_, _], _ => rfl) (by rintro _ _ ⟨C, n, as, ord, ls, S, m, rfl, _⟩; rfl) fun cdv A outer s H E hr zs y hF => ?_
  obtain ⟨C, n, as, ord, ls, S, m, rfl, NC, hn, hm2, hls, hin, ho, hS, rfl⟩ := hF
  have nd := sc_table_of.nd
  refine tss_cons (tsp_setP 2 nd (tep_lcNew n (.lst []) (fun i => [some (.sh (netP C n as ord ls)), some (.sh (.int (m : Nat))), none, none, some (.sh (.int (i : Nat))), none, none, none, none, none]) [("event", 4)] [4] nd (blkOk_by (by kernel_rfl))
    (ei_range1 B.range (ev_attr (ev_name 0) NC.cls NC.many rfl) (by omega)) (by simp) (by omega) (fun i x μ2 hx => ?_) (fun i μ2 hi Q q s H C cl fp => tep_lstC (tap_nil ⟨by decide, q⟩)) ?_))
  · rw [List.getElem?_map] at hx
    cases e : (List.range (n : Int).toNat)[i]? with
    | none => rw [e] at hx; cases hx
    | some j =>
      rw [e] at hx
      cases hx
      obtain ⟨_, rfl⟩ := List.getElem?_eq_some_iff.mp e
      rw [List.getElem_range]
      exact tgb_name 4 nd (by decide) rfl rfl
  let base1 : Rho := [some (.sh (netP C n as ord ls)), some (.sh (.int (m : Nat))), some (.pt n)]
  let topC : List (Option Cell) := [some (.lst ((List.range n).map .pt))]
  refine tss_cons (tsp_forL (List.range m) (fun k => .int (k : Nat)) [3] (fun i ρ2 μ2 => (∃ u v x, ρ2 = base1 ++ [u, v, x, none, none, none, none]) ∧ μ2 = rowsM n (rowC S i) topC) (ei_range1 B.range (ev_name 1) (by omega)) ⟨⟨none, none, none, rfl⟩, rfl⟩ ?_ ?_)
  · rintro i k ρ2 μ2 hk ⟨⟨u, v, x, rfl⟩, rfl⟩
    obtain ⟨hi, rfl⟩ := List.getElem?_eq_some_iff.mp hk
    rw [List.getElem_range]
    simp only [List.length_range] at hi
    refine tgp_name 3 ?_ (by decide) nd rfl (.inr rfl) (.inl rfl)
    refine tss_one (tsp_forL ord (fun e => .int (e : Nat)) [4] (fun j ρ3 μ3 => (∃ v x, ρ3 = base1 ++ [some (.sh (.int (i : Nat))), v, x, none, none, none, none]) ∧ μ3 = rowsM n (fun e => rowC S (if e ∈ ord.take j then i + 1 else i) e) topC) (ei_nats (ev_attr (ev_name 0) NC.cls NC.order rfl)) ⟨⟨v, x, rfl⟩, ?_⟩ ?_ ?_)
    · refine rowsM_congr fun e _ => ?_
      simp
    · rintro j e ρ3 μ3 he ⟨⟨v, x, rfl⟩, rfl⟩
      have hen : e < n := (ho.mem e).mp (List.mem_of_getElem? he)
      have hen2 : e ∉ ord.take j := fun z => by
        obtain ⟨q, hq⟩ := List.mem_iff_getElem?.mp z
        have hqj : q < j := by
          have := (List.getElem?_eq_some_iff.mp hq).1
          rw [List.length_take] at this
          omega
        rw [List.getElem?_take_of_lt hqj] at hq
        have := (List.getElem?_inj (List.getElem?_eq_some_iff.mp hq).1 ho.nd).mp (hq.trans he.symm)
        omega
      refine tgp_name 4 ?_ (by decide) nd rfl (.inr rfl) (.inl rfl)
      have top0 : ∀ F : Nat → Option Cell, (rowsM n F topC)[n]? = some (some (.lst ((List.range n).map .pt))) := fun F => rowsM_top (rest := topC) 0
      have ptn : ∀ a, a < n → ((List.range n).map PV.E.pt)[a]? = some (.pt a) := fun a ha => by simp [ha]
      refine tss_cons (tsp_setL1 5 ls arcP (fun a => base1 ++ [some (.sh (.int (i : Nat))), some (.sh (.int (e : Nat))), x, some (.sh (.int (a.1 : Nat))), some (.sh (.int (a.2.1 : Nat))), some (.sh (.int (a.2.2.1 : Nat))), some (.sh (.int (a.2.2.2 : Nat)))])
        (fun a => decide ((a.2.1 : Int) = e) && decide ((a.2.2.1 : Int) ≤ i)) (fun a => .int (S a.1 (i - a.2.2.1) + a.2.2.2)) [6, 7, 8, 9] [("a", 6), ("b", 7), ("t", 8), ("d", 9)] nd (blkOk_by (by kernel_rfl)) (ei_list (ev_attr (ev_name 0) NC.cls NC.links rfl)) (Nat.le_trans hls (by decide))
        (fun a _ => tgb_tup ["a", "b", "t", "d"] [6, 7, 8, 9] nd (.inr rfl)) (fun a _ s H C cl fp => et_w (ew_and (et_eqI (ev_name 7) (ev_name 4)) fun _ => ew_and1 (et_le (ev_name 8) (ev_name 3)))) (fun a ha hp s H C cl fp => ?_) ?_)
      · simp only [Bool.and_eq_true, decide_eq_true_eq] at hp
        have han := (hin a ha).1
        have hlen : i - a.2.2.1 < (if a.1 ∈ ord.take j then i + 1 else i) := by
          by_cases c : a.1 ∈ ord.take j
          · rw [if_pos c]; omega
          · rw [if_neg c]
            have ht : a.2.2.1 ≠ 0 := fun z => c (ho.fw j e a he ha (by omega) z)
            omega
        exact ev_add (ev_ixC (ev_ixC (ev_name 2) (ev_name 6) (top0 _) (atI_of a.1 rfl (ptn _ han))) (ev_sub (ev_name 3) (ev_name 8)) (rowsM_get han) (atI_of (i - a.2.2.1) (by omega) (by rw [List.getElem?_map, List.getElem?_range hlen]; rfl))) (ev_name 9)
      · refine tss_one (tsp_expr (tep_append ((ev_ixC (ev_name 2) (ev_name 4) (top0 _) (atI_of e rfl (ptn _ hen))) _ ⟨e, _, rfl, rowsM_get hen, ?_⟩)))
        have e5 : (ls.filter fun a => decide ((a.2.1 : Int) = e) && decide ((a.2.2.1 : Int) ≤ i)).map (fun a => P.int (S a.1 (i - a.2.2.1) + a.2.2.2)) = (askOf ls S e i).map .int := by
          unfold askOf
          rw [List.map_map]
          rfl
        rw [e5]
        refine (ev_max rfl B.max (ns := 0 :: askOf ls S e i) ((ev_lst (ys := .int 0 :: ((askOf ls S e i).map .int ++ [])) (eas_cons ev_int (eas_star (ev_name 5) eas_nil)) ?_).is (by simp)) (by simp)) _ ⟨_, rowsM_get hen, ?_, ?_⟩
        · have := filter_lt (fun a : Arc => decide ((a.2.1 : Int) = e) && decide ((a.2.2.1 : Int) ≤ i)) ls
          simp only [List.append_nil, List.length_cons, List.length_map]
          unfold askOf
          rw [List.length_map]
          omega
        · rw [if_neg hen2]
          simp
          omega
        · refine ⟨⟨_, _, rfl⟩, ?_⟩
          rw [rowsM_set hen]
          refine rowsM_congr fun e2 he2 => ?_
          have tk : ord.take (j + 1) = ord.take j ++ [e] := by
            rw [List.take_add_one, he]
            rfl
          by_cases c : e2 = e
          · subst c
            rw [if_pos rfl, if_neg hen2, if_pos (by rw [tk]; simp)]
            unfold rowC
            rw [List.range_succ, List.map_append, ← hS e2 he2 i]
            rfl
          · rw [if_neg c, tk]
            simp [c]
    · rintro ρ3 μ3 ⟨⟨v, x, rfl⟩, rfl⟩
      refine ⟨⟨_, _, _, rfl⟩, rowsM_congr fun e he => ?_⟩
      rw [if_pos (by rw [List.take_length]; exact (ho.mem e).mpr he)]
  · rintro ρ2 μ2 ⟨⟨u, v, x, rfl⟩, rfl⟩
    rw [List.length_range]
    refine tss_one (tsp_retV (ev_name 2) (.lst (rowsM_top (rest := topC) 0) (by simp) fun i z x hz hx => ?_))
    obtain ⟨hi, rfl⟩ := List.getElem?_eq_some_iff.mp hz
    simp only [List.length_map, List.length_range] at hi
    simp only [List.getElem_map, List.getElem_range]
    rw [List.getElem?_map, List.getElem?_range hi] at hx
    cases hx
    refine Frz.lstS ((rowsM_get hi).trans ?_)
    unfold rowC
    rw [List.map_map]
    rfl
end
end PV

namespace PV
open PySem PySem.Spec PyProof.Rows L2
def selfArcs (n : Nat) : List Arc := (List.range n).map fun e => (e, e, 1, 0)
def arcI (a : Arc) : List Int := [(a.1 : Int), (a.2.1 : Int), (a.2.2.1 : Int), (a.2.2.2 : Int)]
theorem Frz.objS {μ : Mu} {j : Nat} {C : Addr} {gs : List (Str × P)} (h : μ[j]? = some (some (.obj C (gs.map fun p => (p.1, .sh p.2))))) : Frz μ (.pt j) (.obj C gs) := .obj h (by simp) fun i z x h1 h2 => by
  rw [List.getElem?_map, h2] at h1
  cases h1
  exact .sh x.2
section
variable {g : Bool} {Pr : Program} {w : World} {K : PySem.W.Frag} {mg : Str → Option Value} {base : Heap} {f : Addr} {fd : FuncData} {C : Addr}
theorem sc_net_init : FnScope ["self", "many", "arcs", "event"] ["self", "many", "arcs"] (defScope s_net_init) := ⟨rfl, rfl, rfl, by decide +kernel, rfl, by decide +kernel, by decide +kernel⟩
/-- what is passed is a net without a ring that has no tokens -/
def PreNet (zs : List P) : Prop := ∃ (x : P) (as : List Arc) (n : Nat) (ord : List Nat), zs = [.int (n : Nat), x] ∧ LArcs x as ∧ InN n as ∧ as.length + n < 64 ∧ (∀ a ∈ as, ∀ m ∈ arcI a, m < 1000) ∧ 1 ≤ n ∧ orderOf n as = some ord
def PostNet (C : Addr) (zs : List P) (y : P) : Prop := ∃ (x : P) (as : List Arc) (n : Nat) (ord : List Nat) (ls : List Arc), zs = [.int (n : Nat), x] ∧ LArcs x as ∧ orderOf n as = some ord ∧ ls.Perm (as ++ selfArcs n) ∧ y = netP C n as ord ls
theorem arcL_inj {a b : Arc} (h : arcL a = arcL b) : a = b := by
  obtain ⟨a1, a2, a3, a4⟩ := a
  obtain ⟨b1, b2, b3, b4⟩ := b
  simp only [arcL, List.cons.injEq, P.int.injEq, and_true] at h
  simp only [Prod.mk.injEq]
  omega
theorem sq_inj {x : P} {xs ys : List P} (h1 : Sq x xs) (h2 : Sq x ys) : xs = ys := by
  rcases h1 with rfl | rfl <;> rcases h2 with h | h <;> cases h <;> rfl
theorem larcs_inj {x : P} {as bs : List Arc} (h1 : LArcs x as) (h2 : LArcs x bs) : as = bs := by
  obtain ⟨ps, hx, r1⟩ := h1
  obtain ⟨qs, hy, r2⟩ := h2
  have e := sq_inj hx hy
  subst e
  clear hx hy
  induction r1 generalizing bs with
  | nil => cases r2; rfl
  | cons h _ ih =>
    cases r2 with
    | cons h2 t2 => rw [arcL_inj (sq_inj h h2), ih t2]
theorem post_net {C : Addr} {n : Nat} {x : P} {as : List Arc} {ord : List Nat} {y : P} (h : PostNet C [.int (n : Nat), x] y) (hx : LArcs x as) (ho : orderOf n as = some ord) : ∃ ls : List Arc, ls.Perm (as ++ selfArcs n) ∧ y = netP C n as ord ls := by
  obtain ⟨x2, as2, n2, ord2, ls, e, hx2, ho2, hp, rfl⟩ := h
  simp only [List.cons.injEq, P.int.injEq, and_true] at e
  obtain ⟨e1, rfl⟩ := e
  have e1 : n = n2 := by omega
  subst e1
  have e2 := larcs_inj hx hx2
  subst e2
  rw [ho] at ho2
  cases ho2
  exact ⟨ls, hp, rfl⟩
theorem c_net (M : Mk K C f) (F : FnP K "__init__" "Net.__init__" s_net_init f fd) (hm : mg "Net" = some (.ref C)) (B : Bl mg) (NC : NetC K C) (c1 : Ct false Pr w K mg base 2 "is_positive" (SF F_is_positive)) (c2 : Ct false Pr w K mg base 5 "checked_arcs" (SF F_checked_arcs)) (c3 : Ct false Pr w K mg base 1 "order_of" (SF F_order_of))
    : Mkr Pr w K mg base 6 "Net" C PreNet (PostNet C) := by
  have nd := sc_net_init.nd
  refine mkr_of M hm F sc_net_init (fun _ _ _ _ _ _ us hl => match us, hl with | [_, _, _], _ => rfl) (by rintro _ ⟨x, as, n, ord, rfl, _⟩; rfl) fun cdv A outer s H E hr zs pre => ?_
  obtain ⟨x, as, n, ord, rfl, hx, hin, hl, hb, hn, ho⟩ := pre
  refine tss_cons (tsp_ifE (et_not (et_val (ev_call c1 (hr.mono (by decide)) (eas_cons (ev_name 1) eas_nil) ⟨_, "int", rfl, rfl, rfl⟩))) (fun h => ?_) fun _ => tss_nil ?_)
  · have : isPosP (.int (n : Nat)) = true := decide_eq_true (by omega)
    rw [this] at h
    cases h
  refine tss_cons (tsp_seta ((ev_name 1) _ ((ev_name 0) _ ⟨0, C, [], rfl, rfl, NC.cls, NC.many, by decide, ?_⟩)))
  refine tss_cons (tsp_seta ((ev_call c2 hr (eas_cons (ev_name 1) (eas_cons (ev_name 2) eas_nil)) ⟨x, as, n, rfl, hx, hin, by omega, rfl⟩) _ ((ev_name 0) _ ⟨0, C, _, rfl, rfl, NC.cls, NC.own, Nat.lt_of_lt_of_le (putA_lt (k := 1) (by decide : 0 < 1)) (by decide), ?_⟩)))
  refine tss_cons (tsp_seta ((ev_call c3 (hr.mono (by decide)) (eas_cons (ev_name 1) (eas_cons (ev_attrC (ev_name 0) rfl NC.cls NC.own rfl) eas_nil)) ⟨n, as, rfl, by omega, by omega, rfl⟩) _ ((ev_name 0) _ ⟨0, C, _, rfl, rfl, NC.cls, NC.order, Nat.lt_of_lt_of_le (putA_lt (putA_lt (k := 1) (by decide : 0 < 1))) (by decide), ?_⟩)))
  rw [ho]
  refine tss_cons (tsp_ifE (et_isN (ev_attrC (y := .sh (.lst (natsP ord))) (ev_name 0) rfl NC.cls NC.order rfl)) (fun h => nomatch h) fun _ => tss_nil ?_)
  have hal : ∀ a ∈ as ++ selfArcs n, (arcI a).length = 4 ∧ ∀ m ∈ arcI a, 0 ≤ m ∧ m < 1000 := by
    intro a ha
    refine ⟨rfl, fun m hm => ⟨?_, ?_⟩⟩
    · simp only [arcI, List.mem_cons, List.not_mem_nil, or_false] at hm
      rcases hm with rfl | rfl | rfl | rfl <;> omega
    · rcases List.mem_append.mp ha with h | h
      · exact hb a h m hm
      · obtain ⟨e, he, rfl⟩ := List.mem_map.mp h
        have he := List.mem_range.mp he
        simp only [arcI, List.mem_cons, List.not_mem_nil, or_false] at hm
        rcases hm with rfl | rfl | rfl | rfl <;> omega
  refine tss_cons (tsp_seta (tep_sortT (as ++ selfArcs n) arcI 4 1000 (by decide) B.sorted ((ev_lst (ys := as.map arcP ++ ((selfArcs n).map arcP ++ [])) (eas_star (ev_attrC (ev_name 0) rfl NC.cls NC.own rfl) (eas_star ((ev_lc0 (List.range n) (fun e => .int (e : Nat))
    (fun e => [some (.pt 0), some (.sh (.int (n : Nat))), some (.sh x), some (.sh (.int (e : Nat)))]) (fun e => arcP (e, e, 1, 0)) [3] [("event", 3)] rfl nd (blkOk_by (by kernel_rfl)) (ei_range1 B.range (ev_name 1) (by omega)) (by simp; omega) (fun a _ => tgb_name 3 nd (by decide) rfl rfl) (fun e _ s H C cl fp => ev_tup (eas_cons (ev_name 3) (eas_cons (ev_name 3) (eas_cons ev_int (eas_cons ev_int eas_nil)))) (Nat.le_of_ble_eq_true rfl)) ).is (by unfold selfArcs; rw [List.map_map]; rfl)) eas_nil)) (by simp [selfArcs]; omega)).is
    (by rw [List.append_nil, ← List.map_append]; rfl)) (by simp [selfArcs]; exact hl) hal fun ls pm => ((ev_name 0) _ ⟨0, C, _, rfl, rfl, NC.cls, NC.links, Nat.lt_of_lt_of_le (putA_lt (putA_lt (putA_lt (k := 1) (by decide : 0 < 1)))) (by decide), ?_⟩)))
  refine tss_one (tsp_seta (ev_dT0 _ ((ev_name 0) _ ⟨0, C, _, rfl, rfl, NC.cls, NC.kept, Nat.lt_of_lt_of_le (putA_lt (putA_lt (putA_lt (putA_lt (k := 1) (by decide : 0 < 1))))) (by decide), _, ⟨x, as, n, ord, ls, rfl, hx, ho, pm, rfl⟩, Frz.objS rfl⟩)))
end
end PV

namespace PV
open PySem PySem.Spec PyProof.Rows L2
/-- event, number, tick -/
abbrev Due := Nat × Nat × Nat
def dueL (d : Due) : List P := [.int d.1, .int d.2.1, .int d.2.2]
def LDues (x : P) (ds : List Due) : Prop := ∃ ps, Sq x ps ∧ Paired (fun p d => Sq p (dueL d)) ps ds
def knownPut (d : DD) (u : Due) : DD := dput d (u.1, u.2.1) (min (u.2.2 : Int) ((dget d (u.1, u.2.1)).getD (u.2.2 : Int)))
def knownOf (ds : List Due) : DD := ds.foldl knownPut []
theorem knownPut_len (d : DD) (u : Due) : (knownPut d u).length ≤ d.length + 1 := dput_len _ _ _
theorem known_len : ∀ (ds : List Due) (d : DD), (ds.foldl knownPut d).length ≤ d.length + ds.length
  | [], d => Nat.le_refl _
  | u :: ds, d => by
    rw [List.foldl_cons, List.length_cons]
    have := known_len ds (knownPut d u)
    have := knownPut_len d u
    omega
section
variable {g : Bool} {Pr : Program} {w : World} {K : PySem.W.Frag} {mg : Str → Option Value} {base : Heap} {f : Addr} {fd : FuncData} {C : Addr}
theorem sc_checked_dues : FnScope ["net", "dues", "found", "index", "due", "event", "k", "tick"] ["net", "dues"] (defScope s_checked_dues) := ⟨rfl, rfl, rfl, by decide +kernel, rfl, by decide +kernel, by decide +kernel⟩
def F_checked_dues (K : PySem.W.Frag) (zs : List P) (y : P) : Prop := ∃ C n as ord ls x ds, zs = [netP C n as ord ls, x] ∧ NetC K C ∧ LDues x ds ∧ (∀ d ∈ ds, d.1 < n) ∧ ds.length ≤ 1000 ∧ y = .dT (ddP (knownOf ds))
theorem c_checked_dues (F : FnP K "checked_dues" "checked_dues" s_checked_dues f fd) (hm : mg "checked_dues" = some (.ref f)) (B : Bl mg) (c1 : Ct g Pr w K mg base 1 "is_list" (SF F_is_list)) (c2 : Ct g Pr w K mg base 3 "are_numbers" (SF F_are_numbers)) :
    Ct g Pr w K mg base 4 "checked_dues" (SF (F_checked_dues K)) := by
  refine ct_pure F hm sc_checked_dues (fun _ _ _ _ _ _ us hl => match us, hl with | [_, _], _ => rfl) (by rintro _ _ ⟨C, n, as, ord, ls, x, ds, rfl, _⟩; rfl) fun cdv A outer s H E hr zs y hF => ?_
  obtain ⟨C, n, as, ord, ls, x, ds, rfl, NC, ⟨ps, hx, hp⟩, hn, hl, rfl⟩ := hF
  have i3 : ∃ T, tyP x = some T ∧ isListP x = true := by rcases hx with rfl | rfl <;> exact ⟨_, rfl, rfl⟩
  obtain ⟨T, hT, i2⟩ := i3
  have nd := sc_checked_dues.nd
  have hu := hr.un
  refine tss_cons (tsp_ifE (et_not (et_val (ev_call c1 (hr.mono (by decide)) (eas_cons (ev_name 1) eas_nil) ⟨x, T, rfl, hT, rfl⟩))) (fun h => absurd h (by rw [i2]; decide)) fun _ => tss_nil ?_)
  refine tss_cons (tsp_setP 2 nd (tep_dTC ?_))
  refine tss_cons (tsp_forL (List.range ps.length) (fun i => .tup [.int (i : Nat), ps.getD i .non]) [3, 4] (fun i ρ2 μ2 => μ2 = [some (.dT (ddE ((ds.take i).foldl knownPut [])))] ∧ ∃ a b c d e, ρ2 = [some (.sh (netP C n as ord ls)), some (.sh x), some (.pt 0), a, b, c, d, e]) (ei_enumS hx B.enumerate (ev_name 1)) ⟨rfl, none, none, none, none, none, rfl⟩ ?_ ?_)
  · rintro i j ρ2 μ2 e ⟨rfl, a, b, c, d, e2, rfl⟩
    obtain ⟨hj, rfl⟩ := List.getElem?_eq_some_iff.mp e
    simp only [List.length_range] at hj
    simp only [List.getElem_range]
    obtain ⟨u, hu2, hpu⟩ := pd_right hp i ps[i] (List.getElem?_eq_getElem hj)
    have eg : ps.getD i .non = ps[i] := by rw [List.getD_eq_getElem?_getD, List.getElem?_eq_getElem hj]; rfl
    rw [eg]
    have hun := hn u (List.mem_of_getElem? hu2)
    have k1 : itemsP ps[i] = dueL u := by rcases hpu with h | h <;> rw [h] <;> rfl
    have k2 : isListP ps[i] = true := by rcases hpu with h | h <;> rw [h] <;> rfl
    have k3 : ∃ T, tyP ps[i] = some T := by rcases hpu with h | h <;> rw [h] <;> exact ⟨_, rfl⟩
    obtain ⟨T2, hT2⟩ := k3
    have j1 : ∀ z ∈ itemsP ps[i], ∃ T, tyP z = some T := by
      rw [k1]
      intro z hz
      simp only [dueL, List.mem_cons, List.not_mem_nil, or_false] at hz
      rcases hz with rfl | rfl | rfl <;> exact ⟨_, rfl⟩
    have j3 : areNums ps[i] 3 = true := by
      unfold areNums
      rw [k1, k2]
      simp [dueL, isNumP]
    have tk : ds.take (i + 1) = ds.take i ++ [u] := by rw [List.take_add_one, hu2]; rfl
    have hkl := known_len (ds.take i) []
    simp only [List.length_take, List.length_nil] at hkl
    generalize hdk : (ds.take i).foldl knownPut [] = dk at hkl ⊢
    refine tgp_names ["index", "due"] [3, 4] nd (.inr rfl) rfl ?_
    refine tss_cons (tsp_ifE (et_w (ew_or (et_not (et_val (ev_call c2 hr (eas_cons (ev_name 4) (eas_cons ev_int eas_nil)) ⟨ps[i], 3, T2, rfl, hT2, j1, by rw [k1]; simp [dueL], rfl⟩))) fun _ => ew_or1 (et_ge (ev_ixS hpu (ev_name 4) ev_int rfl) (ev_attr (ev_name 0) NC.cls NC.many rfl)))) (fun h => ?_) fun _ => tss_nil ?_)
    · rw [j3] at h
      simp at h
      omega
    refine tss_cons (tsp_asgA [5, 6, 7] (ev_name 4) (tgp_names ["event", "k", "tick"] [5, 6, 7] nd hpu rfl ?_))
    have key : ∀ {X : Cx} {ρ : Rho} {μ : Mu} {a b : Expr} {kk : Nat} {pos : Pos}, EV X a ρ μ (.sh (.int (u.1 : Nat))) → EV X b ρ μ (.sh (.int (u.2.1 : Nat))) → (starEach [a, b] X.env = (false, eval a X.env) :: starEach [b] X.env) → (starEach [b] X.env = (false, eval b X.env) :: starEach [] X.env) → EV X (.Tuple [a, b] kk pos) ρ μ (.sh (.tup ((prK (u.1, u.2.1)).map kP))) := fun h1 h2 h3 h4 =>
      ev_tup (ys := [.int (u.1 : Nat), .int (u.2.1 : Nat)]) (eas_cons h1 (eas_cons h2 eas_nil h4) h3)
    refine tss_one (tsp_dputT hu ((ev_min2 rfl B.min (ev_name 7) ((ev_dget2 hu (ev_name 2) (key (ev_name 5) (ev_name 6) rfl rfl) (ev_name 7) (DG.ptT (k := prK (u.1, u.2.1)) rfl) ⟨rfl, rfl, rfl, rfl⟩).is (y := .sh (.int ((dget dk (u.1, u.2.1)).getD (u.2.2 : Int)))) ?_)) _ ((ev_name 2) _ ((key (ev_name 5) (ev_name 6) rfl rfl) _ ⟨0, ddE dk, prK (u.1, u.2.1), rfl, rfl, rfl, by rw [ddE_len]; omega, ?_⟩))))
    · rw [ddE_get]
      cases dget dk (u.1, u.2.1) <;> rfl
    · refine ⟨?_, _, _, _, _, _, rfl⟩
      rw [tk, List.foldl_append, hdk, ddE_put]
      rfl
  · rintro ρ2 μ2 ⟨rfl, a, b, c, d, e, rfl⟩
    rw [List.length_range, hp.length, List.take_length]
    refine tss_one (tsp_retV (ev_name 2) (Frz.dTS ?_))
    rw [← ddE_P]
    rfl
end
end PV

namespace PV
open PySem PySem.Spec PyProof.Rows L2
abbrev LatF := Nat → Nat → Option Int
def latCand (ls : List Arc) (dues : DD) (L : LatF) (e k : Nat) : List Int := (ls.filter fun a => decide ((a.1 : Int) = e) && (L a.2.1 (k + a.2.2.1)).isSome).map (fun a => (L a.2.1 (k + a.2.2.1)).getD 0 - a.2.2.2) ++ (dget dues (e, k)).toList
def minO : List Int → Option Int
  | [] => none
  | n :: ns => some (minL (n :: ns))
def KKof (d : DD) : Nat := (maxL (-1 :: d.map fun q => (q.1.2 : Int)) + 1).toNat
/-- the latest starts: the greatest solution, as the way back tells it -/
structure IsLat (n : Nat) (ls : List Arc) (dues : DD) (L : LatF) : Prop where
  eq : ∀ e k, e < n → L e k = minO (latCand ls dues L e k)
  top : ∀ e k, KKof dues ≤ k → L e k = none
theorem kk_eq (d : DD) : maxL (-1 :: d.map fun q => (q.1.2 : Int)) = (KKof d : Int) - 1 := by
  have h := le_maxL (ns := -1 :: d.map fun q => (q.1.2 : Int)) (List.mem_cons_self ..)
  unfold KKof
  omega
theorem kk_le {d : DD} {m : Nat} (h : ∀ q ∈ d, q.1.2 < m) : KKof d ≤ m := by
  have h1 := maxL_mem (ns := -1 :: d.map fun q => (q.1.2 : Int)) (by simp)
  have h2 := kk_eq d
  rcases List.mem_cons.mp h1 with e | e
  · omega
  · obtain ⟨q, hq, e⟩ := List.mem_map.mp e
    have := h q hq
    omega
theorem ord_back {n : Nat} {ls : List Arc} {ord : List Nat} (ho : OrdOk n ls ord) (hin : InN n ls) {i e : Nat} {a : Arc} (hi : ord.reverse[i]? = some e) (ha : a ∈ ls) (h1 : a.1 = e) (h2 : a.2.2.1 = 0) : a.2.1 ∈ ord.reverse.take i := by
  have hb := (ho.mem a.2.1).mpr (hin a ha).2
  obtain ⟨ib, hib⟩ := List.mem_iff_getElem?.mp hb
  have he := ho.fw ib a.2.1 a hib ha rfl h2
  obtain ⟨ie, hie⟩ := List.mem_iff_getElem?.mp he
  have hlt : ie < ib := by
    have := (List.getElem?_eq_some_iff.mp hie).1
    rw [List.length_take] at this
    omega
  rw [List.getElem?_take_of_lt hlt, h1] at hie
  have lb := (List.getElem?_eq_some_iff.mp hib).1
  have li := (List.getElem?_eq_some_iff.mp hi).1
  rw [List.length_reverse] at li
  rw [List.getElem?_reverse li] at hi
  have hj := (List.getElem?_inj (by omega) ho.nd).mp (hi.trans hie.symm)
  refine List.mem_iff_getElem?.mpr ⟨ord.length - 1 - ib, ?_⟩
  rw [List.getElem?_take_of_lt (by omega), List.getElem?_reverse (by omega)]
  rw [show ord.length - 1 - (ord.length - 1 - ib) = ib by omega]
  exact hib
/-- the table of a function, its keys in order -/
def tblOf (n K : Nat) (L : LatF) : DD := (List.range n).flatMap fun e => (List.range K).filterMap fun k => (L e k).map fun v => ((e, k), v)
/-- what is found behind j rounds and i events of the next -/
structure LatI (n : Nat) (ord : List Nat) (L : LatF) (KK j i : Nat) (fd : DD) : Prop where
  nd : dnd fd
  len : fd.length ≤ j * n + i
  get : ∀ e k, dget fd (e, k) = if e < n ∧ (KK - j ≤ k ∨ (k + j + 1 = KK ∧ e ∈ ord.reverse.take i)) then L e k else none
theorem lat_cand {n : Nat} {ls : List Arc} {ord : List Nat} {dues : DD} {L : LatF} {KK j i e : Nat} {fd : DD} (I : LatI n ord L KK j i fd) (ho : OrdOk n ls ord) (hin : InN n ls) (hj : j < KK) (he : ord.reverse[i]? = some e) :
    (ls.filter fun a => decide ((a.1 : Int) = e) && (dget fd (a.2.1, KK - 1 - j + a.2.2.1)).isSome).map (fun a => (dget fd (a.2.1, KK - 1 - j + a.2.2.1)).getD 0 - (a.2.2.2 : Int)) ++ (dget dues (e, KK - 1 - j)).toList = latCand ls dues L e (KK - 1 - j) := by
  have key : ∀ a ∈ ls, a.1 = e → dget fd (a.2.1, KK - 1 - j + a.2.2.1) = L a.2.1 (KK - 1 - j + a.2.2.1) := fun a ha h => by
    have hc : KK - j ≤ KK - 1 - j + a.2.2.1 ∨ (KK - 1 - j + a.2.2.1 + j + 1 = KK ∧ a.2.1 ∈ ord.reverse.take i) := by
      by_cases c : a.2.2.1 = 0
      · exact .inr ⟨by omega, ord_back ho hin he ha h c⟩
      · exact .inl (by omega)
    rw [I.get, if_pos ⟨(hin a ha).2, hc⟩]
  unfold latCand
  congr 1
  have hf : (ls.filter fun a => decide ((a.1 : Int) = e) && (dget fd (a.2.1, KK - 1 - j + a.2.2.1)).isSome) = ls.filter fun a => decide ((a.1 : Int) = e) && (L a.2.1 (KK - 1 - j + a.2.2.1)).isSome := List.filter_congr fun a ha => by
    by_cases c : (a.1 : Int) = e
    · rw [key a ha (by omega)]
    · simp [c]
  rw [hf]
  refine List.map_congr_left fun a ha => ?_
  obtain ⟨h1, h2⟩ := List.mem_filter.mp ha
  simp only [Bool.and_eq_true, decide_eq_true_eq] at h2
  rw [key a h1 (by have := h2.1; omega)]
theorem lat_step {n : Nat} {ls : List Arc} {ord : List Nat} {dues : DD} {L : LatF} {KK j i e : Nat} {fd : DD} (I : LatI n ord L KK j i fd) (hL : IsLat n ls dues L) (ho : OrdOk n ls ord) (hj : j < KK) (he : ord.reverse[i]? = some e) :
    (latCand ls dues L e (KK - 1 - j) = [] → LatI n ord L KK j (i + 1) fd) ∧ (latCand ls dues L e (KK - 1 - j) ≠ [] → LatI n ord L KK j (i + 1) (dput fd (e, KK - 1 - j) (minL (latCand ls dues L e (KK - 1 - j))))) := by
  have hen : e < n := (ho.mem e).mp (List.mem_reverse.mp (List.mem_of_getElem? he))
  have heq := hL.eq e (KK - 1 - j) hen
  have tk : ord.reverse.take (i + 1) = ord.reverse.take i ++ [e] := by rw [List.take_add_one, he]; rfl
  have hni : e ∉ ord.reverse.take i := fun z => by
    obtain ⟨q, hq⟩ := List.mem_iff_getElem?.mp z
    have hqi : q < i := by
      have := (List.getElem?_eq_some_iff.mp hq).1
      rw [List.length_take] at this
      omega
    rw [List.getElem?_take_of_lt hqi] at hq
    have := (List.getElem?_inj (List.getElem?_eq_some_iff.mp hq).1 ((List.reverse_perm ord).nodup_iff.mpr ho.nd)).mp (hq.trans he.symm)
    omega
  have cond : ∀ e2 k, (e2 < n ∧ (KK - j ≤ k ∨ (k + j + 1 = KK ∧ e2 ∈ ord.reverse.take (i + 1)))) ↔ (e2 < n ∧ (KK - j ≤ k ∨ (k + j + 1 = KK ∧ e2 ∈ ord.reverse.take i))) ∨ (e2 = e ∧ k = KK - 1 - j) := fun e2 k => by
    rw [tk, List.mem_append, List.mem_singleton]
    constructor
    · rintro ⟨h1, h2 | ⟨h2, h3 | h3⟩⟩
      · exact .inl ⟨h1, .inl h2⟩
      · exact .inl ⟨h1, .inr ⟨h2, h3⟩⟩
      · exact .inr ⟨h3, by omega⟩
    · rintro (⟨h1, h2 | ⟨h2, h3⟩⟩ | ⟨rfl, rfl⟩)
      · exact ⟨h1, .inl h2⟩
      · exact ⟨h1, .inr ⟨h2, .inl h3⟩⟩
      · exact ⟨hen, .inr ⟨by omega, .inr rfl⟩⟩
  constructor
  · intro h0
    rw [h0] at heq
    refine ⟨I.nd, by have := I.len; omega, fun e2 k => ?_⟩
    rw [I.get]
    by_cases c : e2 = e ∧ k = KK - 1 - j
    · rw [c.1, c.2, heq]
      split <;> split <;> rfl
    · have : (e2 < n ∧ (KK - j ≤ k ∨ (k + j + 1 = KK ∧ e2 ∈ ord.reverse.take (i + 1)))) ↔ (e2 < n ∧ (KK - j ≤ k ∨ (k + j + 1 = KK ∧ e2 ∈ ord.reverse.take i))) := by
        rw [cond]
        exact ⟨fun z => z.resolve_right c, .inl⟩
      simp only [this]
  · intro h0
    have heq2 : L e (KK - 1 - j) = some (minL (latCand ls dues L e (KK - 1 - j))) := by
      rw [heq]
      cases q : latCand ls dues L e (KK - 1 - j) with
      | nil => exact absurd q h0
      | cons a b => rfl
    refine ⟨dput_nd I.nd _ _, by have := I.len; have := dput_len fd (e, KK - 1 - j) (minL (latCand ls dues L e (KK - 1 - j))); omega, fun e2 k => ?_⟩
    rw [dget_put]
    by_cases c : e2 = e ∧ k = KK - 1 - j
    · rw [c.1, c.2, if_pos rfl, if_pos ((cond _ _).mpr (.inr ⟨rfl, rfl⟩)), heq2]
    · rw [if_neg (fun z => c ⟨(congrArg Prod.fst z).symm, (congrArg Prod.snd z).symm⟩), I.get]
      have : (e2 < n ∧ (KK - j ≤ k ∨ (k + j + 1 = KK ∧ e2 ∈ ord.reverse.take (i + 1)))) ↔ (e2 < n ∧ (KK - j ≤ k ∨ (k + j + 1 = KK ∧ e2 ∈ ord.reverse.take i))) := by
        rw [cond]
        exact ⟨fun z => z.resolve_right c, .inl⟩
      simp only [this]
end PV

namespace PV
open PySem PySem.Spec PyProof.Rows L2
def prLt (p q : PR) : Prop := p.1 < q.1 ∨ (p.1 = q.1 ∧ p.2 < q.2)
theorem pr_uniq2 : ∀ {l m : List PR}, l.Pairwise prLt → m.Pairwise prLt → (∀ p, p ∈ l ↔ p ∈ m) → l = m
  | [], [], _, _, _ => rfl
  | [], y :: m, _, _, h => absurd ((h y).mpr (List.mem_cons_self ..)) (by simp)
  | x :: l, [], _, _, h => absurd ((h x).mp (List.mem_cons_self ..)) (by simp)
  | x :: l, y :: m, hl, hm, h => by
    have hl' := List.pairwise_cons.mp hl
    have hm' := List.pairwise_cons.mp hm
    have irr : ∀ p, ¬ prLt p p := fun p z => by unfold prLt at z; omega
    have e : x = y := by
      rcases List.mem_cons.mp ((h x).mp (List.mem_cons_self ..)) with e | e
      · exact e
      rcases List.mem_cons.mp ((h y).mpr (List.mem_cons_self ..)) with e2 | e2
      · exact e2.symm
      have h1 := hm'.1 x e
      have h2 := hl'.1 y e2
      unfold prLt at h1 h2
      omega
    subst e
    rw [pr_uniq2 hl'.2 hm'.2 fun p => ⟨fun hp => ?_, fun hp => ?_⟩]
    · rcases List.mem_cons.mp ((h p).mp (List.mem_cons_of_mem _ hp)) with e | e
      · subst e; exact absurd (hl'.1 p hp) (irr p)
      · exact e
    · rcases List.mem_cons.mp ((h p).mpr (List.mem_cons_of_mem _ hp)) with e | e
      · subst e; exact absurd (hm'.1 p hp) (irr p)
      · exact e
theorem sortP_lt {l : List PR} (h : l.Nodup) : (sortP l).Pairwise prLt := by
  have h1 := sortP_sorted l
  have h2 : (sortP l).Nodup := ((sortP_perm l).nodup_iff).mpr h
  refine (List.pairwise_and_iff.mpr ⟨h1, h2⟩).imp fun {a b} ⟨h3, h4⟩ => ?_
  unfold prLe at h3
  unfold prLt
  by_cases c : a.1 = b.1 ∧ a.2 = b.2
  · exact absurd (Prod.ext c.1 c.2) h4
  · omega
theorem tbl_mem {n K : Nat} {L : LatF} {p : PR} {v : Int} : (p, v) ∈ tblOf n K L ↔ p.1 < n ∧ p.2 < K ∧ L p.1 p.2 = some v := by
  unfold tblOf
  simp only [List.mem_flatMap, List.mem_range, List.mem_filterMap, Option.map_eq_some_iff, Prod.mk.injEq]
  constructor
  · rintro ⟨e, he, k, hk, w, hw, rfl, rfl⟩
    exact ⟨he, hk, hw⟩
  · rintro ⟨h1, h2, h3⟩
    exact ⟨p.1, h1, p.2, h2, v, h3, rfl, rfl⟩
theorem tbl_sorted (n K : Nat) (L : LatF) : ((tblOf n K L).map (·.1)).Pairwise prLt := by
  unfold tblOf
  rw [List.pairwise_map, List.pairwise_flatMap]
  refine ⟨fun e _ => ?_, ?_⟩
  · rw [List.pairwise_filterMap]
    refine List.pairwise_lt_range.imp fun {a b} h x hx y hy => ?_
    obtain ⟨_, _, rfl⟩ := Option.map_eq_some_iff.mp hx
    obtain ⟨_, _, rfl⟩ := Option.map_eq_some_iff.mp hy
    exact .inr ⟨rfl, h⟩
  · refine List.pairwise_lt_range.imp fun {a b} h x hx y hy => ?_
    obtain ⟨k, _, hx⟩ := List.mem_filterMap.mp hx
    obtain ⟨k2, _, hy⟩ := List.mem_filterMap.mp hy
    obtain ⟨_, _, rfl⟩ := Option.map_eq_some_iff.mp hx
    obtain ⟨_, _, rfl⟩ := Option.map_eq_some_iff.mp hy
    exact .inl h
theorem prLt_nd {l : List PR} (h : l.Pairwise prLt) : l.Nodup := h.imp fun {a b} z e => by
  subst e
  unfold prLt at z
  omega
theorem tbl_nd (n K : Nat) (L : LatF) : dnd (tblOf n K L) := prLt_nd (tbl_sorted n K L)
theorem tbl_get {n K : Nat} {L : LatF} {e k : Nat} (h1 : e < n) (h2 : k < K) : dget (tblOf n K L) (e, k) = L e k := by
  cases h : L e k with
  | some v => exact dget_of_mem (tbl_nd n K L) (tbl_mem.mpr ⟨h1, h2, h⟩)
  | none =>
    cases h3 : dget (tblOf n K L) (e, k) with
    | none => rfl
    | some v =>
      have := (tbl_mem.mp (dget_mem h3)).2.2
      rw [h] at this
      cases this
/-- a dict laid key by key, no key twice -/
theorem foldl_put_nd {κ α β : Type} [DecidableEq κ] (kf : α → κ) (vf : α → β) : ∀ (l : List α) (d : List (κ × β)), (∀ a ∈ l, ∀ q ∈ d, q.1 ≠ kf a) → (l.map kf).Nodup → l.foldl (fun d a => dput d (kf a) (vf a)) d = d ++ l.map fun a => (kf a, vf a)
  | [], d, _, _ => by simp
  | a :: l, d, h, nd => by
    have nd' := List.nodup_cons.mp nd
    have e : dput d (kf a) (vf a) = d ++ [(kf a, vf a)] := by
      unfold dput
      rw [if_neg]
      intro z
      obtain ⟨q, hq, hk⟩ := List.any_eq_true.mp z
      exact h a (List.mem_cons_self ..) q hq (of_decide_eq_true hk)
    rw [List.foldl_cons, e, foldl_put_nd kf vf l _ (fun b hb q hq => ?_) nd'.2]
    · simp
    · rcases List.mem_append.mp hq with z | z
      · exact h b (List.mem_cons_of_mem _ hb) q z
      · have := List.mem_singleton.mp z
        subst this
        exact fun z => nd'.1 (List.mem_map.mpr ⟨b, hb, z.symm⟩)
/-- what was found, sorted, is the table -/
theorem found_tbl {n : Nat} {ord : List Nat} {L : LatF} {KK : Nat} {fd : DD} (I : LatI n ord L KK KK 0 fd) (top : ∀ e k, KK ≤ k → L e k = none) : (sortP (fd.map (·.1))).map (fun p => (p, (dget fd p).getD 0)) = tblOf n KK L := by
  have hg : ∀ e k, dget fd (e, k) = if e < n then L e k else none := fun e k => by
    rw [I.get]
    by_cases c : e < n
    · rw [if_pos ⟨c, .inl (by omega)⟩, if_pos c]
    · rw [if_neg fun z => c z.1, if_neg c]
  have hk : sortP (fd.map (·.1)) = (tblOf n KK L).map (·.1) := by
    refine pr_uniq2 (sortP_lt I.nd) (tbl_sorted n KK L) fun p => ?_
    rw [(sortP_perm _).mem_iff, ← dget_key, ← dget_key]
    have e1 := hg p.1 p.2
    rw [show ((p.1, p.2) : PR) = p from rfl] at e1
    rw [e1]
    by_cases c : p.1 < n
    · rw [if_pos c]
      by_cases c2 : p.2 < KK
      · rw [show p = (p.1, p.2) from rfl, tbl_get c c2]
      · rw [top _ _ (by omega)]
        cases h : dget (tblOf n KK L) p with
        | none => rfl
        | some v => exact absurd (tbl_mem.mp (dget_mem h)).2.1 c2
    · rw [if_neg c]
      cases h : dget (tblOf n KK L) p with
      | none => rfl
      | some v => exact absurd (tbl_mem.mp (dget_mem h)).1 c
  rw [hk, List.map_map]
  refine (List.map_congr_left fun q hq => ?_).trans (List.map_id _)
  obtain ⟨h1, h2, h3⟩ := tbl_mem.mp (show (q.1, q.2) ∈ _ from hq)
  show (q.1, (dget fd q.1).getD 0) = q
  have e1 := hg q.1.1 q.1.2
  rw [show ((q.1.1, q.1.2) : PR) = q.1 from rfl, if_pos h1, h3] at e1
  rw [e1]
  rfl
end PV

namespace PV
open PySem PySem.Spec PyProof.Rows L2
section
variable {g : Bool} {Pr : Program} {w : World} {K : PySem.W.Frag} {mg : Str → Option Value} {base : Heap} {f : Addr} {fd : FuncData} {C : Addr}
theorem ev_prK {X : Cx} {ρ : Rho} {μ : Mu} {a b : Expr} {kk : Nat} {pos : Pos} {p : PR} (h1 : EV X a ρ μ (.sh (.int (p.1 : Nat)))) (h2 : EV X b ρ μ (.sh (.int (p.2 : Nat)))) (h3 : starEach [a, b] X.env = (false, eval a X.env) :: starEach [b] X.env := by rfl) (h4 : starEach [b] X.env = (false, eval b X.env) :: starEach [] X.env := by rfl) :
    EV X (.Tuple [a, b] kk pos) ρ μ (.sh (.tup ((prK p).map kP))) := ev_tup (ys := [.int (p.1 : Nat), .int (p.2 : Nat)]) (eas_cons h1 (eas_cons h2 eas_nil h4) h3)
theorem sc_latest_of : FnScope ["net", "dues", "found", "k", "event", "ticks", "number", "a", "b", "t", "d", "pair"] ["net", "dues"] (defScope s_latest_of) := ⟨rfl, rfl, rfl, by decide +kernel, rfl, by decide +kernel, by decide +kernel⟩
def F_latest_of (K : PySem.W.Frag) (zs : List P) (c : Option Cell) : Prop := ∃ C n as ord ls dues L, zs = [netP C n as ord ls, .dT (ddP dues)] ∧ NetC K C ∧ n ≤ 20 ∧ ls.length ≤ 1000 ∧ dues.length ≤ 1000 ∧ (∀ q ∈ dues, q.1.2 < 1000) ∧ InN n ls ∧ OrdOk n ls ord ∧ IsLat n ls dues L ∧ c = some (.dT (ddE (tblOf n (KKof dues) L)))
theorem c_latest_of (F : FnP K "latest_of" "latest_of" s_latest_of f fd) (hm : mg "latest_of" = some (.ref f)) (B : Bl mg) : Ct g Pr w K mg base 1 "latest_of" (SO (F_latest_of K)) := by
  refine ct_own F hm sc_latest_of (fun _ _ _ _ _ _ us hl => match us, hl with | [_, _], _ => rfl) (by rintro _ _ ⟨C, n, as, ord, ls, dues, L, rfl, _⟩; rfl) fun cdv A outer s H E hr zs c hF => ?_
  obtain ⟨C, n, as, ord, ls, dues, L, rfl, NC, hn, hls, hdl, hdk, hin, ho, hL, rfl⟩ := hF
  have nd := sc_latest_of.nd
  have hu := hr.un
  have hKK : KKof dues ≤ 1000 := kk_le hdk
  generalize hK : KKof dues = KK at hKK
  have hKm := kk_eq dues
  rw [hK] at hKm
  have hol : ord.length ≤ n := by
    have h1 : ord.Perm (List.range n) := (List.perm_ext_iff_of_nodup ho.nd List.nodup_range).mpr fun e => by rw [ho.mem, List.mem_range]
    rw [h1.length_eq, List.length_range]
    exact Nat.le_refl _
  let R : Option PV.E → Option PV.E → Option PV.E → Rho := fun u v x => [some (.sh (netP C n as ord ls)), some (.sh (.dT (ddP dues))), some (.pt 0), u, v, x, none, none, none, none, none, none]
  refine tss_cons (tsp_setP 2 nd (tep_dTC ?_))
  refine tss_cons (tsp_forL (List.range KK) (fun j => .int ((KK - 1 - j : Nat) : Int)) [3] (fun j ρ2 μ2 => (∃ u v x, ρ2 = R u v x) ∧ ∃ fd junk, μ2 = some (.dT (ddE fd)) :: junk ∧ LatI n ord L KK j 0 fd)
    (ei_rangeDown (i := (KK : Int) - 1) (j := -1) B.range ((ev_max rfl B.max (ns := -1 :: dues.map fun q => (q.1.2 : Int)) ((ev_cat (xs := [.int (-1)]) (ys := dues.map fun q => .int (q.1.2 : Int)) (ev_lst (eas_cons (ev_neg ev_int) eas_nil)) (ev_lc0 dues (fun q => prP q.1)
      (fun q => [some (.sh (netP C n as ord ls)), some (.sh (.dT (ddP dues))), some (.pt 0), none, some (.sh (.int (q.1.1 : Int))), none, some (.sh (.int (q.1.2 : Int))), none, none, none, none, none]) (fun q => .int (q.1.2 : Int)) [4, 6] [("event", 4), ("number", 6)] rfl nd (blkOk_by (by kernel_rfl)) (ei_keysT (ev_name 1)) (Nat.le_trans hdl (by decide))
      (fun a _ => tgb_tup ["event", "number"] [4, 6] nd (.inr rfl)) (fun a _ s H C cl fp => ev_name 6) (by unfold ddP; rw [List.map_map]; rfl)) (by simp; omega)).is (by rw [List.map_cons, List.map_map]; rfl)) (by simp)).is (by rw [hKm])) (ev_neg ev_int) (ev_neg ev_int) (by omega)) ⟨⟨none, none, none, rfl⟩, [], [], rfl, List.Pairwise.nil, Nat.zero_le _, fun e k => ?_⟩ ?_ ?_ ?_)
  · have e0 : dget ([] : DD) (e, k) = none := rfl
    rw [e0]
    split
    · rename_i h
      rcases h.2 with h2 | h2
      · exact (hL.top e k (by omega)).symm
      · simp at h2
    · rfl
  · rintro j j' ρ2 μ2 hj ⟨⟨u, v, x, rfl⟩, fd0, junk, rfl, I0⟩
    obtain ⟨hjK, rfl⟩ := List.getElem?_eq_some_iff.mp hj
    rw [List.getElem_range]
    simp only [List.length_range] at hjK
    refine tgp_name 3 ?_ (by decide) nd rfl (.inr rfl) (.inl rfl)
    generalize hk : KK - 1 - j = k
    refine tss_one (tsp_forL ord.reverse (fun e => .int (e : Nat)) [4] (fun i ρ3 μ3 => (∃ v x, ρ3 = R (some (.sh (.int (k : Nat)))) v x) ∧ ∃ fd junk, μ3 = some (.dT (ddE fd)) :: junk ∧ LatI n ord L KK j i fd)
      (ei_nats ((ev_revL (ev_attr (ev_name 0) NC.cls NC.order rfl)).is (by unfold natsP; rw [List.map_reverse]))) ⟨⟨v, x, rfl⟩, fd0, junk, rfl, I0⟩ ?_ ?_)
    · rintro i e ρ3 μ3 he ⟨⟨v, x, rfl⟩, fd1, junk1, rfl, I1⟩
      have hen : e < n := (ho.mem e).mp (List.mem_reverse.mp (List.mem_of_getElem? he))
      have hi : i < n := by
        have := (List.getElem?_eq_some_iff.mp he).1
        rw [List.length_reverse] at this
        omega
      have hcand := lat_cand (dues := dues) I1 ho hin hjK he
      have hstep := lat_step I1 hL ho hjK he
      rw [hk] at hcand hstep
      have hfl : fd1.length < 90000 := by
        have h1 := I1.len
        have h2 : j * n ≤ 1000 * 20 := Nat.mul_le_mul (by omega) hn
        omega
      refine tgp_name 4 ?_ (by decide) nd rfl (.inr rfl) (.inl rfl)
      -- ticks
      refine tss_cons (tsp_setL1C 5 ls arcP (fun a => [some (.sh (netP C n as ord ls)), some (.sh (.dT (ddP dues))), some (.pt 0), some (.sh (.int (k : Nat))), some (.sh (.int (e : Nat))), x, none, some (.sh (.int (a.1 : Nat))), some (.sh (.int (a.2.1 : Nat))), some (.sh (.int (a.2.2.1 : Nat))), some (.sh (.int (a.2.2.2 : Nat))), none])
        (fun a => decide ((a.1 : Int) = e) && (dget fd1 (a.2.1, k + a.2.2.1)).isSome) (fun a => .int ((dget fd1 (a.2.1, k + a.2.2.1)).getD 0 - (a.2.2.2 : Int))) [7, 8, 9, 10] [("a", 7), ("b", 8), ("t", 9), ("d", 10)] nd (blkOk_by (by kernel_rfl)) (ei_list (ev_attr (ev_name 0) NC.cls NC.links rfl)) (Nat.le_trans hls (by decide))
        (fun a _ => tgb_tup ["a", "b", "t", "d"] [7, 8, 9, 10] nd (.inr rfl)) (fun a _ s H C cl fp => et_w (ew_and (et_eqI (ev_name 7) (ev_name 4)) fun _ => ew_and1 ((et_din hu (ev_prK (p := (a.2.1, k + a.2.2.1)) (ev_name 8) (ev_addN (ev_name 3) (ev_name 9))) (ev_name 2) (DG.ptT (k := prK (a.2.1, k + a.2.2.1)) rfl)).is (by rw [ddE_get, Option.isSome_map]))))
        (fun a ha hp s H C cl fp => ?_) ?_)
      · simp only [Bool.and_eq_true] at hp
        obtain ⟨v0, hv0⟩ := Option.isSome_iff_exists.mp hp.2
        rw [hv0]
        exact ev_sub (ev_dgetC hu (ev_name 2) (ev_prK (p := (a.2.1, k + a.2.2.1)) (ev_name 8) (ev_addN (ev_name 3) (ev_name 9))) rfl (by rw [ddE_get, hv0]; rfl)) (ev_name 10)
      generalize hcs : (ls.filter fun a => decide ((a.1 : Int) = e) && (dget fd1 (a.2.1, k + a.2.2.1)).isSome) = fl at hcand
      have hfll : fl.length ≤ 1000 := by rw [← hcs]; exact Nat.le_trans (filter_lt _ _) hls
      have hcell : (List.map (fun a : Arc => P.int ((dget fd1 (a.2.1, k + a.2.2.1)).getD 0 - (a.2.2.2 : Int))) fl) = (fl.map fun a => (dget fd1 (a.2.1, k + a.2.2.1)).getD 0 - (a.2.2.2 : Int)).map .int := by
        rw [List.map_map]
        rfl
      rw [hcell]
      generalize hns : (fl.map fun a => (dget fd1 (a.2.1, k + a.2.2.1)).getD 0 - (a.2.2.2 : Int)) = ns at hcand
      have hnsl : ns.length ≤ 1000 := by rw [← hns, List.length_map]; exact hfll
      have jn : (some (Cell.dT (ddE fd1)) :: junk1 ++ [some (Cell.lst ((ns.map P.int).map .sh))])[(some (Cell.dT (ddE fd1)) :: junk1).length]? = some (some (Cell.lst ((ns.map P.int).map .sh))) := by
        rw [List.getElem?_append_right (Nat.le_refl _), Nat.sub_self]
        rfl
      refine tss_cons (tsp_expr (tep_extend (xs := (dget dues (e, k)).toList.map .int) (ev_name 5) (ev_if (et_din hu (ev_prK (p := (e, k)) (ev_name 4) (ev_name 3)) (ev_name 1) (DG.shT (k := prK (e, k)))) (fun h => ?_) fun h => ?_) jn ?_ ?_))
      · have h' : (dget dues (e, k)).isSome = true := by
          rw [← h, ddP_get, Option.isSome_map, Option.isSome_map]
        obtain ⟨v0, hv0⟩ := Option.isSome_iff_exists.mp h'
        rw [hv0]
        exact ev_lst (eas_cons (ev_dgetT hu (ev_name 1) (ev_prK (p := (e, k)) (ev_name 4) (ev_name 3)) (by rw [ddP_get, hv0]; rfl)) eas_nil)
      · have h' : dget dues (e, k) = none := by
          cases q : dget dues (e, k) with
          | none => rfl
          | some v => rw [ddP_get, q] at h; cases h
        rw [h']
        exact ev_lst eas_nil
      · rw [List.length_map, List.length_map, List.length_map]
        cases dget dues (e, k) <;> simp <;> omega
      have e7 : (ns.map P.int).map PV.E.sh ++ ((dget dues (e, k)).toList.map P.int).map .sh = ((latCand ls dues L e k).map P.int).map .sh := by
        rw [← hcand, ← List.map_append, ← List.map_append]
      rw [e7]
      refine tss_share ((some (Cell.dT (ddE fd1)) :: junk1).length) (zs := (latCand ls dues L e k).map P.int) (R := R (some (.sh (.int (k : Nat)))) (some (.sh (.int (e : Nat)))) (some (.sh (.lst ((latCand ls dues L e k).map .int))))) ?_ rfl ?_ ?_
      · rw [List.getElem?_set_self (by simp)]
      · intro i2 x2 hx2
        match i2, hx2 with
        | 0, h => exact .inl h
        | 1, h => exact .inl h
        | 2, h => exact .inl h
        | 3, h => exact .inl h
        | 4, h => exact .inl h
        | 5, h => cases h; exact .inr ⟨rfl, rfl⟩
        | i2 + 6, h => exact .inl h
      have hnum : ((latCand ls dues L e k).map P.int).length = (latCand ls dues L e k).length := List.length_map ..
      refine tss_one (tsp_ifE ((et_gt (ev_len B.len (ev_name 5)) ev_int).is (y := decide (latCand ls dues L e k ≠ [])) ?_) (fun h => ?_) fun h => tss_nil ?_)
      · rw [hnum]
        cases latCand ls dues L e k <;> simp
      · have h := of_decide_eq_true h
        refine tss_one (tsp_dputT hu ((ev_min rfl B.min (ev_name 5) h) _ ((ev_name 2) _ ((ev_prK (p := (e, k)) (ev_name 4) (ev_name 3)) _ ⟨0, ddE fd1, prK (e, k), rfl, rfl, rfl, by rw [ddE_len]; omega, ?_⟩))))
        rw [ddE_put]
        exact ⟨⟨_, _, rfl⟩, dput fd1 (e, k) (minL (latCand ls dues L e k)), _, rfl, hstep.2 h⟩
      · have h : latCand ls dues L e k = [] := Decidable.not_not.mp (of_decide_eq_false h)
        exact ⟨⟨_, _, rfl⟩, fd1, _, rfl, hstep.1 h⟩
    · rintro ρ3 μ3 ⟨⟨v, x, rfl⟩, fd1, junk1, rfl, I1⟩
      refine ⟨⟨_, _, _, rfl⟩, fd1, junk1, rfl, I1.nd, ?_, fun e k => ?_⟩
      · have := I1.len
        rw [List.length_reverse] at this
        rw [Nat.add_mul]
        omega
      · rw [I1.get]
        have iff : (e < n ∧ (KK - j ≤ k ∨ (k + j + 1 = KK ∧ e ∈ ord.reverse.take ord.reverse.length))) ↔ (e < n ∧ (KK - (j + 1) ≤ k ∨ (k + (j + 1) + 1 = KK ∧ e ∈ ord.reverse.take 0))) := by
          rw [List.take_length, List.mem_reverse, ho.mem]
          constructor
          · rintro ⟨h1, h2⟩
            exact ⟨h1, .inl (by omega)⟩
          · rintro ⟨h1, h2 | h2⟩
            · refine ⟨h1, ?_⟩
              by_cases c : KK - j ≤ k
              · exact .inl c
              · exact .inr ⟨by omega, h1⟩
            · simp at h2
        simp only [iff]
  · rintro ρ2 μ2 ⟨⟨u, v, x, rfl⟩, fd1, junk1, rfl, I1⟩
    rw [List.length_range] at I1
    have hkl : (fd1.map (·.1)).length ≤ 100000 := by
      rw [List.length_map]
      have h1 := I1.len
      have h2 : KK * n ≤ 1000 * 20 := Nat.mul_le_mul hKK hn
      omega
    have hsl : (sortP (fd1.map (·.1))).length ≤ 100000 := by rw [(sortP_perm _).length_eq]; exact hkl
    have hmem : ∀ p ∈ sortP (fd1.map (·.1)), ∃ v, dget fd1 p = some v := fun p hp => Option.isSome_iff_exists.mp (dget_key.mpr ((sortP_perm _).mem_iff.mp hp))
    have hres : ((((sortP (fd1.map (·.1))).filter fun _ => true).foldl (fun d p => dput d (prK p) (P.int ((dget fd1 p).getD 0))) ([] : List (List Key × P))).map fun q => (q.1, PV.E.sh q.2)) = ddE (tblOf n KK L) := by
      have e1 : (sortP (fd1.map (·.1))).filter (fun _ => true) = sortP (fd1.map (·.1)) := List.filter_eq_self.mpr fun _ _ => rfl
      have e2 : ((sortP (fd1.map (·.1))).map prK).Nodup := List.pairwise_map.mpr ((((sortP_perm _).nodup_iff).mpr I1.nd).imp fun {a b} h z => h (prK_inj a b z))
      rw [e1, foldl_put_nd prK _ _ [] (by simp) e2, ddE_P, ← found_tbl I1 (fun e k h => hL.top e k (by omega))]
      unfold ddP
      rw [List.nil_append, List.map_map, List.map_map, List.map_map]
      rfl
    refine tss_one (tsp_ret (tep_dcCT (sortP (fd1.map (·.1))) prP (fun _ => true) prK (fun p => .int ((dget fd1 p).getD 0)) (fun p => [some (.sh (netP C n as ord ls)), some (.sh (.dT (ddP dues))), some (.pt 0), u, v, x, none, none, none, none, none, some (.sh (prP p))]) [("pair", 11)] [11] (Nat.lt_of_succ_lt hu) rfl nd (blkOk_by (by kernel_rfl))
      (ei_list (xs := (sortP (fd1.map (·.1))).map prP) fun Q q => tep_sortD (fd1.map (·.1)) rfl B.sorted ((ev_name 2) _ ⟨.inr ⟨0, ddE fd1, rfl, rfl, ddE_keys fd1⟩, q⟩)) hsl (fun a _ => tgb_name 11 nd (by decide) rfl rfl) (fun a _ => ttsb0) (fun p hp _ s H C cl fp => ev_name 11) (fun p hp _ s H C cl fp => ?_) ?_))
    · obtain ⟨v0, hv0⟩ := hmem p hp
      rw [hv0]
      exact ev_dgetC (k := prK p) hu (ev_name 2) (ev_name 11) rfl (by rw [ddE_get, hv0]; rfl)
    · refine .inr ⟨_, .dT (ddE (tblOf n KK L)), rfl, rfl, ?_, ⟨ddP (tblOf n KK L), ddE_P _⟩⟩
      rw [hres, List.getElem?_append_right (Nat.le_refl _), Nat.sub_self]
      rfl
  · have e1 : ((KK : Int) - 1 - -1).toNat = KK := by omega
    rw [e1]
    refine List.map_congr_left fun j hj => ?_
    have := List.mem_range.mp hj
    rw [show ((KK - 1 - j : Nat) : Int) = (KK : Int) - 1 - (j : Nat) by omega]
end
end PV

namespace PV
open PySem PySem.Spec PyProof.Rows L2
theorem knownOf_spec (ds : List Due) : ∀ q ∈ knownOf ds, ∃ d ∈ ds, q.1 = (d.1, d.2.1) := by
  have go : ∀ (ds : List Due) (d0 : DD) (q), q ∈ ds.foldl knownPut d0 → q ∈ d0 ∨ (∃ r ∈ d0, r.1 = q.1) ∨ ∃ d ∈ ds, q.1 = (d.1, d.2.1) := by
    intro ds
    induction ds with
    | nil => exact fun d0 q h => .inl h
    | cons u ds ih =>
      intro d0 q h
      rw [List.foldl_cons] at h
      have keyIn : ∀ r ∈ knownPut d0 u, (∃ r2 ∈ d0, r2.1 = r.1) ∨ r.1 = (u.1, u.2.1) := fun r hr => by
        have h1 : r.1 ∈ (knownPut d0 u).map (·.1) := List.mem_map.mpr ⟨r, hr, rfl⟩
        unfold knownPut at h1
        rw [dput_keys] at h1
        split at h1
        · obtain ⟨r2, h2, h3⟩ := List.mem_map.mp h1
          exact .inl ⟨r2, h2, h3⟩
        · rcases List.mem_append.mp h1 with h1 | h1
          · obtain ⟨r2, h2, h3⟩ := List.mem_map.mp h1
            exact .inl ⟨r2, h2, h3⟩
          · exact .inr (List.mem_singleton.mp h1)
      rcases ih _ q h with h | ⟨r, h, e⟩ | ⟨d, h, e⟩
      · rcases keyIn q h with ⟨r2, h2, h3⟩ | h3
        · exact .inr (.inl ⟨r2, h2, h3⟩)
        · exact .inr (.inr ⟨u, List.mem_cons_self .., h3⟩)
      · rcases keyIn r h with ⟨r2, h2, h3⟩ | h3
        · exact .inr (.inl ⟨r2, h2, h3.trans e⟩)
        · exact .inr (.inr ⟨u, List.mem_cons_self .., e ▸ h3⟩)
      · exact .inr (.inr ⟨d, List.mem_cons_of_mem _ h, e⟩)
  intro q hq
  rcases go ds [] q hq with h | ⟨r, h, _⟩ | h
  · cases h
  · cases h
  · exact h
section
variable {g : Bool} {Pr : Program} {w : World} {K : PySem.W.Frag} {mg : Str → Option Value} {base : Heap} {f : Addr} {fd : FuncData} {C : Addr}
/-- a net as it is told, what is known of it -/
structure NetOk (K : PySem.W.Frag) (C : Addr) (n : Nat) (ord : List Nat) (ls : List Arc) : Prop where
  cls : NetC K C
  n20 : n ≤ 20
  ll : ls.length ≤ 1000
  inn : InN n ls
  ord : OrdOk n ls ord
theorem sc_latest : FnScope ["net", "dues", "found", "tick"] ["net", "dues"] (defScope s_latest) := ⟨rfl, rfl, rfl, by decide +kernel, rfl, by decide +kernel, by decide +kernel⟩
def latestC (n : Nat) (dues : DD) (L : LatF) : Option DD := if (tblOf n (KKof dues) L).any (fun q => decide (q.2 < 0)) = true then none else some (tblOf n (KKof dues) L)
structure DuesOk (n : Nat) (x : P) (ds : List Due) : Prop where
  told : LDues x ds
  ev : ∀ d ∈ ds, d.1 < n
  num : ∀ d ∈ ds, d.2.1 < 900
  len : ds.length ≤ 1000
theorem DuesOk.kk {n : Nat} {x : P} {ds : List Due} (h : DuesOk n x ds) : ∀ q ∈ knownOf ds, q.1.1 < n ∧ q.1.2 < 900 := fun q hq => by
  obtain ⟨d, hd, e⟩ := knownOf_spec ds q hq
  rw [e]
  exact ⟨h.ev d hd, h.num d hd⟩
theorem DuesOk.klen {n : Nat} {x : P} {ds : List Due} (h : DuesOk n x ds) : (knownOf ds).length ≤ 1000 := by
  have := known_len ds []
  simp only [List.length_nil] at this
  have := h.len
  unfold knownOf
  omega
theorem tbl_len (n K : Nat) (L : LatF) : (tblOf n K L).length ≤ n * K := by
  unfold tblOf
  induction n with
  | zero => simp
  | succ n ih =>
    rw [List.range_succ, List.flatMap_append, List.length_append]
    have h1 : ([n].flatMap fun e => (List.range K).filterMap fun k => (L e k).map fun v => (((e, k) : PR), v)).length ≤ K := by
      simp only [List.flatMap_cons, List.flatMap_nil, List.append_nil]
      exact Nat.le_trans (List.length_filterMap_le _ _) (by simp)
    rw [Nat.add_mul]
    omega
def F_latest (K : PySem.W.Frag) (zs : List P) (c : Option Cell) : Prop := ∃ C n as ord ls x ds L, zs = [netP C n as ord ls, x] ∧ NetOk K C n ord ls ∧ DuesOk n x ds ∧ IsLat n ls (knownOf ds) L ∧ c = (latestC n (knownOf ds) L).map fun d => .dT (ddE d)
theorem c_latest (F : FnP K "latest" "latest" s_latest f fd) (hm : mg "latest" = some (.ref f)) (B : Bl mg) (c1 : Ct g Pr w K mg base 4 "checked_dues" (SF (F_checked_dues K))) (c2 : Ct g Pr w K mg base 1 "latest_of" (SO (F_latest_of K))) :
    Ct g Pr w K mg base 5 "latest" (SO (F_latest K)) := by
  refine ct_own F hm sc_latest (fun _ _ _ _ _ _ us hl => match us, hl with | [_, _], _ => rfl) (by rintro _ _ ⟨C, n, as, ord, ls, x, ds, L, rfl, _⟩; rfl) fun cdv A outer s H E hr zs c hF => ?_
  obtain ⟨C, n, as, ord, ls, x, ds, L, rfl, NO, DO, hL, rfl⟩ := hF
  have nd := sc_latest.nd
  have hkk := DO.kk
  have hK : KKof (knownOf ds) ≤ 900 := kk_le fun q hq => (hkk q hq).2
  refine tss_cons (tsp_setP 2 nd (tep_callO c2 (hr.mono (by decide)) (eas_cons (ev_name 0) (eas_cons (ev_call c1 hr (eas_cons (ev_name 0) (eas_cons (ev_name 1) eas_nil)) ⟨C, n, as, ord, ls, x, ds, rfl, NO.cls, DO.told, DO.ev, DO.len, rfl⟩) eas_nil))
    ⟨C, n, as, ord, ls, knownOf ds, L, rfl, NO.cls, NO.n20, NO.ll, DO.klen, fun q hq => Nat.lt_trans (hkk q hq).2 (by decide), NO.inn, NO.ord, hL, rfl⟩ (fun h => nomatch h) fun d hd => ?_))
  cases hd
  have htl := tbl_len n (KKof (knownOf ds)) L
  have hb : n * KKof (knownOf ds) ≤ 20 * 900 := Nat.mul_le_mul NO.n20 hK
  unfold latestC
  generalize tblOf n (KKof (knownOf ds)) L = tb at htl ⊢
  refine tss_one (tsp_ret (tep_if ((et_val ((ev_any (bs := tb.map fun q => decide (q.2 < 0)) rfl B.any ((ev_lcVals tb (fun q => .int q.2) (fun q => .bl (decide (q.2 < 0))) (fun q => [some (.sh (netP C n as ord ls)), some (.sh x), some (.pt 0), some (.sh (.int q.2))]) [3] [("tick", 3)] nd (blkOk_by (by kernel_rfl)) (zs := ddE tb) rfl (by unfold ddE; rw [List.map_map]; rfl) (by omega) (fun μ2 => ev_name 2)
    (fun a _ μ2 => tgb_name 3 nd (by decide) rfl rfl) (fun q _ μ2 s H C cl fp => ev_lt (ev_name 3) ev_int)).is (by rw [List.map_map]; rfl))).is (y := .sh (.bl (tb.any fun q => decide (q.2 < 0)))) (by rw [List.any_map]; rfl))) _ ?_)))
  by_cases h : tb.any (fun q => decide (q.2 < 0)) = true
  · rw [if_pos h, if_pos h]
    exact (ev_non) _ (.inl ⟨rfl, rfl⟩)
  · rw [if_neg h, if_neg h]
    exact (ev_name 2) _ (.inr ⟨0, .dT (ddE tb), rfl, rfl, rfl, ⟨ddP tb, ddE_P _⟩⟩)
end
end PV

namespace PV
open PySem PySem.Spec PyProof.Rows L2
/-- how many starts a dict's keys ask for -/
def mOf (d : DD) : Nat := (maxL (0 :: d.map fun q => (q.1.2 : Int) + 1)).toNat
theorem m_eq (d : DD) : maxL (0 :: d.map fun q => (q.1.2 : Int) + 1) = (mOf d : Int) := by
  have h := le_maxL (ns := 0 :: d.map fun q => (q.1.2 : Int) + 1) (List.mem_cons_self ..)
  unfold mOf
  omega
theorem m_le {d : DD} {m : Nat} (h : ∀ q ∈ d, q.1.2 < m) : mOf d ≤ m := by
  have h1 := maxL_mem (ns := 0 :: d.map fun q => (q.1.2 : Int) + 1) (by simp)
  have h2 := m_eq d
  rcases List.mem_cons.mp h1 with e | e
  · omega
  · obtain ⟨q, hq, e⟩ := List.mem_map.mp e
    have := h q hq
    omega
theorem lt_m {d : DD} {q : PR × Int} (h : q ∈ d) : q.1.2 < mOf d := by
  have h1 := le_maxL (ns := 0 :: d.map fun q => (q.1.2 : Int) + 1) (List.mem_cons_of_mem _ (List.mem_map.mpr ⟨q, h, rfl⟩))
  have h2 := m_eq d
  omega
section
variable {g : Bool} {Pr : Program} {w : World} {K : PySem.W.Frag} {mg : Str → Option Value} {base : Heap} {f : Addr} {fd : FuncData} {C : Addr}
theorem sc_starts_for : FnScope ["net", "pairs", "event", "k"] ["net", "pairs"] (defScope s_starts_for) := ⟨rfl, rfl, rfl, by decide +kernel, rfl, by decide +kernel, by decide +kernel⟩
def F_starts_for (K : PySem.W.Frag) (zs : List P) (y : P) : Prop := ∃ C n as ord ls d S, zs = [netP C n as ord ls, .dT (ddP d)] ∧ NetOk K C n ord ls ∧ d.length ≤ 50000 ∧ (∀ q ∈ d, q.1.2 < 1000) ∧ IsSol n ls S ∧ y = tabP n S (mOf d)
theorem c_starts_for (F : FnP K "starts_for" "starts_for" s_starts_for f fd) (hm : mg "starts_for" = some (.ref f)) (B : Bl mg) (c1 : Ct g Pr w K mg base 1 "table_of" (SF (F_table_of K))) : Ct g Pr w K mg base 2 "starts_for" (SF (F_starts_for K)) := by
  refine ct_pure F hm sc_starts_for (fun _ _ _ _ _ _ us hl => match us, hl with | [_, _], _ => rfl) (by rintro _ _ ⟨C, n, as, ord, ls, d, S, rfl, _⟩; rfl) fun cdv A outer s H E hr zs y hF => ?_
  obtain ⟨C, n, as, ord, ls, d, S, rfl, NO, hdl, hdk, hS, rfl⟩ := hF
  have nd := sc_starts_for.nd
  have hmm := m_le hdk
  refine tss_one (tsp_retV (ev_call c1 hr (eas_cons (ev_name 0) (eas_cons ((ev_max rfl B.max (ns := 0 :: d.map fun q => (q.1.2 : Int) + 1) ((ev_cat (xs := [.int 0]) (ys := d.map fun q => .int ((q.1.2 : Int) + 1)) (ev_lst (eas_cons ev_int eas_nil)) (ev_lc0 d (fun q => prP q.1)
    (fun q => [some (.sh (netP C n as ord ls)), some (.sh (.dT (ddP d))), some (.sh (.int (q.1.1 : Int))), some (.sh (.int (q.1.2 : Int)))]) (fun q => .int ((q.1.2 : Int) + 1)) [2, 3] [("event", 2), ("k", 3)] rfl nd (blkOk_by (by kernel_rfl)) (ei_keysT (ev_name 1)) (Nat.le_trans hdl (by decide))
    (fun a _ => tgb_tup ["event", "k"] [2, 3] nd (.inr rfl)) (fun a _ s H C cl fp => ev_add (ev_name 3) ev_int) (by unfold ddP; rw [List.map_map]; rfl)) (by simp; omega)).is (by rw [List.map_cons, List.map_map]; rfl)) (by simp)).is (y := .sh (.int (mOf d : Nat))) (by rw [m_eq])) eas_nil)) ⟨C, n, as, ord, ls, S, mOf d, rfl, NO.cls, Nat.le_trans NO.n20 (by decide), hmm, NO.ll, NO.inn, NO.ord, hS, rfl⟩) (.sh _))
theorem tab_get {n m : Nat} {S : Nat → Nat → Int} {e : Nat} (h : e < n) : ((List.range n).map (rowP S m))[e]? = some (.lst ((List.range m).map fun k => .int (S e k))) := by
  rw [List.getElem?_map, List.getElem?_range h]
  rfl
theorem row_get {m : Nat} {S : Nat → Nat → Int} {e k : Nat} (h : k < m) : ((List.range m).map fun k => P.int (S e k))[k]? = some (.int (S e k)) := by
  rw [List.getElem?_map, List.getElem?_range h]
  rfl
/-- table[e][k] -/
theorem ev_tab {X : Cx} {ρ : Rho} {μ : Mu} {a b c : Expr} {pos p2 : Pos} {n m : Nat} {S : Nat → Nat → Int} {e k : Nat} (he : e < n) (hk : k < m) (h1 : EV X a ρ μ (.sh (tabP n S m))) (h2 : EV X b ρ μ (.sh (.int (e : Nat)))) (h3 : EV X c ρ μ (.sh (.int (k : Nat)))) (hs : PlainIx b := by intro _ _; rfl) (hs2 : PlainIx c := by intro _ _; rfl) :
    EV X (.Subscript (.Subscript a b p2) c pos) ρ μ (.sh (.int (S e k))) := ev_ixL (ev_ixL h1 h2 (atI_of e rfl (tab_get he)) hs) h3 (atI_of k rfl (row_get hk)) hs2
theorem sc_slack : FnScope ["net", "dues", "found", "table", "event", "k"] ["net", "dues"] (defScope s_slack) := ⟨rfl, rfl, rfl, by decide +kernel, rfl, by decide +kernel, by decide +kernel⟩
def F_slack (K : PySem.W.Frag) (zs : List P) (c : Option Cell) : Prop := ∃ C n as ord ls x ds L S, zs = [netP C n as ord ls, x] ∧ NetOk K C n ord ls ∧ DuesOk n x ds ∧ IsLat n ls (knownOf ds) L ∧ IsSol n ls S ∧ c = (latestC n (knownOf ds) L).map fun d => .dT (ddE (d.map fun q => (q.1, q.2 - S q.1.1 q.1.2)))
theorem isN_pt (j : Nat) : isN (.pt j) = false := by unfold isN; rfl
theorem c_slack (F : FnP K "slack" "slack" s_slack f fd) (hm : mg "slack" = some (.ref f)) (B : Bl mg) (c1 : Ct g Pr w K mg base 5 "latest" (SO (F_latest K))) (c2 : Ct g Pr w K mg base 2 "starts_for" (SF (F_starts_for K))) : Ct g Pr w K mg base 6 "slack" (SO (F_slack K)) := by
  refine ct_own F hm sc_slack (fun _ _ _ _ _ _ us hl => match us, hl with | [_, _], _ => rfl) (by rintro _ _ ⟨C, n, as, ord, ls, x, ds, L, S, rfl, _⟩; rfl) fun cdv A outer s H E hr zs c hF => ?_
  obtain ⟨C, n, as, ord, ls, x, ds, L, S, rfl, NO, DO, hL, hS, rfl⟩ := hF
  have nd := sc_slack.nd
  have hu := hr.un
  have hkk := DO.kk
  have hK : KKof (knownOf ds) ≤ 900 := kk_le fun q hq => (hkk q hq).2
  have htl := tbl_len n (KKof (knownOf ds)) L
  have hb : n * KKof (knownOf ds) ≤ 20 * 900 := Nat.mul_le_mul NO.n20 hK
  have hmem : ∀ q ∈ tblOf n (KKof (knownOf ds)) L, q.1.1 < n ∧ q.1.2 < KKof (knownOf ds) := fun q hq => let h := tbl_mem.mp (show (q.1, q.2) ∈ _ from hq); ⟨h.1, h.2.1⟩
  have hnd := tbl_nd n (KKof (knownOf ds)) L
  unfold latestC
  refine tss_cons (tsp_setP 2 nd (tep_callO c1 hr (eas_cons (ev_name 0) (eas_cons (ev_name 1) eas_nil)) ⟨C, n, as, ord, ls, x, ds, L, rfl, NO, DO, hL, rfl⟩ (fun h0 => ?_) fun c h1 => ?_))
  · have h2 : latestC n (knownOf ds) L = none := by
      cases q : latestC n (knownOf ds) L with
      | none => rfl
      | some d => rw [q] at h0; cases h0
    unfold latestC at h2
    rw [h2]
    exact tss_cons (tsp_ifE (et_isN (x := .sh .non) (ev_name 2)) (fun _ => tss_one (tsp_retV ev_non (.inl ⟨rfl, rfl⟩))) fun h => nomatch h)
  · unfold latestC at h1
    split at h1
    · cases h1
    rename_i hneg
    rw [if_neg hneg]
    cases h1
    generalize htb : tblOf n (KKof (knownOf ds)) L = tb at htl hmem hnd ⊢
    refine tss_cons (tsp_ifE (et_isN (x := .pt 0) (ev_name 2)) (fun h => nomatch h) fun _ => tss_nil ?_)
    refine tss_shareT 0 (zs := ddP tb) (R := [some (.sh (netP C n as ord ls)), some (.sh x), some (.sh (.dT (ddP tb))), none, none, none]) (by rw [← ddE_P]; rfl) rfl ?_ ?_
    · intro i2 x2 hx2
      match i2, hx2 with
      | 0, h => exact .inl h
      | 1, h => exact .inl h
      | 2, h => cases h; exact .inr ⟨rfl, rfl⟩
      | i2 + 3, h => exact .inl h
    refine tss_cons (tsp_setV 3 nd (ev_call c2 (hr.mono (by decide)) (eas_cons (ev_name 0) (eas_cons (ev_name 2) eas_nil)) ⟨C, n, as, ord, ls, tb, S, rfl, NO, by omega, fun q hq => by have := (hmem q hq).2; omega, hS, rfl⟩) ?_)
    have hres : ((((tb.filter fun _ => true)).foldl (fun d (q : PR × Int) => dput d (prK q.1) (P.int (q.2 - S q.1.1 q.1.2))) ([] : List (List Key × P))).map fun q => (q.1, PV.E.sh q.2)) = ddE (tb.map fun q => (q.1, q.2 - S q.1.1 q.1.2)) := by
      have e1 : tb.filter (fun _ => true) = tb := List.filter_eq_self.mpr fun _ _ => rfl
      have e2 : (tb.map fun q => prK q.1).Nodup := by
        have : (tb.map fun q => prK q.1) = (tb.map (·.1)).map prK := by rw [List.map_map]; rfl
        rw [this]
        exact List.pairwise_map.mpr (hnd.imp fun {a b} h z => h (prK_inj a b z))
      rw [e1, foldl_put_nd (fun q : PR × Int => prK q.1) _ _ [] (by simp) e2]
      unfold ddE
      rw [List.nil_append, List.map_map, List.map_map]
      rfl
    refine tss_one (tsp_ret (tep_dcCT tb (fun q => prP q.1) (fun _ => true) (fun q => prK q.1) (fun q => .int (q.2 - S q.1.1 q.1.2)) (fun q => [some (.sh (netP C n as ord ls)), some (.sh x), some (.sh (.dT (ddP tb))), some (.sh (tabP n S (mOf tb))), some (.sh (.int (q.1.1 : Int))), some (.sh (.int (q.1.2 : Int)))]) [("event", 4), ("k", 5)] [4, 5] (Nat.lt_of_succ_lt hu) rfl nd (blkOk_by (by kernel_rfl))
      (ei_keysT (ev_name 2)) (by omega) (fun a _ => tgb_tup ["event", "k"] [4, 5] nd (.inr rfl)) (fun a _ => ttsb0) (fun q hq _ s H C cl fp => ev_prK (p := q.1) (ev_name 4) (ev_name 5)) (fun q hq _ s H C cl fp => ev_sub (ev_dgetT (k := prK q.1) hu (ev_name 2) (ev_prK (p := q.1) (ev_name 4) (ev_name 5)) (by rw [ddP_get, dget_of_mem hnd (show (q.1, q.2) ∈ tb from hq)]; rfl)) (ev_tab (hmem q hq).1 (lt_m hq) (ev_name 3) (ev_name 4) (ev_name 5))) ?_ (by unfold ddP; rw [List.map_map]; rfl)))
    refine .inr ⟨_, .dT (ddE (tb.map fun q => (q.1, q.2 - S q.1.1 q.1.2))), rfl, rfl, ?_, ⟨ddP _, ddE_P _⟩⟩
    rw [hres]
    rfl
end
end PV

namespace PV
open PySem PySem.Spec PyProof.Rows L2
/-- p is a way to q: a link asks q by it, tightly -/
def Leads (ls : List Arc) (S : Nat → Nat → Int) (p q : PR) : Prop := ∃ a ∈ ls, a.1 = p.1 ∧ a.2.1 = q.1 ∧ a.2.2.1 ≤ q.2 ∧ p.2 = q.2 - a.2.2.1 ∧ S p.1 p.2 + a.2.2.2 = S q.1 q.2
/-- the step back that the program takes; the whole way -/
def nextC (ls : List Arc) (S : Nat → Nat → Int) (p : PR) : PR := match (ls.filter fun a => decide ((a.2.1 : Int) = p.1) && decide ((a.2.2.1 : Int) ≤ p.2)).filter (fun a => decide (S a.1 (p.2 - a.2.2.1) + a.2.2.2 = S p.1 p.2)) with
  | a :: _ => (a.1, p.2 - a.2.2.1)
  | [] => p
def trailL (ls : List Arc) (S : Nat → Nat → Int) : Nat → PR → List PR
  | 0, p => [p]
  | m + 1, p => if 0 < S p.1 p.2 then p :: trailL ls S m (nextC ls S p) else [p]
structure ChainOk (n : Nat) (ls : List Arc) (S : Nat → Nat → Int) (e : PR) (ch : List PR) : Prop where
  last : ch.getLast? = some e
  first : ∀ p, ch.head? = some p → S p.1 p.2 ≤ 0
  step : ∀ (i : Nat) (p q : PR), ch[i]? = some p → ch[i + 1]? = some q → Leads ls S p q
  inn : ∀ p ∈ ch, p.1 < n ∧ p.2 ≤ e.2
  len : ch.length ≤ 90000
  det : ch = (trailL ls S 90000 e).reverse
/-- how far back it is at most -/
def back (n : Nat) (ord : List Nat) (p : PR) : Nat := p.2 * n + ord.idxOf p.1
theorem back_lt {n : Nat} {ls : List Arc} {ord : List Nat} (ho : OrdOk n ls ord) (hin : InN n ls) {a : Arc} (ha : a ∈ ls) {k : Nat} (hk : a.2.2.1 ≤ k) : back n ord (a.1, k - a.2.2.1) < back n ord (a.2.1, k) := by
  have h1 := (ho.mem a.1).mpr (hin a ha).1
  have h2 := (ho.mem a.2.1).mpr (hin a ha).2
  have hl : ord.length ≤ n := by
    have h1 : ord.Perm (List.range n) := (List.perm_ext_iff_of_nodup ho.nd List.nodup_range).mpr fun e => by rw [ho.mem, List.mem_range]
    rw [h1.length_eq, List.length_range]
    exact Nat.le_refl _
  have i1 := List.idxOf_lt_length_iff.mpr h1
  have i2 := List.idxOf_lt_length_iff.mpr h2
  unfold back
  simp only
  by_cases c : a.2.2.1 = 0
  · rw [c, Nat.sub_zero]
    have e2 : ord[ord.idxOf a.2.1]? = some a.2.1 := by
      rw [List.getElem?_eq_getElem i2, List.getElem_idxOf i2]
    have h3 := ho.fw _ _ a e2 ha rfl c
    obtain ⟨q, hq⟩ := List.mem_iff_getElem?.mp h3
    have hq2 : q < ord.idxOf a.2.1 := by
      have := (List.getElem?_eq_some_iff.mp hq).1
      rw [List.length_take] at this
      omega
    rw [List.getElem?_take_of_lt hq2] at hq
    have e1 : ord[ord.idxOf a.1]? = some a.1 := by
      rw [List.getElem?_eq_getElem i1, List.getElem_idxOf i1]
    have := (List.getElem?_inj i1 ho.nd).mp (e1.trans hq.symm)
    omega
  · have : (k - a.2.2.1) * n + n ≤ k * n := by
      rw [← Nat.succ_mul]
      exact Nat.mul_le_mul_right n (by omega)
    omega
section
variable {g : Bool} {Pr : Program} {w : World} {K : PySem.W.Frag} {mg : Str → Option Value} {base : Heap} {f : Addr} {fd : FuncData} {C : Addr}
theorem sc_check_event : FnScope ["net", "event"] ["net", "event"] (defScope s_check_event) := ⟨rfl, rfl, rfl, by decide +kernel, rfl, by decide +kernel, by decide +kernel⟩
def F_check_event (K : PySem.W.Frag) (zs : List P) (y : P) : Prop := ∃ C n as ord ls e, zs = [netP C n as ord ls, .int (e : Nat)] ∧ NetC K C ∧ e < n ∧ y = .non
theorem c_check_event (F : FnP K "check_event" "check_event" s_check_event f fd) (hm : mg "check_event" = some (.ref f)) (c1 : Ct g Pr w K mg base 2 "is_number" (SF F_is_number)) : Ct g Pr w K mg base 3 "check_event" (SF (F_check_event K)) := by
  refine ct_pure F hm sc_check_event (fun _ _ _ _ _ _ us hl => match us, hl with | [_, _], _ => rfl) (by rintro _ _ ⟨C, n, as, ord, ls, e, rfl, _⟩; rfl) fun cdv A outer s H E hr zs y hF => ?_
  obtain ⟨C, n, as, ord, ls, e, rfl, NC, he, rfl⟩ := hF
  refine tss_one (tsp_ifE (et_w (ew_or (et_not (et_val (ev_call c1 hr (eas_cons (ev_name 1) eas_nil) ⟨_, "int", rfl, rfl, rfl⟩))) fun _ => ew_or1 (et_ge (ev_name 1) (ev_attr (ev_name 0) NC.cls NC.many rfl)))) (fun h => ?_) fun _ => tss_nil rfl)
  simp [isNumP] at h
  omega
theorem sc_check_number : FnScope ["thing"] ["thing"] (defScope s_check_number) := ⟨rfl, rfl, rfl, by decide +kernel, rfl, by decide +kernel, by decide +kernel⟩
def F_check_number (zs : List P) (y : P) : Prop := ∃ e : Nat, zs = [.int (e : Nat)] ∧ y = .non
theorem c_check_number (F : FnP K "check_number" "check_number" s_check_number f fd) (hm : mg "check_number" = some (.ref f)) (c1 : Ct g Pr w K mg base 2 "is_number" (SF F_is_number)) : Ct g Pr w K mg base 3 "check_number" (SF F_check_number) := by
  refine ct_pure F hm sc_check_number (fun _ _ _ _ _ _ us hl => match us, hl with | [_], _ => rfl) (by rintro _ _ ⟨e, rfl, _⟩; rfl) fun cdv A outer s H E hr zs y hF => ?_
  obtain ⟨e, rfl, rfl⟩ := hF
  refine tss_one (tsp_ifE (et_not (et_val (ev_call c1 hr (eas_cons (ev_name 0) eas_nil) ⟨_, "int", rfl, rfl, rfl⟩))) (fun h => ?_) fun _ => tss_nil rfl)
  simp [isNumP] at h
structure ChI where
  C : Addr
  n : Nat
  as : List Arc
  ord : List Nat
  ls : List Arc
  S : Nat → Nat → Int
  e : PR
def P_chain (K : PySem.W.Frag) (i : ChI) (zs : List P) : Prop := zs = [netP i.C i.n i.as i.ord i.ls, .int (i.e.1 : Nat), .int (i.e.2 : Nat)] ∧ NetOk K i.C i.n i.ord i.ls ∧ IsSol i.n i.ls i.S ∧ i.e.1 < i.n ∧ i.e.2 < 900
def Q_chain (i : ChI) (c : Option Cell) : Prop := ∃ ch, c = some (.lst (ch.map fun p => .sh (prP p))) ∧ ChainOk i.n i.ls i.S i.e ch
theorem sc_chain_of : FnScope ["net", "event", "k", "table", "found", "here", "number", "due", "links", "link", "a", "b", "t", "d"] ["net", "event", "k"] (defScope s_chain_of) := ⟨rfl, rfl, rfl, by decide +kernel, rfl, by decide +kernel, by decide +kernel⟩
/-- what is found on the way back: from e on, each by the one behind it -/
structure BackOk (n : Nat) (ls : List Arc) (S : Nat → Nat → Int) (e : PR) (acc : List PR) (p : PR) : Prop where
  last : acc.getLast? = some p
  first : acc.head? = some e
  step : ∀ (i : Nat) (p q : PR), acc[i]? = some p → acc[i + 1]? = some q → Leads ls S q p
  inn : ∀ p ∈ acc, p.1 < n ∧ p.2 ≤ e.2
  tr : ∀ m, trailL ls S (acc.length - 1 + m) e = acc.dropLast ++ trailL ls S m p
theorem BackOk.go {n : Nat} {ls : List Arc} {S : Nat → Nat → Int} {e p q : PR} {acc : List PR} (h : BackOk n ls S e acc p) (l : Leads ls S q p) (hq : q.1 < n ∧ q.2 ≤ e.2) (hn : nextC ls S p = q) (hp : 0 < S p.1 p.2) : BackOk n ls S e (acc ++ [q]) q := by
  refine ⟨by simp, ?_, fun i x y hx hy => ?_, fun x hx => ?_, fun m => ?_⟩
  · cases acc with
    | nil => cases h.first
    | cons a r => exact h.first
  · by_cases c : i + 1 < acc.length
    · rw [List.getElem?_append_left (by omega)] at hx
      rw [List.getElem?_append_left c] at hy
      exact h.step i x y hx hy
    · have hl := (List.getElem?_eq_some_iff.mp hy).1
      rw [List.length_append, List.length_singleton] at hl
      have e1 : i + 1 = acc.length := by omega
      rw [List.getElem?_append_right (by omega), e1, Nat.sub_self] at hy
      rw [List.getElem?_append_left (by omega)] at hx
      have hla := h.last
      rw [List.getLast?_eq_getElem?, show acc.length - 1 = i by omega, hx] at hla
      cases hy
      cases hla
      exact l
  · rcases List.mem_append.mp hx with z | z
    · exact h.inn x z
    · rw [List.mem_singleton.mp z]; exact hq
  · have hl := h.last
    have hd : acc = acc.dropLast ++ [p] := by
      cases acc with
      | nil => cases hl
      | cons a r => rw [List.getLast?_eq_some_getLast (by simp)] at hl; exact (List.dropLast_concat_getLast (by simp)).symm.trans (by rw [Option.some.inj hl])
    have hpos : 1 ≤ acc.length := by rw [hd]; simp
    have ht := h.tr (m + 1)
    rw [List.length_append, List.length_singleton, List.dropLast_concat]
    rw [show acc.length + 1 - 1 + m = acc.length - 1 + (m + 1) by omega, ht]
    conv => rhs; rw [hd]
    rw [List.append_assoc]
    congr 1
    show (if 0 < S p.1 p.2 then p :: trailL ls S m (nextC ls S p) else [p]) = [p] ++ trailL ls S m q
    rw [if_pos hp, hn]
    rfl
theorem trail_end {ls : List Arc} {S : Nat → Nat → Int} {p : PR} (h : S p.1 p.2 ≤ 0) : ∀ m, trailL ls S m p = [p]
  | 0 => rfl
  | m + 1 => if_neg (by omega)
theorem BackOk.chain {n : Nat} {ls : List Arc} {S : Nat → Nat → Int} {e p : PR} {acc : List PR} (h : BackOk n ls S e acc p) (h0 : S p.1 p.2 ≤ 0) (hl : acc.length ≤ 90000) : ChainOk n ls S e acc.reverse := by
  refine ⟨by rw [List.getLast?_reverse]; exact h.first, fun q hq => ?_, fun i x y hx hy => ?_, fun x hx => h.inn x (List.mem_reverse.mp hx), by rw [List.length_reverse]; exact hl, ?_⟩
  · rw [List.head?_reverse, h.last] at hq
    cases hq
    exact h0
  · have l1 := (List.getElem?_eq_some_iff.mp hy).1
    rw [List.length_reverse] at l1
    rw [List.getElem?_reverse (by omega)] at hx
    rw [List.getElem?_reverse l1] at hy
    exact h.step _ y x hy (by rw [show acc.length - 1 - (i + 1) + 1 = acc.length - 1 - i by omega]; exact hx)
  · have hl := h.last
    have hd : acc = acc.dropLast ++ [p] := by
      cases acc with
      | nil => cases hl
      | cons a r => rw [List.getLast?_eq_some_getLast (by simp)] at hl; exact (List.dropLast_concat_getLast (by simp)).symm.trans (by rw [Option.some.inj hl])
    have ht := h.tr (90000 - (acc.length - 1))
    rw [trail_end h0, ← hd, show acc.length - 1 + (90000 - (acc.length - 1)) = 90000 by omega] at ht
    rw [ht]
end
end PV

namespace PV
open PySem PySem.Spec PyProof.Rows L2
section
variable {g : Bool} {Pr : Program} {w : World} {K : PySem.W.Frag} {mg : Str → Option Value} {base : Heap} {f : Addr} {fd : FuncData} {C : Addr}
theorem c_chain_of (F : FnP K "chain_of" "chain_of" s_chain_of f fd) (hm : mg "chain_of" = some (.ref f)) (B : Bl mg) (c1 : Ct g Pr w K mg base 3 "check_event" (SF (F_check_event K))) (c2 : Ct g Pr w K mg base 3 "check_number" (SF F_check_number)) (c3 : Ct g Pr w K mg base 1 "table_of" (SF (F_table_of K))) :
    Ct g Pr w K mg base 4 "chain_of" (SOi (P_chain K) Q_chain) := by
  refine ct_ownI F hm sc_chain_of (fun _ _ _ _ _ _ us hl => match us, hl with | [_, _, _], _ => rfl) (by rintro i _ ⟨rfl, _⟩; rfl) fun cdv A outer s H E hr ⟨C, n, as, ord, ls, S, e⟩ zs hF => ?_
  obtain ⟨rfl, NO, hS, he1, he2⟩ := hF
  have nd := sc_chain_of.nd
  simp only at NO hS he1 he2
  have hb0 : back n ord e ≤ 900 * 20 + 20 := by
    have hl : ord.length ≤ n := by
      have h1 : ord.Perm (List.range n) := (List.perm_ext_iff_of_nodup NO.ord.nd List.nodup_range).mpr fun e => by rw [NO.ord.mem, List.mem_range]
      rw [h1.length_eq, List.length_range]
      exact Nat.le_refl _
    have h1 : e.2 * n ≤ 900 * 20 := Nat.mul_le_mul (by omega) NO.n20
    have h2 := List.idxOf_le_length (a := e.1) (l := ord)
    have h3 := NO.n20
    unfold back
    omega
  refine tss_cons (tsp_expr ((ev_call c1 hr (eas_cons (ev_name 0) (eas_cons (ev_name 1) eas_nil)) ⟨C, n, as, ord, ls, e.1, rfl, NO.cls, he1, rfl⟩) _ ?_))
  refine tss_cons (tsp_expr ((ev_call c2 hr (eas_cons (ev_name 2) eas_nil) ⟨e.2, rfl, rfl⟩) _ ?_))
  refine tss_cons (tsp_parN ["table", "found"] [3, 4] nd (tap_consV (ev_call c3 (hr.mono (by decide)) (eas_cons (ev_name 0) (eas_cons (ev_addN (j := 1) (ev_name 2) ev_int) eas_nil)) ⟨C, n, as, ord, ls, S, e.2 + 1, rfl, NO.cls, Nat.le_trans NO.n20 (by decide), by omega, NO.ll, NO.inn, NO.ord, hS, rfl⟩)
    (tap_cons (tep_lstC (tap_consV (ev_tup (ys := [.int (e.1 : Nat), .int (e.2 : Nat)]) (eas_cons (ev_name 1) (eas_cons (ev_name 2) eas_nil))) (tap_nil ⟨Nat.le_of_ble_eq_true rfl, tap_nil ⟨rfl, ?_⟩⟩))))))
  let R : Option PV.E → Option PV.E → Option PV.E → Option PV.E → Rho := fun a b c d => [some (.sh (netP C n as ord ls)), some (.sh (.int (e.1 : Nat))), some (.sh (.int (e.2 : Nat))), some (.sh (tabP n S (e.2 + 1))), some (.pt 0), a, b, c, d, none, none, none, none, none]
  refine tss_cons (tsp_whileP (fun m ρ2 μ2 => (∃ a b c d, ρ2 = R a b c d) ∧ ∃ acc p, μ2 = [some (.lst (acc.map fun p => .sh (prP p)))] ∧ BackOk n ls S e acc p ∧ back n ord p ≤ m ∧ acc.length + m ≤ 30000) (900 * 20 + 20) ⟨⟨none, none, none, none, rfl⟩, [e], e, rfl, ⟨rfl, rfl, fun i p q h1 h2 => by simp at h2, fun p hp => by rw [List.mem_singleton.mp hp]; exact ⟨he1, Nat.le_refl _⟩, fun m => by simp⟩, hb0, by simp⟩ ?_)
  rintro m ρ2 μ2 ⟨⟨ra, rb, rc, rd, rfl⟩, acc, p, rfl, BO, hm2, hlen⟩
  have hpin := BO.inn p (List.mem_of_getLast? BO.last)
  have hne : acc.map (fun p => PV.E.sh (prP p)) ≠ [] := by
    intro z
    have h := BO.last
    rw [List.map_eq_nil_iff.mp z] at h
    cases h
  have hlast : atI (acc.map fun p => PV.E.sh (prP p)) (-1) = some (.sh (prP p)) := atI_last hne (by rw [List.getLast?_map, BO.last]; rfl)
  refine (et_gt (ev_tab hpin.1 (show p.2 < e.2 + 1 by omega) (ev_name 3) (ev_ixT (xs := [.int (p.1 : Nat), .int (p.2 : Nat)]) (ev_ixC (ev_name 4) (ev_neg ev_int) rfl hlast) ev_int rfl) (ev_ixT (xs := [.int (p.1 : Nat), .int (p.2 : Nat)]) (ev_ixC (ev_name 4) (ev_neg ev_int) rfl hlast) ev_int rfl)) ev_int) _ ?_
  by_cases hpos : 0 < S p.1 p.2
  case neg =>
    rw [if_neg (by simpa using hpos)]
    refine tss_one (tsp_ret (tep_revC (ev_name 4) rfl (.inr ⟨1, .lst (acc.map fun p => .sh (prP p)).reverse, ⟨acc.reverse, ?_, BO.chain (by omega) (by omega)⟩, rfl, rfl, ⟨(acc.map prP).reverse, ?_⟩⟩)))
    · rw [List.map_reverse]
    · rw [List.map_reverse, List.map_map]
      rfl
  rw [if_pos (by simpa using hpos)]
  refine tss_cons (tsp_asgA [5, 6] (ev_ixC (ev_name 4) (ev_neg ev_int) rfl hlast) (tgp_namesC ["here", "number"] [5, 6] nd (xs := [.int (p.1 : Nat), .int (p.2 : Nat)]) (.inr rfl) rfl ?_))
  refine tss_cons (tsp_setV 7 nd (ev_tab hpin.1 (show p.2 < e.2 + 1 by omega) (ev_name 3) (ev_name 5) (ev_name 6)) ?_)
  refine tss_cons (tsp_setL1 8 ls arcP (fun a => [some (.sh (netP C n as ord ls)), some (.sh (.int (e.1 : Nat))), some (.sh (.int (e.2 : Nat))), some (.sh (tabP n S (e.2 + 1))), some (.pt 0), some (.sh (.int (p.1 : Nat))), some (.sh (.int (p.2 : Nat))), some (.sh (.int (S p.1 p.2))), rd, some (.sh (arcP a)), none, none, none, none])
    (fun a => decide ((a.2.1 : Int) = p.1) && decide ((a.2.2.1 : Int) ≤ p.2)) arcP [9] [("link", 9)] nd (blkOk_by (by kernel_rfl)) (ei_list (ev_attr (ev_name 0) NO.cls.cls NO.cls.links rfl)) (Nat.le_trans NO.ll (by decide)) (fun a _ => tgb_name 9 nd (by decide) rfl rfl)
    (fun a _ s H C cl fp => et_w (ew_and (et_eqI (ev_ixT (ev_name 9) ev_int rfl) (ev_name 5)) fun _ => ew_and1 (et_le (ev_ixT (ev_name 9) ev_int rfl) (ev_name 6)))) (fun a _ _ s H C cl fp => ev_name 9) ?_)
  generalize hfl : (ls.filter fun a => decide ((a.2.1 : Int) = p.1) && decide ((a.2.2.1 : Int) ≤ p.2)) = fl
  have hflm : ∀ a ∈ fl, a ∈ ls ∧ a.2.1 = p.1 ∧ a.2.2.1 ≤ p.2 := fun a ha => by
    rw [← hfl] at ha
    obtain ⟨h1, h2⟩ := List.mem_filter.mp ha
    simp only [Bool.and_eq_true, decide_eq_true_eq] at h2
    exact ⟨h1, by omega, by omega⟩
  have hfll : fl.length ≤ 1000 := by rw [← hfl]; exact Nat.le_trans (filter_lt _ _) NO.ll
  -- there is one that asks as much
  have hsome : ∃ a ∈ fl, S a.1 (p.2 - a.2.2.1) + a.2.2.2 = S p.1 p.2 := by
    have h1 := hS p.1 hpin.1 p.2
    have h2 := maxL_mem (ns := 0 :: askOf ls S p.1 p.2) (by simp)
    rw [← h1] at h2
    rcases List.mem_cons.mp h2 with h2 | h2
    · omega
    · obtain ⟨a, ha, h3⟩ := List.mem_map.mp h2
      rw [hfl] at ha
      exact ⟨a, ha, h3⟩
  obtain ⟨a0, r0, h0⟩ : ∃ a0 r0, fl.filter (fun a => decide (S a.1 (p.2 - a.2.2.1) + a.2.2.2 = S p.1 p.2)) = a0 :: r0 := by
    obtain ⟨a, ha, h1⟩ := hsome
    cases h2 : fl.filter (fun a => decide (S a.1 (p.2 - a.2.2.1) + a.2.2.2 = S p.1 p.2)) with
    | nil =>
      have : a ∈ fl.filter (fun a => decide (S a.1 (p.2 - a.2.2.1) + a.2.2.2 = S p.1 p.2)) := List.mem_filter.mpr ⟨ha, decide_eq_true h1⟩
      rw [h2] at this
      cases this
    | cons a r => exact ⟨a, r, rfl⟩
  have h0m : a0 ∈ fl ∧ S a0.1 (p.2 - a0.2.2.1) + a0.2.2.2 = S p.1 p.2 := by
    have : a0 ∈ fl.filter (fun a => decide (S a.1 (p.2 - a.2.2.1) + a.2.2.2 = S p.1 p.2)) := by rw [h0]; exact List.mem_cons_self ..
    obtain ⟨h1, h2⟩ := List.mem_filter.mp this
    exact ⟨h1, of_decide_eq_true h2⟩
  have hm0 := hflm a0 h0m.1
  refine tss_one (tsp_expr (tep_append ((ev_name 4) _ ⟨0, _, rfl, rfl, (ev_ixL (x := prP (a0.1, p.2 - a0.2.2.1)) (ev_lc1 fl arcP (fun a => [some (.sh (netP C n as ord ls)), some (.sh (.int (e.1 : Nat))), some (.sh (.int (e.2 : Nat))), some (.sh (tabP n S (e.2 + 1))), some (.pt 0), some (.sh (.int (p.1 : Nat))), some (.sh (.int (p.2 : Nat))), some (.sh (.int (S p.1 p.2))), some (.sh (.lst (fl.map arcP))), none, some (.sh (.int (a.1 : Nat))), some (.sh (.int (a.2.1 : Nat))), some (.sh (.int (a.2.2.1 : Nat))), some (.sh (.int (a.2.2.2 : Nat)))])
    (fun a => decide (S a.1 (p.2 - a.2.2.1) + a.2.2.2 = S p.1 p.2)) (fun a => prP (a.1, p.2 - a.2.2.1)) [10, 11, 12, 13] [("a", 10), ("b", 11), ("t", 12), ("d", 13)] rfl nd (blkOk_by (by kernel_rfl)) (ei_list (ev_name 8)) (Nat.le_trans hfll (by decide)) (fun a _ => tgb_tup ["a", "b", "t", "d"] [10, 11, 12, 13] nd (.inr rfl))
    (fun a ha s H C cl fp => et_eqI (ev_add (ev_tab (NO.inn a (hflm a ha).1).1 (show p.2 - a.2.2.1 < e.2 + 1 by omega) (ev_name 3) (ev_name 10) (ev_subN (hflm a ha).2.2 (ev_name 6) (ev_name 12))) (ev_name 13)) (ev_name 7))
    (fun a ha _ s H C cl fp => ev_tup (ys := [.int (a.1 : Nat), .int ((p.2 - a.2.2.1 : Nat) : Int)]) (eas_cons (ev_name 10) (eas_cons (ev_subN (hflm a ha).2.2 (ev_name 6) (ev_name 12)) eas_nil)))) ev_int (by rw [h0]; exact atI_of 0 rfl rfl)) _ ⟨_, rfl, ?_, ?_⟩⟩)))
  · rw [List.length_map]
    omega
  have hq : (a0.1, p.2 - a0.2.2.1).1 < n ∧ (a0.1, p.2 - a0.2.2.1).2 ≤ e.2 := ⟨(NO.inn a0 hm0.1).1, by show p.2 - a0.2.2.1 ≤ e.2; omega⟩
  have hlt := back_lt NO.ord NO.inn hm0.1 (k := p.2) hm0.2.2
  rw [hm0.2.1, show ((p.1, p.2) : PR) = p from rfl] at hlt
  refine ⟨m - 1, by omega, ⟨_, _, _, _, rfl⟩, acc ++ [(a0.1, p.2 - a0.2.2.1)], (a0.1, p.2 - a0.2.2.1), ?_, BO.go ⟨a0, hm0.1, rfl, hm0.2.1, hm0.2.2, rfl, h0m.2⟩ hq (by unfold nextC; rw [hfl, h0]) hpos, by omega, ?_⟩
  · rw [List.map_append]
    rfl
  · rw [List.length_append, List.length_singleton]
    omega
end
end PV

namespace PV
open PySem PySem.Spec PyProof.Rows L2
section
variable {g : Bool} {Pr : Program} {w : World} {K : PySem.W.Frag} {mg : Str → Option Value} {base : Heap} {f : Addr} {fd : FuncData} {C : Addr}
structure LcI where
  C : Addr
  n : Nat
  as : List Arc
  ord : List Nat
  ls : List Arc
  S : Nat → Nat → Int
  x : P
  ds : List Due
def P_late (K : PySem.W.Frag) (i : LcI) (zs : List P) : Prop := zs = [netP i.C i.n i.as i.ord i.ls, i.x] ∧ NetOk K i.C i.n i.ord i.ls ∧ IsSol i.n i.ls i.S ∧ DuesOk i.n i.x i.ds
/-- the first due that is too early -/
def lateOf (S : Nat → Nat → Int) (d : DD) : Option PR := (sortP (d.map (·.1))).find? fun p => decide ((dget d p).getD 0 < S p.1 p.2)
def Q_late (i : LcI) (c : Option Cell) : Prop := (c = none ∧ lateOf i.S (knownOf i.ds) = none) ∨ ∃ p, lateOf i.S (knownOf i.ds) = some p ∧ ∃ ch, c = some (.lst (ch.map fun p => .sh (prP p))) ∧ ChainOk i.n i.ls i.S p ch
theorem known_nd (ds : List Due) : dnd (knownOf ds) := by
  have go : ∀ (ds : List Due) (d : DD), dnd d → dnd (ds.foldl knownPut d) := by
    intro ds
    induction ds with
    | nil => exact fun d h => h
    | cons u ds ih => exact fun d h => ih _ (dput_nd h _ _)
  exact go ds [] List.Pairwise.nil
theorem sc_late_chain : FnScope ["net", "dues", "known", "table", "event", "k"] ["net", "dues"] (defScope s_late_chain) := ⟨rfl, rfl, rfl, by decide +kernel, rfl, by decide +kernel, by decide +kernel⟩
theorem c_late_chain (F : FnP K "late_chain" "late_chain" s_late_chain f fd) (hm : mg "late_chain" = some (.ref f)) (B : Bl mg) (c1 : Ct g Pr w K mg base 4 "checked_dues" (SF (F_checked_dues K))) (c2 : Ct g Pr w K mg base 2 "starts_for" (SF (F_starts_for K))) (c3 : Ct g Pr w K mg base 4 "chain_of" (SOi (P_chain K) Q_chain)) :
    Ct g Pr w K mg base 5 "late_chain" (SOi (P_late K) Q_late) := by
  refine ct_ownI F hm sc_late_chain (fun _ _ _ _ _ _ us hl => match us, hl with | [_, _], _ => rfl) (by rintro i _ ⟨rfl, _⟩; rfl) fun cdv A outer s H E hr ⟨C, n, as, ord, ls, S, x, ds⟩ zs hF => ?_
  obtain ⟨rfl, NO, hS, DO⟩ := hF
  simp only at NO hS DO
  have nd := sc_late_chain.nd
  have hu := hr.un
  have hkk := DO.kk
  have hnd := known_nd ds
  refine tss_cons (tsp_setV 2 nd (ev_call c1 hr (eas_cons (ev_name 0) (eas_cons (ev_name 1) eas_nil)) ⟨C, n, as, ord, ls, x, ds, rfl, NO.cls, DO.told, DO.ev, DO.len, rfl⟩) ?_)
  refine tss_cons (tsp_setV 3 nd (ev_call c2 (hr.mono (by decide)) (eas_cons (ev_name 0) (eas_cons (ev_name 2) eas_nil)) ⟨C, n, as, ord, ls, knownOf ds, S, rfl, NO, Nat.le_trans DO.klen (by decide), fun q hq => Nat.lt_trans (hkk q hq).2 (by decide), hS, rfl⟩) ?_)
  have hmem : ∀ p ∈ sortP ((knownOf ds).map (·.1)), ∃ v, (p, v) ∈ knownOf ds := fun p hp => by
    obtain ⟨q, hq, rfl⟩ := List.mem_map.mp ((sortP_perm _).mem_iff.mp hp)
    exact ⟨q.2, hq⟩
  refine tss_cons (tsp_forL (sortP ((knownOf ds).map (·.1))) prP [4, 5] (fun j ρ2 μ2 => μ2 = [] ∧ (∃ a b, ρ2 = [some (.sh (netP C n as ord ls)), some (.sh x), some (.sh (.dT (ddP (knownOf ds)))), some (.sh (tabP n S (mOf (knownOf ds)))), a, b]) ∧ ∀ p ∈ (sortP ((knownOf ds).map (·.1))).take j, ∀ v, (p, v) ∈ knownOf ds → S p.1 p.2 ≤ v)
    (ei_list (xs := (sortP ((knownOf ds).map (·.1))).map prP) fun Q q => tep_sortD ((knownOf ds).map (·.1)) rfl B.sorted ((ev_name 2) _ ⟨.inl ⟨ddP (knownOf ds), rfl, ddP_keys _⟩, q⟩)) ⟨rfl, ⟨none, none, rfl⟩, fun p hp => by simp at hp⟩ ?_ ?_)
  · rintro j p ρ2 μ2 hp ⟨rfl, ⟨a, b, rfl⟩, hdone⟩
    obtain ⟨v, hv⟩ := hmem p (List.mem_of_getElem? hp)
    have hpk := hkk _ hv
    have tk : (sortP ((knownOf ds).map (·.1))).take (j + 1) = (sortP ((knownOf ds).map (·.1))).take j ++ [p] := by rw [List.take_add_one, hp]; rfl
    refine tgp_namesC ["event", "k"] [4, 5] nd (xs := [.int (p.1 : Nat), .int (p.2 : Nat)]) (.inr rfl) rfl ?_
    refine tss_one (tsp_ifE (et_gt (ev_tab hpk.1 (lt_m hv) (ev_name 3) (ev_name 4) (ev_name 5)) (ev_dgetT (k := prK p) (y := .int v) hu (ev_name 2) (ev_prK (p := p) (ev_name 4) (ev_name 5)) (by rw [ddP_get, dget_of_mem hnd hv]; rfl))) (fun h => ?_) fun h => tss_nil ?_)
    · have h := of_decide_eq_true h
      refine tss_one (tsp_ret (tep_callI c3 hr ⟨C, n, as, ord, ls, S, p⟩ (eas_cons (ev_name 0) (eas_cons (ev_name 4) (eas_cons (ev_name 5) eas_nil))) ⟨rfl, NO, hS, hpk.1, hpk.2⟩ (fun h0 => ?_) fun c hc => ?_))
      · obtain ⟨_, h1, _⟩ := h0
        cases h1
      · obtain ⟨ch, h1, h2⟩ := hc
        cases h1
        refine .inr ⟨0, _, .inr ⟨p, ?_, ch, rfl, h2⟩, rfl, rfl, ⟨ch.map prP, by rw [List.map_map]; rfl⟩⟩
        refine List.find?_eq_some_iff_append.mpr ⟨?_, (sortP ((knownOf ds).map (·.1))).take j, (sortP ((knownOf ds).map (·.1))).drop (j + 1), ?_, fun q hq => ?_⟩
        · rw [dget_of_mem hnd hv]
          exact decide_eq_true h
        · have h3 := (List.getElem?_eq_some_iff.mp hp)
          obtain ⟨h4, h5⟩ := h3
          conv => lhs; rw [← List.take_append_drop j (sortP ((knownOf ds).map (·.1))), List.drop_eq_getElem_cons h4, h5]
        · obtain ⟨v2, hv2⟩ := hmem q (List.mem_of_mem_take hq)
          have h3 := hdone q hq v2 hv2
          rw [dget_of_mem hnd hv2]
          simp only [Option.getD_some, Bool.not_eq_true', decide_eq_false_iff_not]
          omega
    · have h := of_decide_eq_false h
      refine ⟨rfl, ⟨_, _, rfl⟩, fun q hq v2 hv2 => ?_⟩
      rw [tk] at hq
      rcases List.mem_append.mp hq with z | z
      · exact hdone q z v2 hv2
      · rw [List.mem_singleton.mp z] at hv2 ⊢
        have := (dget_of_mem hnd hv).symm.trans (dget_of_mem hnd hv2)
        have e : v = v2 := Option.some.inj this
        rw [← e]
        exact Int.not_lt.mp h
  · rintro ρ2 μ2 ⟨rfl, ⟨a, b, rfl⟩, hdone⟩
    rw [List.take_length] at hdone
    refine tss_one (tsp_retV ev_non (.inl ⟨.inl ⟨rfl, List.find?_eq_none.mpr fun q hq => ?_⟩, rfl⟩))
    obtain ⟨v2, hv2⟩ := hmem q hq
    have h3 := hdone q hq v2 hv2
    rw [dget_of_mem hnd hv2]
    simp only [Option.getD_some, decide_eq_true_eq]
    omega
end
end PV

namespace PV
open PySem PySem.Spec PyProof.Rows L2
/-- two cells of μ, laid anew -/
def two (μ : Mu) (i j : Nat) (a b : Cell) : Mu := (μ.set i (some a)).set j (some b)
section
variable {μ : Mu} {i j : Nat} {a a' b b' : Cell}
theorem two_len : (two μ i j a b).length = μ.length := by unfold two; rw [List.length_set, List.length_set]
theorem two_1 (h : i < μ.length) (n : i ≠ j) : (two μ i j a b)[i]? = some (some a) := by
  unfold two
  rw [List.getElem?_set_ne (Ne.symm n), List.getElem?_set_self h]
theorem two_2 (h : j < μ.length) : (two μ i j a b)[j]? = some (some b) := by
  unfold two
  rw [List.getElem?_set_self (by rw [List.length_set]; exact h)]
theorem two_else {k : Nat} (h1 : k ≠ i) (h2 : k ≠ j) : (two μ i j a b)[k]? = μ[k]? := by
  unfold two
  rw [List.getElem?_set_ne (Ne.symm h2), List.getElem?_set_ne (Ne.symm h1)]
theorem two_set1 (n : i ≠ j) : (two μ i j a b).set i (some a') = two μ i j a' b := by
  unfold two
  rw [List.set_comm _ _ (Ne.symm n), List.set_set]
theorem two_set2 : (two μ i j a b).set j (some b') = two μ i j a b' := by
  unfold two
  rw [List.set_set]
theorem two_eq (h1 : μ[i]? = some (some a)) (h2 : μ[j]? = some (some b)) : μ = two μ i j a b := by
  refine List.ext_getElem? fun k => ?_
  unfold two
  by_cases c : j = k
  · subst c
    rw [List.getElem?_set_self (by rw [List.length_set]; exact (List.getElem?_eq_some_iff.mp h2).1), h2]
  · rw [List.getElem?_set_ne c]
    by_cases c2 : i = k
    · subst c2
      rw [List.getElem?_set_self (List.getElem?_eq_some_iff.mp h1).1, h1]
    · rw [List.getElem?_set_ne c2]
end
def strA (jc : Nat) (mix cnt rest : Int) : Cell := .lst [.pt jc, .sh (.int mix), .sh (.int cnt), .sh (.int rest)]
def strB (cs : List Int) : Cell := .lst ((cs.map P.int).map .sh)
/-- a stream of draws, at most N drawn so far -/
structure StrAt (js jc N : Nat) (μ : Mu) : Prop where
  ne : js ≠ jc
  ex : ∃ (cs : List Int) (mix cnt rest : Int), μ[js]? = some (some (strA jc mix cnt rest)) ∧ μ[jc]? = some (some (strB cs)) ∧ 0 ≤ mix ∧ mix < 2147483629 ∧ 0 ≤ cnt ∧ cnt ≤ N ∧ 0 ≤ rest ∧ ∀ c ∈ cs, 0 < c
structure But2 (js jc : Nat) (μ μ' : Mu) : Prop where
  len : μ'.length = μ.length
  at_ : ∀ i, i ≠ js → i ≠ jc → μ'[i]? = μ[i]?
theorem But2.refl (js jc : Nat) (μ : Mu) : But2 js jc μ μ := ⟨rfl, fun _ _ _ => rfl⟩
theorem But2.trans {js jc : Nat} {μ μ1 μ2 : Mu} (a : But2 js jc μ μ1) (b : But2 js jc μ1 μ2) : But2 js jc μ μ2 := ⟨b.len.trans a.len, fun i h1 h2 => (b.at_ i h1 h2).trans (a.at_ i h1 h2)⟩
def S_draw : PSpec := fun xs μ Q => ∃ js jc N m : Nat, xs = [.pt js, .sh (.int (m : Nat))] ∧ StrAt js jc N μ ∧ N < 100000000 ∧ 0 < m ∧ m < 1000 ∧ ∀ (d : Nat) μ', d < m → But2 js jc μ μ' → StrAt js jc (N + 1) μ' → Q (.sh (.int (d : Nat))) μ'
section
variable {g : Bool} {Pr : Program} {w : World} {K : PySem.W.Frag} {mg : Str → Option Value} {base : Heap} {f : Addr} {fd : FuncData} {C : Addr}
theorem sc_law_draw : FnScope ["_law_stream", "_law_many", "_law_digit", "_law_mixed_here"] ["_law_stream", "_law_many"] (defScope s_law_draw) := ⟨rfl, rfl, rfl, by decide +kernel, rfl, by decide +kernel, by decide +kernel⟩
theorem c_law_draw (F : FnP K "_law_draw" "_law_draw" s_law_draw f fd) (hm : mg "_law_draw" = some (.ref f)) (B : Bl mg) : Ct g Pr w K mg base 1 "_law_draw" S_draw := by
  refine ct_of F hm sc_law_draw (fun _ _ _ _ _ _ us hl => match us, hl with | [_, _], _ => rfl) (by rintro _ _ _ ⟨js, jc, N, m, rfl, _⟩; rfl) fun cdv A outer s H E hr xs μ Q hS => ?_
  obtain ⟨js, jc, N, m, rfl, ⟨ne, cs, mix, cnt, rest, h1, h2, m0, m1, c0, c1, r0, hcs⟩, hN, hm0, hm1, q⟩ := hS
  have nd := sc_law_draw.nd
  have hu := hr.u64
  have l1 := (List.getElem?_eq_some_iff.mp h1).1
  have l2 := (List.getElem?_eq_some_iff.mp h2).1
  have e0 := two_eq h1 h2
  -- the end: the cells as they are left
  have fin : ∀ (d : Nat) (mix2 rest2 : Int) (cs2 : List Int), d < m → mix2 = mix → 0 ≤ rest2 → (∀ c ∈ cs2, 0 < c) → Q (.sh (.int (d : Nat))) (two μ js jc (strA jc mix2 (cnt + 1) rest2) (strB cs2)) := fun d mix2 rest2 cs2 hd e hr2 hc2 => by
    subst e
    exact q d _ hd ⟨two_len, fun i h3 h4 => two_else h3 h4⟩ ⟨ne, cs2, mix2, cnt + 1, rest2, two_1 l1 ne, two_2 l2, m0, m1, by omega, by omega, hr2, hc2⟩
  have f1 : ∀ (c r : Int) (cs : List Int), (two μ js jc (strA jc mix c r) (strB cs))[js]? = some (some (strA jc mix c r)) := fun _ _ _ => two_1 l1 ne
  have f2 : ∀ (c r : Int) (cs : List Int), (two μ js jc (strA jc mix c r) (strB cs))[jc]? = some (some (strB cs)) := fun _ _ _ => two_2 l2
  rw [e0]
  refine tss_cons (tsp_seti ((ev_add (ev_ixC (ev_name 0) ev_int (f1 _ _ _) (atI_of 2 rfl rfl)) ev_int) _ ((ev_name 0) _ ((ev_int) _ ⟨js, _, 2, rfl, rfl, f1 _ _ _, by simp, ?_⟩))))
  show TSs _ _ _ ((two μ js jc (strA jc mix cnt rest) (strB cs)).set js (some (strA jc mix (cnt + 1) rest))) _
  rw [two_set1 ne]
  let R : Option PV.E → Option PV.E → Rho := fun a b => [some (.pt js), some (.sh (.int (m : Nat))), a, b]
  refine tss_cons (tsp_mid (fun ρ1 μ1 => ρ1 = R none none ∧ ∃ rest2 cs2, μ1 = two μ js jc (strA jc mix (cnt + 1) rest2) (strB cs2) ∧ 0 ≤ rest2 ∧ ∀ c ∈ cs2, 0 < c) (tsp_ifE (et_w (ew_and (et_eqI (ev_ixC (ev_name 0) ev_int (f1 _ _ _) (atI_of 3 rfl rfl)) ev_int) fun _ => ew_and1 (et_neD hu (ev_ixC (ev_name 0) ev_int (f1 _ _ _) (atI_of 0 rfl rfl)) (ev_lst eas_nil) (DE.pt (n := 1) (f2 _ _ _) (pd_ints cs) (by decide)) (DE.sh (n := 1) pd_nil (by decide))))) (fun h => ?_) fun h => tss_nil ⟨rfl, rest, cs, rfl, r0, hcs⟩) ?_)
  · rw [eqv_nil] at h
    cases cs with
    | nil => simp at h
    | cons c0' cs =>
      refine tss_one (tsp_seti (tep_popAt ((ev_ixC (ev_name 0) ev_int (f1 _ _ _) (atI_of 0 rfl rfl)) _ ⟨jc, _, rfl, f2 _ _ _, (ev_int) _ ⟨_, 0, .sh (.int c0'), f2 _ _ _, rfl, rfl, by decide, ?_⟩⟩)))
      show TEP _ _ _ ((two μ js jc (strA jc mix (cnt + 1) rest) (strB (c0' :: cs))).set jc (some (strB cs))) _
      rw [two_set2]
      refine (ev_name 0) _ ((ev_int) _ ⟨js, _, 3, rfl, rfl, f1 _ _ _, by simp, ?_⟩)
      show _ ∧ _
      refine ⟨rfl, c0', cs, ?_, Int.le_of_lt (hcs c0' (List.mem_cons_self ..)), fun c hc => hcs c (List.mem_cons_of_mem _ hc)⟩
      show (two μ js jc (strA jc mix (cnt + 1) rest) (strB cs)).set js (some (strA jc mix (cnt + 1) c0')) = _
      rw [two_set1 ne]
  rintro ρ1 μ1 ⟨rfl, rest2, cs2, rfl, hr2, hc2⟩
  have dm : ∀ z : Int, ∃ d : Nat, d < m ∧ z % (m : Int) = (d : Int) := fun z => ⟨(z % (m : Int)).toNat, by have := Int.emod_nonneg z (b := (m : Int)) (by omega); have := Int.emod_lt_of_pos z (b := (m : Int)) (by omega); omega, by have := Int.emod_nonneg z (b := (m : Int)) (by omega); omega⟩
  refine tss_cons (tsp_ifE (et_gt (ev_ixC (ev_name 0) ev_int (f1 _ _ _) (atI_of 3 rfl rfl)) ev_int) (fun h => ?_) fun h => tss_nil ?_)
  · obtain ⟨d, hd, hde⟩ := dm rest2
    refine tss_cons (tsp_setV 2 nd ((ev_mod (ev_intI B.int (ev_ixC (ev_name 0) ev_int (f1 _ _ _) (atI_of 3 rfl rfl))) (ev_name 1) (by omega)).is (y := .sh (.int (d : Nat))) (by rw [hde])) ?_)
    refine tss_cons (tsp_seti ((ev_fdiv (ev_ixC (ev_name 0) ev_int (f1 _ _ _) (atI_of 3 rfl rfl)) (ev_name 1) ⟨by omega, by omega⟩) _ ((ev_name 0) _ ((ev_int) _ ⟨js, _, 3, rfl, rfl, f1 _ _ _, by simp, ?_⟩))))
    show TSs _ _ _ ((two μ js jc (strA jc mix (cnt + 1) rest2) (strB cs2)).set js (some (strA jc mix (cnt + 1) (rest2 / (m : Int))))) _
    rw [two_set1 ne]
    exact tss_one (tsp_retV (ev_name 2) (fin d mix _ cs2 hd rfl (Int.ediv_nonneg hr2 (by omega)) hc2))
  · have hb1 : (mix + 7919 * (cnt + 1) + 104729).natAbs < 2 ^ 64 := by omega
    refine tss_cons (tsp_setV 3 nd (ev_mod (ev_pow (ev_intI B.int (ev_add (ev_add (ev_ixC (ev_name 0) ev_int (f1 _ _ _) (atI_of 1 rfl rfl)) (ev_mul ev_int (ev_ixC (ev_name 0) ev_int (f1 _ _ _) (atI_of 2 rfl rfl)) (.inl (by omega)))) ev_int)) ev_int ⟨by omega, by omega, hb1⟩) ev_int (by decide)) ?_)
    generalize hz : (mix + 7919 * (cnt + 1) + 104729) ^ (5 : Int).toNat % 2147483647 = z
    have hz0 : 0 ≤ z := by rw [← hz]; exact Int.emod_nonneg _ (by decide)
    have hz1 : z < 2147483647 := by rw [← hz]; exact Int.emod_lt_of_pos _ (by decide)
    obtain ⟨d, hd, hde⟩ := dm ((z * 48271 + 30011 * (cnt + 1) + 29) ^ (3 : Int).toNat % 1000000007 / 2)
    refine tss_one (tsp_retV (x := .sh (.int (d : Nat))) ((ev_mod (ev_fdiv (ev_mod (ev_pow (ev_intI B.int (ev_add (ev_add (ev_mul (ev_name 3) ev_int (.inr (by omega))) (ev_mul ev_int (ev_ixC (ev_name 0) ev_int (f1 _ _ _) (atI_of 2 rfl rfl)) (.inl (by omega)))) ev_int)) ev_int ⟨by omega, by omega, by omega⟩) ev_int (by decide)) ev_int ⟨by decide, by decide⟩) (ev_name 1) (by omega)).is (by rw [hde])) (fin d mix rest2 cs2 hd rfl hr2 hc2))
end
end PV

namespace PV
open PySem PySem.Spec PyProof.Rows L2
/-- cells as they were, but for the stream's; more may have come -/
structure Ext2 (js jc : Nat) (μ μ' : Mu) : Prop where
  len : μ.length ≤ μ'.length
  at_ : ∀ i, i < μ.length → i ≠ js → i ≠ jc → μ'[i]? = μ[i]?
theorem Ext2.refl (js jc : Nat) (μ : Mu) : Ext2 js jc μ μ := ⟨Nat.le_refl _, fun _ _ _ _ => rfl⟩
theorem Ext2.trans {js jc : Nat} {μ μ1 μ2 : Mu} (a : Ext2 js jc μ μ1) (b : Ext2 js jc μ1 μ2) : Ext2 js jc μ μ2 := ⟨Nat.le_trans a.len b.len, fun i h h1 h2 => (b.at_ i (Nat.lt_of_lt_of_le h a.len) h1 h2).trans (a.at_ i h h1 h2)⟩
theorem But2.ext {js jc : Nat} {μ μ1 : Mu} (a : But2 js jc μ μ1) : Ext2 js jc μ μ1 := ⟨Nat.le_of_eq a.len.symm, fun i _ h1 h2 => a.at_ i h1 h2⟩
theorem Ext2.app (js jc : Nat) (μ : Mu) (l : Mu) : Ext2 js jc μ (μ ++ l) := ⟨by simp, fun i h _ _ => List.getElem?_append_left h⟩
theorem StrAt.lt {js jc N : Nat} {μ : Mu} (h : StrAt js jc N μ) : js < μ.length ∧ jc < μ.length := by
  obtain ⟨_, cs, mix, cnt, rest, h1, h2, _⟩ := h
  exact ⟨(List.getElem?_eq_some_iff.mp h1).1, (List.getElem?_eq_some_iff.mp h2).1⟩
theorem StrAt.app {js jc N : Nat} {μ : Mu} (h : StrAt js jc N μ) (l : Mu) : StrAt js jc N (μ ++ l) := by
  have hl := h.lt
  obtain ⟨ne, cs, mix, cnt, rest, h1, h2, r⟩ := h
  exact ⟨ne, cs, mix, cnt, rest, by rw [List.getElem?_append_left hl.1]; exact h1, by rw [List.getElem?_append_left hl.2]; exact h2, r⟩
theorem StrAt.set {js jc N k : Nat} {μ : Mu} (h : StrAt js jc N μ) (h1 : k ≠ js) (h2 : k ≠ jc) (c : Option Cell) : StrAt js jc N (μ.set k c) := by
  obtain ⟨ne, cs, mix, cnt, rest, e1, e2, r⟩ := h
  exact ⟨ne, cs, mix, cnt, rest, by rw [List.getElem?_set_ne h1]; exact e1, by rw [List.getElem?_set_ne h2]; exact e2, r⟩
theorem StrAt.mono {js jc N M : Nat} {μ : Mu} (h : StrAt js jc N μ) (l : N ≤ M) : StrAt js jc M μ := by
  obtain ⟨ne, cs, mix, cnt, rest, e1, e2, a, b, c, d, r⟩ := h
  exact ⟨ne, cs, mix, cnt, rest, e1, e2, a, b, c, by omega, r⟩
theorem map_erase {α β : Type} (f : α → β) : ∀ (l : List α) (d : Nat), (l.map f).eraseIdx d = (l.eraseIdx d).map f
  | [], _ => rfl
  | _ :: _, 0 => rfl
  | a :: l, d + 1 => congrArg (f a :: ·) (map_erase f l d)
theorem erase_perm {α : Type} : ∀ (l : List α) (d : Nat) (h : d < l.length), (l[d] :: l.eraseIdx d).Perm l
  | [], _, h => absurd h (by simp)
  | a :: l, 0, _ => List.Perm.refl _
  | a :: l, d + 1, h => (List.Perm.swap a (l[d]'(by simpa using h)) _).trans ((erase_perm l d (by simpa using h)).cons a)
def S_pick : PSpec := fun xs μ Q => ∃ (js jc N : Nat) (things : List P), xs = [.pt js, .sh (.lst things)] ∧ StrAt js jc N μ ∧ N < 100000000 ∧ 0 < things.length ∧ things.length < 1000 ∧ ∀ y μ', y ∈ things → But2 js jc μ μ' → StrAt js jc (N + 1) μ' → Q (.sh y) μ'
def S_mixed : PSpec := fun xs μ Q => ∃ (js jc N : Nat) (things : List P), xs = [.pt js, .sh (.lst things)] ∧ StrAt js jc N μ ∧ N < 90000000 ∧ things.length < 900 ∧ ∀ ys μ', ys.Perm things → Ext2 js jc μ μ' → StrAt js jc (N + things.length) μ' → Q (.sh (.lst ys)) μ'
section
variable {g : Bool} {Pr : Program} {w : World} {K : PySem.W.Frag} {mg : Str → Option Value} {base : Heap} {f : Addr} {fd : FuncData} {C : Addr}
/-- _law_draw(stream, e) -/
theorem tep_draw {X : Cx} {e1 e2 : Expr} {ρ : Rho} {μ : Mu} {Q : E → Mu → Prop} {pos p2 : Pos} {k js jc N m : Nat} (c : Ct g X.prog X.w X.K X.mg X.base k "_law_draw" S_draw) (hr : RoomG g k X.A) (h1 : EV X e1 ρ μ (.pt js)) (h2 : EV X e2 ρ μ (.sh (.int (m : Nat)))) (hS : StrAt js jc N μ) (hN : N < 100000000) (hm : 0 < m) (hm2 : m < 1000)
    (q : ∀ (d : Nat) μ', d < m → But2 js jc μ μ' → StrAt js jc (N + 1) μ' → Q (.sh (.int (d : Nat))) μ') (hg : Gl X "_law_draw" := by rfl) (hs1 : starEach [e1, e2] X.env = (false, eval e1 X.env) :: starEach [e2] X.env := by rfl) (hs2 : starEach [e2] X.env = (false, eval e2 X.env) :: starEach [] X.env := by rfl) : TEP X (.Call (.Name "_law_draw" p2) [e1, e2] [] pos) ρ μ Q :=
  tep_call c hr (tap_consV h1 (tap_consV h2 (tap_nil ⟨js, jc, N, m, rfl, hS, hN, hm, hm2, q⟩) hs2) hs1) hg (by decide) hs1 (by rw [hs2]; rfl)
theorem sc_law_pick : FnScope ["_law_stream", "_law_things"] ["_law_stream", "_law_things"] (defScope s_law_pick) := ⟨rfl, rfl, rfl, by decide +kernel, rfl, by decide +kernel, by decide +kernel⟩
theorem c_law_pick (F : FnP K "_law_pick" "_law_pick" s_law_pick f fd) (hm : mg "_law_pick" = some (.ref f)) (B : Bl mg) (c1 : Ct g Pr w K mg base 1 "_law_draw" S_draw) : Ct g Pr w K mg base 2 "_law_pick" S_pick := by
  refine ct_of F hm sc_law_pick (fun _ _ _ _ _ _ us hl => match us, hl with | [_, _], _ => rfl) (by rintro _ _ _ ⟨js, jc, N, m, rfl, _⟩; rfl) fun cdv A outer s H E hr xs μ Q hS => ?_
  obtain ⟨js, jc, N, things, rfl, hA, hN, h0, h1, q⟩ := hS
  refine tss_one (tsp_ret (tep_ix ix_list (by intro _ _; rfl) ((ev_name 1) _ (tep_draw c1 hr (m := things.length) (ev_name 0) (ev_len B.len (ev_name 1)) hA hN h0 h1 fun d μ' hd b s' => ?_))))
  exact v2_ixL (atI_of d rfl (List.getElem?_eq_getElem hd)) (q _ _ (List.getElem_mem hd) b s')
theorem sc_law_mixed : FnScope ["_law_stream", "_law_things", "_law_left", "_law_found", "_law_k"] ["_law_stream", "_law_things"] (defScope s_law_mixed) := ⟨rfl, rfl, rfl, by decide +kernel, rfl, by decide +kernel, by decide +kernel⟩
theorem c_law_mixed (F : FnP K "_law_mixed" "_law_mixed" s_law_mixed f fd) (hm : mg "_law_mixed" = some (.ref f)) (B : Bl mg) (c1 : Ct g Pr w K mg base 1 "_law_draw" S_draw) : Ct g Pr w K mg base 2 "_law_mixed" S_mixed := by
  refine ct_of F hm sc_law_mixed (fun _ _ _ _ _ _ us hl => match us, hl with | [_, _], _ => rfl) (by rintro _ _ _ ⟨js, jc, N, m, rfl, _⟩; rfl) fun cdv A outer s H E hr xs μ Q hS => ?_
  obtain ⟨js, jc, N, things, rfl, hA, hN, h0, q⟩ := hS
  have nd := sc_law_mixed.nd
  have hl := hA.lt
  refine tss_cons (tsp_par2A 2 3 nd (tap_cons (tep_listC B.list ((ev_name 1) _ ⟨things, .inl rfl, tap_cons (tep_lstC (tap_nil ⟨by decide, tap_nil ⟨_, _, rfl, ?_⟩⟩))⟩))))
  let R : Option PV.E → Rho := fun a => [some (.pt js), some (.sh (.lst things)), some (.pt μ.length), some (.pt (μ.length + 1)), a]
  have e0 : (μ ++ [some (Cell.lst (things.map .sh))]).length = μ.length + 1 := by simp
  rw [e0]
  refine tss_cons (tsp_forL (List.range things.length) (fun k => .int (k : Nat)) [4] (fun i ρ2 μ2 => (∃ a, ρ2 = R a) ∧ ∃ lf fo : List P, μ2.length = μ.length + 2 ∧ μ2[μ.length]? = some (some (.lst (lf.map .sh))) ∧ μ2[μ.length + 1]? = some (some (.lst (fo.map .sh))) ∧ lf.length + i = things.length ∧ fo.length = i ∧ (fo ++ lf).Perm things ∧ StrAt js jc (N + i) μ2 ∧ ∀ i, i < μ.length → i ≠ js → i ≠ jc → μ2[i]? = μ[i]?)
    (ei_range1 B.range (ev_lenC B.len (ev_name 2) (by rw [List.getElem?_append_left (by simp), List.getElem?_append_right (Nat.le_refl _), Nat.sub_self]; rfl)) (by simp; omega)) ⟨⟨none, rfl⟩, things, [], by simp, ?_, ?_, by simp, rfl, by simp, ?_, ?_⟩ ?_ ?_)
  · rw [List.getElem?_append_left (by simp), List.getElem?_append_right (Nat.le_refl _), Nat.sub_self]
    rfl
  · rw [List.getElem?_append_right (by simp)]
    simp
  · exact (hA.app _).app _
  · intro i hi _ _
    rw [List.append_assoc, List.getElem?_append_left hi]
  · rintro i k ρ2 μ2 hk ⟨⟨a, rfl⟩, lf, fo, hlen, hL, hF, hlf, hfo, pm, hS2, hold⟩
    obtain ⟨hi, rfl⟩ := List.getElem?_eq_some_iff.mp hk
    simp only [List.length_range] at hi
    refine tgp_name 4 ?_ (by decide) nd rfl (.inl rfl) (.inl rfl)
    refine tss_one (tsp_expr (tep_append ((ev_name 3) _ ⟨μ.length + 1, _, rfl, hF, tep_popAt ((ev_name 2) _ ⟨μ.length, _, rfl, hL, tep_draw c1 hr (m := lf.length) (ev_name 0) ((ev_lenC B.len (ev_name 2) hL).is (by simp)) hS2 (by omega) (by omega) (by omega) fun d μ' hd b s' => ?_⟩)⟩)))
    have hL' : μ'[μ.length]? = some (some (.lst (lf.map .sh))) := (b.at_ _ (by omega) (by omega)).trans hL
    have hF' : μ'[μ.length + 1]? = some (some (.lst (fo.map .sh))) := (b.at_ _ (by omega) (by omega)).trans hF
    refine ⟨lf.map .sh, d, .sh lf[d], hL', rfl, by rw [List.getElem?_map, List.getElem?_eq_getElem hd]; rfl, by omega, ?_⟩
    have hl' : μ'.length = μ.length + 2 := b.len.trans hlen
    refine ⟨fo.map .sh, ?_, by rw [List.length_map]; omega, ?_⟩
    · rw [List.getElem?_set_ne (by omega)]
      exact hF'
    · have hd2 : lf[d]? = some lf[d] := List.getElem?_eq_getElem hd
      refine ⟨⟨_, rfl⟩, lf.eraseIdx d, fo ++ [lf[d]], by simp [hl'], ?_, ?_, ?_, by simp [hfo], ?_, ?_, fun i2 h1 h2 h3 => ?_⟩
      · rw [List.getElem?_set_ne (by omega), List.getElem?_set_self (by omega), map_erase]
      · rw [List.getElem?_set_self (by rw [List.length_set]; omega), List.map_append]
        rfl
      · rw [List.length_eraseIdx_of_lt hd]
        omega
      · refine List.Perm.trans ?_ pm
        rw [List.append_assoc]
        exact List.Perm.append_left fo (erase_perm lf d hd)
      · rw [← Nat.add_assoc]
        exact (s'.set (by omega) (by omega) _).set (by omega) (by omega) _
      · rw [List.getElem?_set_ne (by omega), List.getElem?_set_ne (by omega), b.at_ _ h2 h3]
        exact hold i2 h1 h2 h3
  · rintro ρ2 μ2 ⟨⟨a, rfl⟩, lf, fo, hlen, hL, hF, hlf, hfo, pm, hS2, hold⟩
    rw [List.length_range] at hlf hfo hS2
    have hnil : lf = [] := List.length_eq_zero_iff.mp (by omega)
    subst hnil
    rw [List.append_nil] at pm
    refine tss_share (μ.length + 1) (zs := fo) (R := [some (.pt js), some (.sh (.lst things)), some (.pt μ.length), some (.sh (.lst fo)), a]) hF rfl ?_ ?_
    · intro i2 x2 hx2
      match i2, hx2 with
      | 0, h => exact .inl h
      | 1, h => exact .inl h
      | 2, h => exact .inl h
      | 3, h => cases h; exact .inr ⟨rfl, rfl⟩
      | i2 + 4, h => exact .inl h
    · refine tss_one (tsp_retV (ev_name 3) (q fo _ pm ⟨by rw [List.length_set]; omega, fun i2 h1 h2 h3 => ?_⟩ (hS2.set (by omega) (by omega) _)))
      rw [List.getElem?_set_ne (by omega)]
      exact hold i2 h1 h2 h3
end
end PV

namespace PV
open PySem PySem.Spec PyProof.Rows L2
section
variable {X : Cx} {tg iter elt : Expr} {ρ : Rho} {μ : Mu} {pos : Pos} {scope : Scope} {items : List E}
/-- [elt for x in .. if c], to be changed -/
theorem tep_lc1C {α : Type} (l : List α) (f : α → P) (r : α → Rho) (p : α → Bool) (g : α → P) (js : List Nat) (own : List (Str × Nat)) {c : Expr} {Q : E → Mu → Prop} (nd : X.N.Nodup) (ok : BlkOk X.N X.env.scope scope own) (hi : EI X tg iter ρ μ items) (hl : l.length ≤ 100000)
    (ht : ∀ a ∈ l, TgB X scope tg js (.sh (f a)) (wipeR ρ (own.map (·.2))) (r a) μ) (hp : ∀ a ∈ l, ETB X scope c (r a) μ (p a)) (he : ∀ a ∈ l, p a = true → EVB X scope elt (r a) μ (.sh (g a))) (q : Q (.pt μ.length) (μ ++ [some (.lst (((l.filter p).map g).map .sh))]))
    (hz : items = l.map (fun a => .sh (f a)) := by first | rfl | (rw [List.map_map]; rfl) | simp) (hjs : ∀ j ∈ js, j ∈ own.map (·.2) := by decide) (hc : X.calm = true := by rfl) (hs : ∀ x, foldedSetIterable iter X.env x = pure x := by intro _; rfl) : TEP X (.ListComp elt [⟨tg, iter, [c], 0⟩] scope pos) ρ μ Q :=
  tep_lcC own js hc nd ok hjs (lc_inv (p := p) (g := g) (Fin := fun acc μ2 => Q (.pt μ2.length) (μ2 ++ [some (.lst acc)])) (hi.is hz) hl ht (fun a ha => ttsb1 (hp a ha)) (fun a ha h Q q s H C cl fp => he a ha h s H C cl fp Q q) q) hs
end
def S_start : PSpec := fun xs μ Q => ∃ ns : List Int, xs = [.sh (.scr (ns.map .int))] ∧ ns.length ≤ 1000 ∧ ∀ μ', StrAt (μ.length + 1) μ.length 0 μ' → μ'.length = μ.length + 2 → (∀ i, i < μ.length → μ'[i]? = μ[i]?) → Q (.pt (μ.length + 1)) μ'
section
variable {g : Bool} {Pr : Program} {w : World} {K : PySem.W.Frag} {mg : Str → Option Value} {base : Heap} {f : Addr} {fd : FuncData} {C : Addr}
theorem sc_law_start : FnScope ["_law_script", "_law_mix", "_law_cell"] ["_law_script"] (defScope s_law_start) := ⟨rfl, rfl, rfl, by decide +kernel, rfl, by decide +kernel, by decide +kernel⟩
theorem c_law_start (F : FnP K "_law_start" "_law_start" s_law_start f fd) (hm : mg "_law_start" = some (.ref f)) (B : Bl mg) : Ct g Pr w K mg base 1 "_law_start" S_start := by
  refine ct_of F hm sc_law_start (fun _ _ _ _ _ _ us hl => match us, hl with | [_], _ => rfl) (by rintro _ _ _ ⟨ns, rfl, _⟩; rfl) fun cdv A outer s H E hr xs μ Q hS => ?_
  obtain ⟨ns, rfl, hns, q⟩ := hS
  have nd := sc_law_start.nd
  refine tss_cons (tsp_setV 1 nd ev_int ?_)
  refine tss_cons (tsp_forL ns (fun i => .int i) [2] (fun i ρ2 μ2 => μ2 = μ ∧ ∃ (mix : Int) (a : Option PV.E), 0 ≤ mix ∧ mix < 2147483629 ∧ ρ2 = [some (.sh (.scr (ns.map .int))), some (.sh (.int mix)), a]) (ei_scr (ev_name 0)) ⟨rfl, 17, none, by decide, by decide, rfl⟩ ?_ ?_)
  · rintro i z ρ2 μ2 hz ⟨rfl, mix, a, m0, m1, rfl⟩
    refine tgp_name 2 ?_ (by decide) nd rfl (.inl rfl) (.inl rfl)
    refine tss_one (tsp_setV 1 nd (ev_mod (ev_intI B.int (ev_add (ev_add (ev_mul (ev_name 1) ev_int (.inr (by omega))) (ev_name 2)) ev_int)) ev_int (by decide)) ⟨rfl, _, _, Int.emod_nonneg _ (by decide), Int.emod_lt_of_pos _ (by decide), rfl⟩)
  · rintro ρ2 μ2 ⟨rfl, mix, a, m0, m1, rfl⟩
    refine tss_one (tsp_ret (tep_lstC (tap_cons (tep_lc1C ns (fun i => .int i) (fun i => [some (.sh (.scr (ns.map .int))), some (.sh (.int mix)), some (.sh (.int i))]) (fun i => decide ((10 : Int) ^ (18 : Int).toNat ≤ i)) (fun i => .int i) [2] [("_law_cell", 2)] nd (blkOk_by (by kernel_rfl)) (ei_scr (ev_name 0)) (Nat.le_trans hns (by decide)) (fun a _ => tgb_name 2 nd (by decide) rfl rfl)
      (fun i _ s H C cl fp => et_ge (ev_name 2) (ev_pow ev_int ev_int ⟨by decide, by decide, by decide⟩)) (fun i _ _ s H C cl fp => ev_name 2) (tap_consV (ev_name 1) (tap_consV ev_int (tap_consV ev_int (tap_nil ⟨Nat.le_of_ble_eq_true rfl, ?_⟩))))))))
    have e1 : (μ2 ++ [some (Cell.lst (((ns.filter fun i => decide ((10 : Int) ^ (18 : Int).toNat ≤ i)).map fun i => P.int i).map .sh))]).length = μ2.length + 1 := by simp
    rw [e1]
    refine q _ ⟨by omega, ns.filter fun i => decide ((10 : Int) ^ (18 : Int).toNat ≤ i), mix, 0, 0, ?_, ?_, m0, m1, by decide, by decide, by decide, fun c hc => ?_⟩ (by simp) (fun i hi => ?_)
    · rw [List.getElem?_append_right (by simp)]
      simp
      rfl
    · rw [List.getElem?_append_left (by simp), List.getElem?_append_right (Nat.le_refl _), Nat.sub_self]
      rfl
    · have h1 := of_decide_eq_true (List.mem_filter.mp hc).2
      have h2 : (0 : Int) < (10 : Int) ^ (18 : Int).toNat := by decide
      omega
    · rw [List.append_assoc, List.getElem?_append_left hi]
end
end PV

namespace PV
open PySem PySem.Spec PyProof.Rows L2
theorem perm_map {α β : Type} (f : α → β) {xs ys : List β} (h : xs.Perm ys) : ∀ {l : List α}, xs = l.map f → ∃ l2 : List α, l2.Perm l ∧ ys = l2.map f := by
  induction h with
  | nil =>
    intro l e
    cases l with
    | nil => exact ⟨[], .nil, rfl⟩
    | cons _ _ => cases e
  | cons x _ ih =>
    intro l e
    cases l with
    | nil => cases e
    | cons a l =>
      obtain ⟨l2, h1, h2⟩ := ih (List.cons.inj e).2
      exact ⟨a :: l2, h1.cons a, by rw [h2, List.map_cons, (List.cons.inj e).1]⟩
  | swap x y l0 =>
    intro l e
    cases l with
    | nil => cases e
    | cons a l =>
      cases l with
      | nil => cases (List.cons.inj e).2
      | cons b l =>
        have e1 := List.cons.inj e
        have e2 := List.cons.inj e1.2
        exact ⟨b :: a :: l, .swap a b l, by rw [List.map_cons, List.map_cons, e1.1, e2.1, e2.2]⟩
  | trans _ _ ih1 ih2 =>
    intro l e
    obtain ⟨l2, h1, h2⟩ := ih1 e
    obtain ⟨l3, h3, h4⟩ := ih2 h2
    exact ⟨l3, h3.trans h1, h4⟩
/-- a net as the law draws it -/
structure Drawn (most n : Nat) (as : List Arc) (or : List Nat) : Prop where
  n1 : 1 ≤ n
  n5 : n ≤ 5
  perm : or.Perm (List.range n)
  len : as.length ≤ most
  inn : InN n as
  small : ∀ a ∈ as, a.2.2.1 ≤ 2 ∧ a.2.2.2 ≤ 9
  fw : ∀ a ∈ as, a.2.2.1 = 0 → or.idxOf a.1 < or.idxOf a.2.1
def S_net : PSpec := fun xs μ Q => ∃ js jc N most : Nat, xs = [.pt js, .sh (.int (most : Nat))] ∧ StrAt js jc N μ ∧ N < 80000000 ∧ most ≤ 20 ∧ ∀ n as or μ', Drawn most n as or → Ext2 js jc μ μ' → StrAt js jc (N + 400) μ' → Q (.sh (.tup [.int (n : Nat), .lst (as.map arcP)])) μ'
section
variable {g : Bool} {Pr : Program} {w : World} {K : PySem.W.Frag} {mg : Str → Option Value} {base : Heap} {f : Addr} {fd : FuncData} {C : Addr}
theorem tep_pick {X : Cx} {e1 e2 : Expr} {ρ : Rho} {μ : Mu} {Q : E → Mu → Prop} {pos p2 : Pos} {k js jc N : Nat} {ys : List P} (c : Ct g X.prog X.w X.K X.mg X.base k "_law_pick" S_pick) (hr : RoomG g k X.A) (h1 : EV X e1 ρ μ (.pt js)) (h2 : EV X e2 ρ μ (.sh (.lst ys))) (hS : StrAt js jc N μ) (hN : N < 100000000) (hm : 0 < ys.length) (hm2 : ys.length < 1000)
    (q : ∀ y μ', y ∈ ys → But2 js jc μ μ' → StrAt js jc (N + 1) μ' → Q (.sh y) μ') (hg : Gl X "_law_pick" := by rfl) (hs1 : starEach [e1, e2] X.env = (false, eval e1 X.env) :: starEach [e2] X.env := by rfl) (hs2 : starEach [e2] X.env = (false, eval e2 X.env) :: starEach [] X.env := by rfl) : TEP X (.Call (.Name "_law_pick" p2) [e1, e2] [] pos) ρ μ Q :=
  tep_call c hr (tap_consV h1 (tap_consV h2 (tap_nil ⟨js, jc, N, ys, rfl, hS, hN, hm, hm2, q⟩) hs2) hs1) hg (by decide) hs1 (by rw [hs2]; rfl)
theorem sc_law_n_net : FnScope ["_law_stream", "_law_most", "_law_many", "_law_arcs", "_law_order", "_law_k", "_law_one", "_law_other", "_law_tokens"] ["_law_stream", "_law_most"] (defScope s_law_n_net) := ⟨rfl, rfl, rfl, by decide +kernel, rfl, by decide +kernel, by decide +kernel⟩
theorem c_law_n_net (F : FnP K "_law_n_net" "_law_n_net" s_law_n_net f fd) (hm : mg "_law_n_net" = some (.ref f)) (B : Bl mg) (c1 : Ct g Pr w K mg base 1 "_law_draw" S_draw) (c2 : Ct g Pr w K mg base 2 "_law_pick" S_pick) (c3 : Ct g Pr w K mg base 2 "_law_mixed" S_mixed) :
    Ct g Pr w K mg base 3 "_law_n_net" S_net := by
  refine ct_of F hm sc_law_n_net (fun _ _ _ _ _ _ us hl => match us, hl with | [_, _], _ => rfl) (by rintro _ _ _ ⟨js, jc, N, m, rfl, _⟩; rfl) fun cdv A outer s H E hr xs μ Q hS => ?_
  obtain ⟨js, jc, N, most, rfl, hA, hN, hmo, q⟩ := hS
  have nd := sc_law_n_net.nd
  have hl := hA.lt
  have hr1 := hr.mono (j := 1) (by decide)
  refine tss_cons (tsp_par2A 2 3 nd (tap_cons (tep_add ((ev_int) _ (tep_draw c1 hr1 (m := 5) (ev_name 0) ev_int hA (by omega) (by decide) (by decide) fun d μ1 hd b1 s1 => ⟨1, (d : Int), rfl, rfl, ?_⟩)))))
  rw [show (1 : Int) + (d : Nat) = ((d + 1 : Nat) : Int) by omega]
  generalize hn : d + 1 = n
  have hn1 : 1 ≤ n := by omega
  have hn5 : n ≤ 5 := by omega
  refine tap_cons (tep_lstC (tap_nil ⟨by decide, tap_nil ⟨_, _, rfl, ?_⟩⟩))
  rw [b1.len]
  refine tss_cons (tsp_setP 4 nd (tep_call c3 hr (tap_consV (ev_name 0) (tap_cons (tep_listRg B.list B.range (ev_name 2) (by omega) (tap_nil ⟨js, jc, N + 1, natsP (List.range n), rfl, s1.app _, by omega, by rw [natsP_len, List.length_range]; omega, fun ys μ2 pm x2 s2 => ?_⟩)))))) 
  obtain ⟨or, po, rfl⟩ := perm_map (fun e : Nat => P.int (e : Nat)) pm.symm (l := List.range n) rfl
  rw [natsP_len, List.length_range] at s2
  have hl2 : μ2.length ≥ μ.length + 1 := by have := x2.len; rw [List.length_append, b1.len] at this; simpa using this
  have hA2 : μ2[μ.length]? = some (some (.lst ((([] : List Arc).map arcP).map .sh))) := by
    rw [x2.at_ μ.length (by rw [List.length_append, b1.len]; simp) (by omega) (by omega), List.getElem?_append_right (by rw [b1.len]; exact Nat.le_refl _), b1.len, Nat.sub_self]
    rfl
  have hX2 : Ext2 js jc μ μ2 := b1.ext.trans ((Ext2.app js jc μ1 _).trans x2)
  have inOr : ∀ e, e < n → e ∈ or := fun e he => po.mem_iff.mpr (List.mem_range.mpr he)
  let R : Option PV.E → Option PV.E → Option PV.E → Option PV.E → Rho := fun a b c d => [some (.pt js), some (.sh (.int (most : Nat))), some (.sh (.int (n : Nat))), some (.pt μ.length), some (.sh (.lst (natsP or))), a, b, c, d]
  refine tss_cons (tsp_for [5] (tip_range1 B.range (tep_draw c1 hr1 (m := most + 1) (ev_name 0) (ev_addN (j := 1) (ev_name 1) ev_int) s2 (by omega) (by omega) (by omega) fun cnt μ3 hcnt b3 s3 => ⟨cnt, rfl, by omega,
    fun i ρ4 μ4 => (∃ a b c d, ρ4 = R a b c d) ∧ ∃ as : List Arc, μ4[μ.length]? = some (some (.lst ((as.map arcP).map .sh))) ∧ StrAt js jc (N + 20 + 10 * i) μ4 ∧ Ext2 js jc μ μ4 ∧ μ4.length ≥ μ.length + 1 ∧ as.length = i ∧ InN n as ∧ (∀ a ∈ as, a.2.2.1 ≤ 2 ∧ a.2.2.2 ≤ 9) ∧ (∀ a ∈ as, a.2.2.1 = 0 → or.idxOf a.1 < or.idxOf a.2.1), ?_, fun _ _ _ _ _ => trivial, ?_, ?_⟩)) (fun _ _ h => h.elim) rfl (by intro _; rfl))
  · exact ⟨⟨_, _, _, _, rfl⟩, [], by rw [b3.at_ μ.length (by omega) (by omega)]; exact hA2, s3.mono (by omega), hX2.trans b3.ext, by rw [b3.len]; exact hl2, rfl, fun a h => absurd h (by simp), fun a h => absurd h (by simp), fun a h => absurd h (by simp)⟩
  · rintro i x ρ4 μ4 hx ⟨⟨a, b, c, d, rfl⟩, as, hC, hS4, hX4, hlen4, hasl, hin, hsm, hfw⟩
    have hi : i < cnt := by
      have := (List.getElem?_eq_some_iff.mp hx).1
      simpa using this
    refine tgp_name 5 ?_ (by decide) nd rfl (.inl rfl) (.inl rfl)
    refine tss_cons (tsp_par2A 6 7 nd (tap_cons (tep_draw c1 hr1 (m := n) (ev_name 0) (ev_name 2) hS4 (by omega) (by omega) (by omega) fun one μ5 h5 b5 s5 => tap_cons (tep_draw c1 hr1 (m := n) (ev_name 0) (ev_name 2) s5 (by omega) (by omega) (by omega) fun other μ6 h6 b6 s6 => tap_nil ⟨_, _, rfl, ?_⟩))))
    refine tss_cons (tsp_setP 8 nd (tep_pick c2 hr (ev_name 0) (ev_lst (eas_cons ev_int (eas_cons ev_int (eas_cons ev_int (eas_cons ev_int (eas_cons ev_int eas_nil)))))) s6 (by omega) (by decide) (by decide) fun y μ7 hy b7 s7 => ?_))
    obtain ⟨t, ht, rfl⟩ : ∃ t : Nat, t ≤ 2 ∧ y = .int (t : Nat) := by
      simp only [List.mem_cons, List.not_mem_nil, or_false] at hy
      rcases hy with rfl | rfl | rfl | rfl | rfl
      · exact ⟨0, by decide, rfl⟩
      · exact ⟨0, by decide, rfl⟩
      · exact ⟨1, by decide, rfl⟩
      · exact ⟨1, by decide, rfl⟩
      · exact ⟨2, by decide, rfl⟩
    have b47 : But2 js jc μ4 μ7 := (b5.trans b6).trans b7
    refine tss_cons (tsp_mid (fun ρ8 μ8 => ∃ t2 : Nat, t2 ≤ 2 ∧ (t2 = 0 → or.idxOf one < or.idxOf other) ∧ But2 js jc μ4 μ8 ∧ StrAt js jc (N + 20 + 10 * i + 4) μ8 ∧ ρ8 = R (some x) (some (.sh (.int (one : Nat)))) (some (.sh (.int (other : Nat)))) (some (.sh (.int (t2 : Nat)))))
      (tsp_ifE (et_w (ew_and (et_eqI (ev_name 8) ev_int) fun _ => ew_and1 (et_ge (ev_indexN (ev_name 4) (ev_name 6) (inOr one h5)) (ev_indexN (ev_name 4) (ev_name 7) (inOr other h6))))) (fun h => tss_one (tsp_setP 8 nd (tep_add ((ev_int) _ (tep_draw c1 hr1 (m := 2) (ev_name 0) ev_int s7 (by omega) (by decide) (by decide) fun d8 μ8 h8 b8 s8 => ⟨1, (d8 : Int), rfl, rfl, d8 + 1, by omega, by omega, b47.trans b8, s8.mono (by omega), ?_⟩))))) fun h => tss_nil ⟨t, ht, fun h0 => ?_, b47, s7.mono (by omega), rfl⟩) ?_)
    · rw [show (1 : Int) + (d8 : Nat) = ((d8 + 1 : Nat) : Int) by omega]
      rfl
    · subst h0
      simp at h
      omega
    rintro ρ8 μ8 ⟨t2, ht2, hfw2, b8, s8, rfl⟩
    have hC8 : μ8[μ.length]? = some (some (.lst ((as.map arcP).map .sh))) := (b8.at_ _ (by omega) (by omega)).trans hC
    refine tss_one (tsp_expr (tep_append ((ev_name 3) _ ⟨μ.length, _, rfl, hC8, tep_tup (tap_consV (ev_name 6) (tap_consV (ev_name 7) (tap_consV (ev_name 8) (tap_cons (tep_pick c2 hr (ev_name 0) (ev_lst (eas_cons ev_int (eas_cons ev_int (eas_cons ev_int (eas_cons ev_int (eas_cons ev_int (eas_cons ev_int eas_nil))))))) s8 (by omega) (by decide) (by decide) fun y μ9 hy b9 s9 => tap_nil ?_)))))⟩)))
    obtain ⟨d9, hd9, rfl⟩ : ∃ t : Nat, t ≤ 9 ∧ y = .int (t : Nat) := by
      simp only [List.mem_cons, List.not_mem_nil, or_false] at hy
      rcases hy with rfl | rfl | rfl | rfl | rfl | rfl
      · exact ⟨0, by decide, rfl⟩
      · exact ⟨1, by decide, rfl⟩
      · exact ⟨2, by decide, rfl⟩
      · exact ⟨3, by decide, rfl⟩
      · exact ⟨5, by decide, rfl⟩
      · exact ⟨9, by decide, rfl⟩
    have b49 : But2 js jc μ4 μ9 := b8.trans b9
    have hC9 : μ9[μ.length]? = some (some (.lst ((as.map arcP).map .sh))) := (b9.at_ _ (by omega) (by omega)).trans hC8
    have hl9 := b49.len
    refine ⟨arcL (one, other, t2, d9), rfl, by simp [arcL], _, hC9, by rw [List.length_map, List.length_map]; omega, ⟨_, _, _, _, rfl⟩, as ++ [(one, other, t2, d9)], ?_, (s9.mono (by omega)).set (by omega) (by omega) _, ⟨by rw [List.length_set]; have := hX4.len; omega, fun i2 h1 h2 h3 => ?_⟩, by rw [List.length_set]; omega, by simp [hasl], fun a ha => ?_, fun a ha => ?_, fun a ha => ?_⟩
    · rw [List.getElem?_set_self (by omega), List.map_append, List.map_append]
      rfl
    · rw [List.getElem?_set_ne (by omega), b49.at_ _ h2 h3]
      exact hX4.at_ i2 h1 h2 h3
    · rcases List.mem_append.mp ha with z | z
      · exact hin a z
      · rw [List.mem_singleton.mp z]; exact ⟨h5, h6⟩
    · rcases List.mem_append.mp ha with z | z
      · exact hsm a z
      · rw [List.mem_singleton.mp z]; exact ⟨ht2, hd9⟩
    · rcases List.mem_append.mp ha with z | z
      · exact hfw a z
      · rw [List.mem_singleton.mp z]; exact hfw2
  · rintro ρ4 μ4 ⟨⟨a, b, c, d, rfl⟩, as, hC, hS4, hX4, hlen4, hasl, hin, hsm, hfw⟩
    simp only [List.length_map, List.length_range] at hasl hS4
    refine tss_share μ.length (zs := as.map arcP) (R := [some (.pt js), some (.sh (.int (most : Nat))), some (.sh (.int (n : Nat))), some (.sh (.lst (as.map arcP))), some (.sh (.lst (natsP or))), a, b, c, d]) hC rfl ?_ ?_
    · intro i2 x2' hx2
      match i2, hx2 with
      | 0, h => exact .inl h
      | 1, h => exact .inl h
      | 2, h => exact .inl h
      | 3, h => cases h; exact .inr ⟨rfl, rfl⟩
      | i2 + 4, h => exact .inl h
    · refine tss_one (tsp_retV (ev_tup (ys := [.int (n : Nat), .lst (as.map arcP)]) (eas_cons (ev_name 2) (eas_cons (ev_name 3) eas_nil))) (q n as or _ ⟨hn1, hn5, po, by omega, hin, hsm, hfw⟩ ⟨by rw [List.length_set]; exact hX4.len, fun i2 h1 h2 h3 => ?_⟩ ((hS4.mono (by omega)).set (by omega) (by omega) _)))
      rw [List.getElem?_set_ne (by omega)]
      exact hX4.at_ i2 h1 h2 h3
end
end PV

namespace PV
open PySem PySem.Spec PyProof.Rows L2
def lnetP (n : Nat) (as : List Arc) : P := .tup [.int (n : Nat), .lst (as.map arcP)]
section
variable {g : Bool} {Pr : Program} {w : World} {K : PySem.W.Frag} {mg : Str → Option Value} {base : Heap} {f : Addr} {fd : FuncData} {C : Addr}
theorem sc_law_n_links : FnScope ["_law_net", "_law_event"] ["_law_net"] (defScope s_law_n_links) := ⟨rfl, rfl, rfl, by decide +kernel, rfl, by decide +kernel, by decide +kernel⟩
def F_law_n_links (zs : List P) (y : P) : Prop := ∃ n as, zs = [lnetP n as] ∧ n ≤ 20 ∧ as.length ≤ 1000 ∧ y = .lst ((as ++ selfArcs n).map arcP)
theorem c_law_n_links (F : FnP K "_law_n_links" "_law_n_links" s_law_n_links f fd) (hm : mg "_law_n_links" = some (.ref f)) (B : Bl mg) : Ct g Pr w K mg base 1 "_law_n_links" (SF F_law_n_links) := by
  refine ct_pure F hm sc_law_n_links (fun _ _ _ _ _ _ us hl => match us, hl with | [_], _ => rfl) (by rintro _ _ ⟨n, as, rfl, _⟩; rfl) fun cdv A outer s H E hr zs y hF => ?_
  obtain ⟨n, as, rfl, hn, hl, rfl⟩ := hF
  have nd := sc_law_n_links.nd
  refine tss_one (tsp_retV ((ev_cat (ev_ixT (xs := [.int (n : Nat), .lst (as.map arcP)]) (ev_name 0) ev_int rfl) (ev_lc0 (List.range n) (fun e => .int (e : Nat)) (fun e => [some (.sh (lnetP n as)), some (.sh (.int (e : Nat)))]) (fun e => arcP (e, e, 1, 0)) [1] [("_law_event", 1)] rfl nd (blkOk_by (by kernel_rfl)) (ei_range1 B.range (ev_ixT (xs := [.int (n : Nat), .lst (as.map arcP)]) (ev_name 0) ev_int rfl) (by omega)) (by simp; omega) (fun a _ => tgb_name 1 nd (by decide) rfl rfl)
    (fun e _ s H C cl fp => ev_tup (eas_cons (ev_name 1) (eas_cons (ev_name 1) (eas_cons ev_int (eas_cons ev_int eas_nil)))) (Nat.le_of_ble_eq_true rfl))) (by simp; omega)).is (y := .sh (.lst ((as ++ selfArcs n).map arcP))) (by unfold selfArcs; rw [List.map_append, List.map_map]; rfl)) (.sh _))
end
end PV

namespace PV
open PySem PySem.Spec PyProof.Rows L2
/-- the most that a link asks of q by p, -1 where none does -/
def askedL (n : Nat) (as : List Arc) (p q : PR) : Int := maxL (((as ++ selfArcs n).filter fun a => decide (a.1 = p.1) && decide (a.2.1 = q.1) && decide ((a.2.2.1 : Int) = (q.2 : Int) - p.2)).map (fun a => (a.2.2.2 : Int)) ++ [-1])
section
variable {g : Bool} {Pr : Program} {w : World} {K : PySem.W.Frag} {mg : Str → Option Value} {base : Heap} {f : Addr} {fd : FuncData} {C : Addr}
theorem eqv3 (a b : Nat) (i j : Nat) (c d : Int) : PyData.eqv (.tuple [.int (a : Int), .int (b : Int), .int c]) (.tuple [.int (i : Int), .int (j : Int), .int d]) = (decide (a = i) && decide (b = j) && decide (c = d)) := by
  have h1 : ((a : Int) == (i : Int)) = decide (a = i) := by
    by_cases h : a = i
    · simp [h]
    · have : ¬ ((a : Int) = i) := by omega
      simp [h, this]
  have h2 : ((b : Int) == (j : Int)) = decide (b = j) := by
    by_cases h : b = j
    · simp [h]
    · have : ¬ ((b : Int) = j) := by omega
      simp [h, this]
  simp only [PyData.eqv, PyData.eqvAll, h1, h2, Bool.and_true, Bool.and_assoc]
  by_cases h : c = d <;> simp [h]
theorem pd_tupI {n : Nat} (ns : List Int) : PD (n + 1) (.tup (ns.map .int)) (.tuple (ns.map .int)) := .tup (by simp) fun i x d h1 h2 => by
  rw [List.getElem?_map] at h1 h2
  cases e : ns[i]? with
  | none => rw [e] at h1; cases h1
  | some z => rw [e] at h1 h2; cases h1; cases h2; exact .int _ _
theorem sc_law_n_asked : FnScope ["_law_net", "_law_one", "_law_other", "_law_due", "_law_a", "_law_b", "_law_tokens", "_law_ticks"] ["_law_net", "_law_one", "_law_other"] (defScope s_law_n_asked) := ⟨rfl, rfl, rfl, by decide +kernel, rfl, by decide +kernel, by decide +kernel⟩
def F_law_n_asked (zs : List P) (y : P) : Prop := ∃ n as p q, zs = [lnetP n as, prP p, prP q] ∧ n ≤ 20 ∧ as.length ≤ 1000 ∧ y = .int (askedL n as p q)
theorem c_law_n_asked (F : FnP K "_law_n_asked" "_law_n_asked" s_law_n_asked f fd) (hm : mg "_law_n_asked" = some (.ref f)) (B : Bl mg) (c1 : Ct g Pr w K mg base 1 "_law_n_links" (SF F_law_n_links)) : Ct g Pr w K mg base 2 "_law_n_asked" (SF F_law_n_asked) := by
  refine ct_pure F hm sc_law_n_asked (fun _ _ _ _ _ _ us hl => match us, hl with | [_, _, _], _ => rfl) (by rintro _ _ ⟨n, as, p, q, rfl, _⟩; rfl) fun cdv A outer s H E hr zs y hF => ?_
  obtain ⟨n, as, p, q, rfl, hn, hl, rfl⟩ := hF
  have nd := sc_law_n_asked.nd
  have hu := hr.u64
  have hlen : (as ++ selfArcs n).length ≤ 1020 := by simp [selfArcs]; omega
  refine tss_cons (tsp_setV 3 nd (ev_tup (ys := [.int (p.1 : Nat), .int (q.1 : Nat), .int ((q.2 : Int) - p.2)]) (eas_cons (ev_ixT (xs := [.int (p.1 : Nat), .int (p.2 : Nat)]) (ev_name 1) ev_int rfl) (eas_cons (ev_ixT (xs := [.int (q.1 : Nat), .int (q.2 : Nat)]) (ev_name 2) ev_int rfl) (eas_cons (ev_sub (ev_ixT (xs := [.int (q.1 : Nat), .int (q.2 : Nat)]) (ev_name 2) ev_int rfl) (ev_ixT (xs := [.int (p.1 : Nat), .int (p.2 : Nat)]) (ev_name 1) ev_int rfl)) eas_nil)))) ?_)
  refine tss_one (tsp_retV ((ev_max rfl B.max (ns := ((as ++ selfArcs n).filter fun a => decide (a.1 = p.1) && decide (a.2.1 = q.1) && decide ((a.2.2.1 : Int) = (q.2 : Int) - p.2)).map (fun a => (a.2.2.2 : Int)) ++ [-1]) ((ev_cat (ev_lc1 (as ++ selfArcs n) arcP (fun a => [some (.sh (lnetP n as)), some (.sh (prP p)), some (.sh (prP q)), some (.sh (.tup [.int (p.1 : Nat), .int (q.1 : Nat), .int ((q.2 : Int) - p.2)])), some (.sh (.int (a.1 : Nat))), some (.sh (.int (a.2.1 : Nat))), some (.sh (.int (a.2.2.1 : Nat))), some (.sh (.int (a.2.2.2 : Nat)))])
    (fun a => decide (a.1 = p.1) && decide (a.2.1 = q.1) && decide ((a.2.2.1 : Int) = (q.2 : Int) - p.2)) (fun a => .int (a.2.2.2 : Nat)) [4, 5, 6, 7] [("_law_a", 4), ("_law_b", 5), ("_law_tokens", 6), ("_law_ticks", 7)] rfl nd (blkOk_by (by kernel_rfl)) (ei_list (ev_call c1 hr (eas_cons (ev_name 0) eas_nil) ⟨n, as, rfl, hn, hl, rfl⟩)) (Nat.le_trans hlen (by decide)) (fun a _ => tgb_tup ["_law_a", "_law_b", "_law_tokens", "_law_ticks"] [4, 5, 6, 7] nd (.inr rfl))
    (fun a _ s H C cl fp => (et_eqD hu (ev_tup (ys := [.int (a.1 : Nat), .int (a.2.1 : Nat), .int (a.2.2.1 : Nat)]) (eas_cons (ev_name 4) (eas_cons (ev_name 5) (eas_cons (ev_name 6) eas_nil)))) (ev_name 3) (DE.sh (n := 1) (pd_tupI [(a.1 : Int), (a.2.1 : Int), (a.2.2.1 : Int)]) (by decide)) (DE.sh (n := 1) (pd_tupI [(p.1 : Int), (q.1 : Int), (q.2 : Int) - p.2]) (by decide))).is (eqv3 _ _ _ _ _ _)) (fun a _ _ s H C cl fp => ev_name 7)) (ev_lst (eas_cons (ev_sub ev_int ev_int) eas_nil)) ?_).is ?_) (by simp)).is rfl) (.sh _))
  · have := filter_lt (fun a : Arc => decide (a.1 = p.1) && decide (a.2.1 = q.1) && decide ((a.2.2.1 : Int) = (q.2 : Int) - p.2)) (as ++ selfArcs n)
    rw [List.length_map]
    simp only [List.length_cons, List.length_nil]
    omega
  · rw [List.map_append, List.map_map]
    rfl
end
end PV

namespace PV
open PySem PySem.Spec PyProof.Rows L2
def askS (n : Nat) (as : List Arc) (ch : List PR) : List Int := (List.range (ch.length - 1)).map fun i => askedL n as (ch.getD i (0, 0)) (ch.getD (i + 1) (0, 0))
def chainLen (n : Nat) (as : List Arc) (ch : List PR) : Int := if 0 ≤ minL (askS n as ch ++ [0]) then (askS n as ch).sum else -1
theorem cut1 {α : Type} (xs : List α) (h : 1 ≤ xs.length) : cutP xs (some 1) none = xs.drop 1 := by
  unfold cutP
  have e1 : HT.sIx xs.length 0 (some 1) = 1 := by
    unfold HT.sIx
    simp
    omega
  have e2 : HT.sIx xs.length xs.length none = xs.length := rfl
  rw [e1, e2, List.take_of_length_le (by rw [List.length_drop]; exact Nat.le_refl _)]
section
variable {g : Bool} {Pr : Program} {w : World} {K : PySem.W.Frag} {mg : Str → Option Value} {base : Heap} {f : Addr} {fd : FuncData} {C : Addr}
theorem pd_prs {n : Nat} (ch : List PR) : PD (n + 2) (.lst (ch.map prP)) (.list (ch.map fun p => .tuple [.int (p.1 : Int), .int (p.2 : Int)])) := .lst (by simp) fun i x d h1 h2 => by
  rw [List.getElem?_map] at h1 h2
  cases e : ch[i]? with
  | none => rw [e] at h1; cases h1
  | some z => rw [e] at h1 h2; cases h1; cases h2; exact pd_tupI [(z.1 : Int), (z.2 : Int)]
theorem sc_law_n_chain : FnScope ["_law_net", "_law_thing", "_law_some", "_law_pair", "_law_event", "_law_k", "_law_one", "_law_other"] ["_law_net", "_law_thing"] (defScope s_law_n_chain) := ⟨rfl, rfl, rfl, by decide +kernel, rfl, by decide +kernel, by decide +kernel⟩
def F_law_n_chain (zs : List P) (y : P) : Prop := ∃ n as ch, zs = [lnetP n as, .lst (ch.map prP)] ∧ n ≤ 20 ∧ as.length ≤ 1000 ∧ ch ≠ [] ∧ ch.length ≤ 90000 ∧ (∀ p ∈ ch, p.1 < n) ∧ y = .int (chainLen n as ch)
theorem getD_prP (ch : List PR) {i : Nat} (h : i < ch.length) : (ch.map prP).getD i .non = prP (ch.getD i (0, 0)) := by
  rw [List.getD_eq_getElem?_getD, List.getD_eq_getElem?_getD, List.getElem?_map, List.getElem?_eq_getElem h]
  rfl
theorem c_law_n_chain (F : FnP K "_law_n_chain" "_law_n_chain" s_law_n_chain f fd) (hm : mg "_law_n_chain" = some (.ref f)) (B : Bl mg) (c1 : Ct g Pr w K mg base 2 "_law_n_asked" (SF F_law_n_asked)) : Ct g Pr w K mg base 3 "_law_n_chain" (SF F_law_n_chain) := by
  refine ct_pure F hm sc_law_n_chain (fun _ _ _ _ _ _ us hl => match us, hl with | [_, _], _ => rfl) (by rintro _ _ ⟨n, as, ch, rfl, _⟩; rfl) fun cdv A outer s H E hr zs y hF => ?_
  obtain ⟨n, as, ch, rfl, hn, hl, hne, hcl, hin, rfl⟩ := hF
  have nd := sc_law_n_chain.nd
  have hu := hr.u64
  have hpos : 1 ≤ ch.length := List.length_pos_iff.mpr hne
  refine tss_cons (tsp_ifE (d := false) (et_w ((ew_or (p := false) (r := false) (et_not (et_val (ev_isi (T := "list") (r := true) B.isinstance (ev_name 1) (ev_ty B.list bo_list) rfl rfl))) fun _ => ew_or1 ((et_eqD hu (ev_name 1) (ev_lst eas_nil) (DE.sh (n := 2) (pd_prs ch) (by decide)) (DE.sh (n := 1) pd_nil (by decide))).is (by rw [eqv_nil]; cases ch with | nil => exact absurd rfl hne | cons a r => rfl))))) (fun h => nomatch h) fun _ => tss_nil ?_)
  let R : Option PV.E → Option PV.E → Option PV.E → Option PV.E → Option PV.E → Rho := fun a b c d e => [some (.sh (lnetP n as)), some (.sh (.lst (ch.map prP))), none, a, b, c, d, e]
  refine tss_cons (tsp_ifE (d := false) (et_not (p := true) (et_val ((ev_all (bs := ch.map fun _ => true) rfl B.all ((ev_lc0 ch prP (fun p => R (some (.sh (prP p))) none none none none) (fun p => .bl true) [3] [("_law_pair", 3)] rfl nd (blkOk_by (by kernel_rfl)) (ei_list (ev_name 1)) (Nat.le_trans hcl (by decide)) (fun a _ => tgb_name 3 nd (by decide) rfl rfl)
    (fun p _ s H C cl fp => EV.is (ev_and (p := true) (r := true) (ev_isi (T := "tuple") (r := true) B.isinstance (ev_name 3) (ev_ty B.tuple bo_tuple) rfl rfl) fun _ => ev_one (EV.is (ev_eqI (ev_lenT (xs := [.int (p.1 : Nat), .int (p.2 : Nat)]) B.len (ev_name 3)) ev_int) (by simp))) rfl)).is (by rw [List.map_map]; rfl))).is (by simp)))) (fun h => nomatch h) fun _ => tss_nil ?_)
  refine tss_cons (tsp_ifE (d := false) (et_not (p := true) (et_val ((ev_all (bs := ch.map fun _ => true) rfl B.all ((ev_lc0 ch prP (fun p => R none (some (.sh (.int (p.1 : Nat)))) (some (.sh (.int (p.2 : Nat)))) none none) (fun p => .bl true) [4, 5] [("_law_event", 4), ("_law_k", 5)] rfl nd (blkOk_by (by kernel_rfl)) (ei_list (ev_name 1)) (Nat.le_trans hcl (by decide)) (fun a _ => tgb_tup ["_law_event", "_law_k"] [4, 5] nd (.inr rfl))
    (fun p hp s H C cl fp => EV.is (ev_and (p := true) (r := true) (EV.is (ev_leLt ev_int (ev_name 4) (ev_ixT (xs := [.int (n : Nat), .lst (as.map arcP)]) (ev_name 0) ev_int rfl)) (by have := hin p hp; simp; omega)) fun _ => ev_one (EV.is (ev_ge (ev_name 5) ev_int) (by simp))) rfl)).is (by rw [List.map_map]; rfl))).is (by simp)))) (fun h => nomatch h) fun _ => tss_nil ?_)
  have hzl : min (ch.map prP).length ((ch.map prP).drop 1).length = ch.length - 1 := by
    rw [List.length_drop, List.length_map]
    omega
  have hcut : cutP (ch.map prP) (some 1) none = (ch.map prP).drop 1 := cut1 _ (by rw [List.length_map]; exact hpos)
  refine tss_cons (tsp_setL0 2 (List.range (ch.length - 1)) (fun i => .tup [prP (ch.getD i (0, 0)), prP (ch.getD (i + 1) (0, 0))]) (fun i => R none none none (some (.sh (prP (ch.getD i (0, 0))))) (some (.sh (prP (ch.getD (i + 1) (0, 0)))))) (fun i => .int (askedL n as (ch.getD i (0, 0)) (ch.getD (i + 1) (0, 0)))) [6, 7] [("_law_one", 6), ("_law_other", 7)] nd (blkOk_by (by kernel_rfl))
    (ei_zip B.zip (ev_name 1) ((ev_slice (lo := some _) (hi := none) (i := some 1) (j := none) (ev_name 1) ev_int trivial).is (by rw [hcut]))) (by rw [List.length_range]; omega) (fun a _ => tgb_tup ["_law_one", "_law_other"] [6, 7] nd (.inr rfl))
    (fun i hi s H C cl fp => ev_call c1 hr (eas_cons (ev_name 0) (eas_cons (ev_name 6) (eas_cons (ev_name 7) eas_nil))) ⟨n, as, _, _, rfl, hn, hl, rfl⟩) ?_ ?_)
  · have hlast : (List.range (ch.length - 1)).map (fun i => P.int (askedL n as (ch.getD i (0, 0)) (ch.getD (i + 1) (0, 0)))) = (askS n as ch).map .int := by
      unfold askS
      rw [List.map_map]
      rfl
    rw [hlast]
    have hal : (askS n as ch).length ≤ 90000 := by unfold askS; simp; omega
    refine tss_one (tsp_retV (ev_if (d := decide (0 ≤ minL (askS n as ch ++ [0]))) (et_ge (ev_min rfl B.min (ns := askS n as ch ++ [0]) ((ev_cat (ev_name 2) (ev_lst (ys := [.int 0]) (eas_cons ev_int eas_nil)) (by rw [List.length_map]; simp; omega)).is (by rw [List.map_append]; rfl)) (by simp)) ev_int) (fun h => (ev_sum rfl B.sum (ev_name 2)).is ?_) fun h => (ev_sub ev_int ev_int).is ?_) (.sh _))
    · unfold chainLen
      rw [if_pos (of_decide_eq_true h)]
    · unfold chainLen
      rw [if_neg (of_decide_eq_false h)]
      rfl
  · rw [hzl]
    refine List.map_congr_left fun i hi => ?_
    have hi := List.mem_range.mp hi
    rw [getD_prP ch (by omega), List.getD_eq_getElem?_getD (l := (ch.map prP).drop 1), List.getElem?_drop, Nat.add_comm 1 i, ← List.getD_eq_getElem?_getD, getD_prP ch (by omega)]
end
end PV

namespace PV
open PySem PySem.Spec PyProof.Rows L2
/-- the same but for lists in the place of tuples, tuples in the place of lists -/
inductive Loose : P → P → Prop
  | int (i : Int) : Loose (.int i) (.int i)
  | sq {x y : P} {xs ys : List P} (hx : Sq x xs) (hy : Sq y ys) (l : xs.length = ys.length) (e : ∀ (i : Nat) a b, xs[i]? = some a → ys[i]? = some b → Loose a b) : Loose x y
inductive Deep : Nat → P → Prop
  | int (n : Nat) (i : Int) : Deep n (.int i)
  | sq {n : Nat} {x : P} {xs : List P} (hx : Sq x xs) (l : xs.length ≤ 200) (e : ∀ a ∈ xs, Deep n a) : Deep (n + 1) x
def lcost : Nat → Nat
  | 0 => 0
  | n + 1 => 1 + 200 * lcost n
def S_loose (d : Nat) : PSpec := fun xs μ Q => ∃ js jc N x, xs = [.pt js, .sh x] ∧ Deep d x ∧ StrAt js jc N μ ∧ N + lcost d < 90000000 ∧ ∀ y μ', Loose x y → But2 js jc μ μ' → StrAt js jc (N + lcost d) μ' → Q (.sh y) μ'
section
variable {g : Bool} {Pr : Program} {w : World} {K : PySem.W.Frag} {mg : Str → Option Value} {base : Heap} {f : Addr} {fd : FuncData} {C : Addr}
theorem sc_law_loose : FnScope ["_law_stream", "_law_thing", "_law_some", "_law_one"] ["_law_stream", "_law_thing"] (defScope s_law_loose) := ⟨rfl, rfl, rfl, by decide +kernel, rfl, by decide +kernel, by decide +kernel⟩
theorem loose_main (F : FnP K "_law_loose" "_law_loose" s_law_loose f fd) (hm : mg "_law_loose" = some (.ref f)) (B : Bl mg) (c1 : Ct g Pr w K mg base 1 "_law_draw" S_draw) (d : Nat) (ih : ∀ n, d = n + 1 → Ct g Pr w K mg base (n + 2) "_law_loose" (S_loose n)) : Ct g Pr w K mg base (d + 2) "_law_loose" (S_loose d) := by
  refine ct_of F hm sc_law_loose (fun _ _ _ _ _ _ us hl => match us, hl with | [_, _], _ => rfl) (by rintro _ _ _ ⟨js, jc, N, x, rfl, _⟩; rfl) fun cdv A outer s H E hr xs μ Q hS => ?_
  obtain ⟨js, jc, N, x, rfl, hD, hA, hN, q⟩ := hS
  have nd := sc_law_loose.nd
  cases hD with
  | int n i =>
    refine tss_cons (tsp_ifE (d := false) (et_val (ev_isiT (T := "int") (cs := ["list", "tuple"]) (r := false) B.isinstance (ev_name 1) (ev_tup (ys := [.ty "list", .ty "tuple"]) (eas_cons (ev_ty B.list bo_list) (eas_cons (ev_ty B.tuple bo_tuple) eas_nil))) rfl rfl)) (fun h => nomatch h) fun _ => tss_nil ?_)
    exact tss_one (tsp_ret ((ev_name 1) _ (q _ μ (.int i) (But2.refl _ _ _) (hA.mono (Nat.le_add_right _ _)))))
  | @sq n _ xs hx l e =>
    have hcl : lcost (n + 1) = 1 + 200 * lcost n := rfl
    obtain ⟨T, hT, hk⟩ : ∃ T, tyP x = some T ∧ PySem.W.kitAny K (.type T) [.type "list", .type "tuple"] = some true := by
      rcases hx with rfl | rfl
      · exact ⟨"list", rfl, rfl⟩
      · exact ⟨"tuple", rfl, rfl⟩
    have hrec := ih n rfl

    refine tss_cons (tsp_ifE (d := true) (et_val (ev_isiT (T := T) (cs := ["list", "tuple"]) (r := true) B.isinstance (ev_name 1) (ev_tup (ys := [.ty "list", .ty "tuple"]) (eas_cons (ev_ty B.list bo_list) (eas_cons (ev_ty B.tuple bo_tuple) eas_nil))) hT hk)) (fun _ => ?_) fun h => nomatch h)
    refine tss_cons (tsp_setLc 2 [("_law_one", 3)] [3] rfl nd rfl rfl (blkOk_by (by kernel_rfl)) (by decide) ((ei_seq hx (ev_name 1)) _ ⟨fun i acc μ2 => (∃ ys : List P, acc = ys.map .sh ∧ ys.length = i ∧ ∀ (j : Nat) a b, xs[j]? = some a → ys[j]? = some b → Loose a b) ∧ But2 js jc μ μ2 ∧ StrAt js jc (N + i * lcost n) μ2, ⟨⟨[], rfl, rfl, fun j a b _ h => by simp at h⟩, But2.refl _ _ _, by simpa using hA⟩, fun _ _ _ _ _ => trivial, ?_, ?_⟩) rfl)
    · rintro i z acc μ2 hz ⟨⟨ys, rfl, hl, hY⟩, b2, s2⟩
      rw [List.getElem?_map] at hz
      obtain ⟨a, ha, rfl⟩ := Option.map_eq_some_iff.mp hz
      have hi := (List.getElem?_eq_some_iff.mp ha).1
      have hc2 : (i + 1) * lcost n ≤ 200 * lcost n := Nat.mul_le_mul_right _ (by omega)
      have hc3 : (i + 1) * lcost n = i * lcost n + lcost n := Nat.succ_mul ..
      refine tgb_name 3 nd (by decide) rfl rfl _ (ttsb0 _ ?_)
      rw [if_pos rfl]
      intro s H C cl fp
      refine tep_call hrec hr (tap_consV (ev_name 0) (tap_consV (ev_name 3) (tap_nil ⟨js, jc, _, a, rfl, e a (List.mem_of_getElem? ha), s2, by omega, fun y μ' hy b' s' => ?_⟩)))
      refine ⟨by simp; omega, ⟨ys ++ [y], by rw [List.map_append]; rfl, by simp [hl], fun j a' b h1 h2 => ?_⟩, b2.trans b', by rw [hc3, ← Nat.add_assoc]; exact s'⟩
      by_cases hj : j < ys.length
      · rw [List.getElem?_append_left hj] at h2
        exact hY j a' b h1 h2
      · have hj2 := (List.getElem?_eq_some_iff.mp h2).1
        rw [List.length_append, List.length_singleton] at hj2
        have hj3 : j = ys.length := by omega
        subst hj3
        rw [List.getElem?_append_right (Nat.le_refl _), Nat.sub_self] at h2
        cases h2
        rw [hl, ha] at h1
        cases h1
        exact hy
    · rintro acc μ2 ⟨⟨ys, rfl, hl, hY⟩, b2, s2⟩
      rw [List.length_map] at hl s2
      have hc2 : xs.length * lcost n ≤ 200 * lcost n := Nat.mul_le_mul_right _ l
      refine .inl ⟨ys, rfl, tss_one (tsp_ret (tep_if (ttp_cmp op_eq (nomark _) (tep_draw c1 (hr.mono (by omega)) (m := 2) (ev_name 0) ev_int s2 (by omega) (by decide) (by decide) fun d μ' hd b' s' => (ev_int) _ (v2_eqI ⟨_, rfl, ?_⟩)))))⟩
      have s3 : StrAt js jc (N + lcost (n + 1)) μ' := s'.mono (by omega)
      by_cases h0 : decide ((d : Int) = 0) = true
      · rw [if_pos h0]
        exact (ev_name 2) _ (q _ _ (.sq hx (.inl rfl) hl.symm hY) (b2.trans b') s3)
      · rw [if_neg h0]
        exact (ev_tuple (xs := ys) B.tuple (ev_name 2) (.inl rfl)) _ (q _ _ (.sq hx (.inr rfl) hl.symm hY) (b2.trans b') s3)
theorem c_law_loose (F : FnP K "_law_loose" "_law_loose" s_law_loose f fd) (hm : mg "_law_loose" = some (.ref f)) (B : Bl mg) (c1 : Ct g Pr w K mg base 1 "_law_draw" S_draw) : ∀ d, Ct g Pr w K mg base (d + 2) "_law_loose" (S_loose d)
  | 0 => loose_main F hm B c1 0 fun n h => nomatch h
  | d + 1 => loose_main F hm B c1 (d + 1) fun n h => by cases h; exact c_law_loose F hm B c1 d
end
theorem loose_ints {ns : List Int} {x y : P} (hx : Sq x (ns.map .int)) (h : Loose x y) : Sq y (ns.map .int) := by
  cases h with
  | int i => rcases hx with h | h <;> cases h
  | @sq _ _ xs ys hx2 hy l e =>
    have e0 : xs = ns.map .int := by
      rcases hx with rfl | rfl <;> rcases hx2 with h | h <;> cases h <;> rfl
    subst e0
    have e1 : ys = ns.map .int := by
      refine List.ext_getElem? fun i => ?_
      cases h1 : (ns.map P.int)[i]? with
      | none => exact List.getElem?_eq_none (by rw [← l]; exact List.getElem?_eq_none_iff.mp h1)
      | some a =>
        have hi : i < ys.length := by rw [← l]; exact (List.getElem?_eq_some_iff.mp h1).1
        rw [List.getElem?_eq_getElem hi]
        have h2 := e i a _ h1 (List.getElem?_eq_getElem hi)
        rw [List.getElem?_map] at h1
        obtain ⟨z, _, rfl⟩ := Option.map_eq_some_iff.mp h1
        generalize ys[i] = b at h2 ⊢
        cases h2 with
        | int => rfl
        | sq hx => rcases hx with h | h <;> cases h
    rw [← e1]
    exact hy
theorem loose_rows {α : Type} {l : List α} {f : α → List Int} {y : P} (h : Loose (.lst (l.map fun a => .tup ((f a).map .int))) y) : ∃ ps, Sq y ps ∧ Paired (fun p a => Sq p ((f a).map .int)) ps l := by
  cases h with
  | @sq _ _ xs ys hx2 hy hl e =>
    have e0 : xs = l.map fun a => .tup ((f a).map .int) := by
      rcases hx2 with h | h <;> cases h
      rfl
    subst e0
    rw [List.length_map] at hl
    refine ⟨ys, hy, pd_of hl.symm fun i p a h1 h2 => ?_⟩
    exact loose_ints (.inr rfl) (e i _ p (by rw [List.getElem?_map, h2]; rfl) h1)
theorem deep_rows {α : Type} {l : List α} {f : α → List Int} (hl : l.length ≤ 200) (hf : ∀ a ∈ l, (f a).length ≤ 200) : Deep 2 (.lst (l.map fun a => .tup ((f a).map .int))) := by
  refine .sq (.inl rfl) (by rw [List.length_map]; exact hl) fun p hp => ?_
  obtain ⟨a, ha, rfl⟩ := List.mem_map.mp hp
  refine .sq (.inr rfl) (by rw [List.length_map]; exact hf a ha) fun q hq => ?_
  obtain ⟨i, _, rfl⟩ := List.mem_map.mp hq
  exact .int _ _
end PV

namespace PV
open PySem PySem.Spec PyProof.Rows L2
/-! ### there are such starts -/
def appr (ls : List Arc) : Nat → Nat → Nat → Int
  | 0, _, _ => 0
  | m + 1, e, k => maxL (0 :: askOf ls (appr ls m) e k)
theorem askOf_congr {ls : List Arc} {S T : Nat → Nat → Int} {e k : Nat} (h : ∀ a ∈ ls, a.2.1 = e → a.2.2.1 ≤ k → S a.1 (k - a.2.2.1) = T a.1 (k - a.2.2.1)) : askOf ls S e k = askOf ls T e k := by
  unfold askOf
  refine List.map_congr_left fun a ha => ?_
  obtain ⟨h1, h2⟩ := List.mem_filter.mp ha
  simp only [Bool.and_eq_true, decide_eq_true_eq] at h2
  rw [h a h1 (by omega) (by omega)]
theorem appr_stable {n : Nat} {ls : List Arc} {ord : List Nat} (ho : OrdOk n ls ord) (hin : InN n ls) : ∀ (b m m' e k : Nat), back n ord (e, k) < b → back n ord (e, k) < m → back n ord (e, k) < m' → appr ls m e k = appr ls m' e k := by
  intro b
  induction b with
  | zero => intro m m' e k h; omega
  | succ b ih =>
    intro m m' e k h h1 h2
    obtain ⟨m, rfl⟩ : ∃ q, m = q + 1 := ⟨m - 1, by omega⟩
    obtain ⟨m', rfl⟩ : ∃ q, m' = q + 1 := ⟨m' - 1, by omega⟩
    show maxL (0 :: askOf ls (appr ls m) e k) = maxL (0 :: askOf ls (appr ls m') e k)
    rw [askOf_congr (S := appr ls m) (T := appr ls m') fun a ha he hk => ?_]
    have hb := back_lt ho hin ha hk
    rw [he] at hb
    exact ih m m' _ _ (by omega) (by omega) (by omega)
theorem sol_ex {n : Nat} {ls : List Arc} {ord : List Nat} (ho : OrdOk n ls ord) (hin : InN n ls) : ∃ S, IsSol n ls S := by
  refine ⟨fun e k => appr ls (back n ord (e, k) + 1) e k, fun e _ k => ?_⟩
  show maxL (0 :: askOf ls (appr ls (back n ord (e, k))) e k) = _
  rw [askOf_congr fun a ha he hk => ?_]
  have hb := back_lt ho hin ha hk
  rw [he] at hb
  exact appr_stable ho hin _ _ _ _ _ (Nat.lt_succ_self _) hb (Nat.lt_succ_self _)
theorem sol_nonneg {n : Nat} {ls : List Arc} {S : Nat → Nat → Int} (hS : IsSol n ls S) {e : Nat} (he : e < n) (k : Nat) : 0 ≤ S e k := by
  rw [hS e he k]
  exact le_maxL (List.mem_cons_self ..)
theorem sol_arc {n : Nat} {ls : List Arc} {S : Nat → Nat → Int} (hin : InN n ls) (hS : IsSol n ls S) {a : Arc} (ha : a ∈ ls) {k : Nat} (hk : a.2.2.1 ≤ k) : S a.1 (k - a.2.2.1) + a.2.2.2 ≤ S a.2.1 k := by
  rw [hS a.2.1 (hin a ha).2 k]
  refine le_maxL (List.mem_cons_of_mem _ (List.mem_map.mpr ⟨a, List.mem_filter.mpr ⟨ha, ?_⟩, rfl⟩))
  simp only [Bool.and_eq_true, decide_eq_true_eq]
  exact ⟨trivial, by omega⟩
/-- the least of all that keep the links -/
theorem sol_least {n m : Nat} {ls : List Arc} {ord : List Nat} {S T : Nat → Nat → Int} (ho : OrdOk n ls ord) (hin : InN n ls) (hS : IsSol n ls S) (h0 : ∀ e k, 0 ≤ T e k) (hT : ∀ a ∈ ls, ∀ k, a.2.2.1 ≤ k → k < m → T a.1 (k - a.2.2.1) + a.2.2.2 ≤ T a.2.1 k) :
    ∀ (b e k : Nat), back n ord (e, k) < b → e < n → k < m → S e k ≤ T e k := by
  intro b
  induction b with
  | zero => intro e k h; omega
  | succ b ih =>
    intro e k h he hk
    have h1 := maxL_mem (ns := 0 :: askOf ls S e k) (by simp)
    rw [← hS e he k] at h1
    rcases List.mem_cons.mp h1 with h1 | h1
    · rw [h1]; exact h0 e k
    · obtain ⟨a, ha, h2⟩ := List.mem_map.mp h1
      obtain ⟨h3, h4⟩ := List.mem_filter.mp ha
      simp only [Bool.and_eq_true, decide_eq_true_eq] at h4
      have e1 : a.2.1 = e := by omega
      have hk2 : a.2.2.1 ≤ k := by omega
      have hb := back_lt ho hin h3 hk2
      have h5 := hT a h3 k hk2 hk
      rw [e1] at hb h5
      have h6 := ih a.1 (k - a.2.2.1) (by omega) (hin a h3).1 (by omega)
      omega
/-! ### sums -/
def sumR (n : Nat) (f : Nat → Int) : Int := ((List.range n).map f).sum
theorem sumR_succ (n : Nat) (f : Nat → Int) : sumR (n + 1) f = sumR n f + f n := by
  unfold sumR
  rw [List.range_succ, List.map_append, List.sum_append]
  simp
theorem sumR_le {f g : Nat → Int} : ∀ {n : Nat}, (∀ i, i < n → f i ≤ g i) → sumR n f ≤ sumR n g
  | 0, _ => by simp [sumR]
  | n + 1, h => by
    rw [sumR_succ, sumR_succ]
    have h1 := sumR_le (n := n) fun i hi => h i (by omega)
    have h2 := h n (by omega)
    omega
theorem sumR_lt {f g : Nat → Int} {j : Nat} (hl : f j < g j) : ∀ {n : Nat}, j < n → (∀ i, i < n → f i ≤ g i) → sumR n f < sumR n g
  | 0, hj, _ => by omega
  | n + 1, hj, h => by
    rw [sumR_succ, sumR_succ]
    have h2 := h n (by omega)
    by_cases c : j = n
    · subst c
      have h1 := sumR_le (n := j) fun i hi => h i (by omega)
      omega
    · have h1 := sumR_lt (n := n) hl (by omega) fun i hi => h i (by omega)
      omega
def tot (n m : Nat) (T : Nat → Nat → Int) : Int := sumR n fun e => sumR m fun k => T e k
theorem tot_le {n m : Nat} {S T : Nat → Nat → Int} (h : ∀ e k, e < n → k < m → T e k ≤ S e k) : tot n m T ≤ tot n m S := sumR_le fun e he => sumR_le fun k hk => h e k he hk
theorem tot_lt {n m : Nat} {S T : Nat → Nat → Int} (h : ∀ e k, e < n → k < m → T e k ≤ S e k) {e k : Nat} (he : e < n) (hk : k < m) (hl : T e k < S e k) : tot n m T < tot n m S :=
  sumR_lt (j := e) (sumR_lt (j := k) hl hk fun k hk => h e k he hk) he fun e he => sumR_le fun k hk => h e k he hk
def updT (T : Nat → Nat → Int) (e k : Nat) (v : Int) : Nat → Nat → Int := fun a b => if a = e ∧ b = k then v else T a b
/-- a pass from T0 on, now at T; b: whether something was raised -/
structure PassI (n m : Nat) (S T0 T : Nat → Nat → Int) (b : Bool) : Prop where
  lo : ∀ e k, 0 ≤ T e k
  hi : ∀ e k, e < n → k < m → T e k ≤ S e k
  up : ∀ e k, T0 e k ≤ T e k
  eq : b = false → T = T0
  gt : b = true → ∃ e k, e < n ∧ k < m ∧ T0 e k < T e k
theorem PassI.raise {n m : Nat} {S T0 T : Nat → Nat → Int} {b : Bool} (I : PassI n m S T0 T b) {e k : Nat} {v : Int} (he : e < n) (hk : k < m) (h1 : T e k < v) (h2 : v ≤ S e k) : PassI n m S T0 (updT T e k v) true := by
  have l0 := I.lo e k
  have u0 := I.up e k
  refine ⟨fun a b => ?_, fun a b ha hb => ?_, fun a b => ?_, fun h => (nomatch h), fun _ => ⟨e, k, he, hk, ?_⟩⟩
  · unfold updT
    split
    · omega
    · exact I.lo a b
  · unfold updT
    split
    · rename_i h
      rw [h.1, h.2]
      exact h2
    · exact I.hi a b ha hb
  · unfold updT
    split
    · rename_i h
      rw [h.1, h.2]
      omega
    · exact I.up a b
  · unfold updT
    rw [if_pos ⟨rfl, rfl⟩]
    omega
theorem rowC_upd {T : Nat → Nat → Int} {m e k e2 : Nat} {v : Int} (hk : k < m) : rowC (updT T e k v) m e2 = if e2 = e then some (.lst (((List.range m).map fun k => PV.E.sh (.int (T e k))).set k (.sh (.int v)))) else rowC T m e2 := by
  unfold rowC
  by_cases c : e2 = e
  · subst c
    rw [if_pos rfl]
    congr 2
    refine List.ext_getElem? fun i => ?_
    by_cases ci : k = i
    · subst ci
      rw [List.getElem?_set_self (by simp; exact hk), List.getElem?_map, List.getElem?_range hk]
      simp [updT]
    · rw [List.getElem?_set_ne ci, List.getElem?_map, List.getElem?_map]
      cases e : (List.range m)[i]? with
      | none => rfl
      | some j =>
        obtain ⟨_, rfl⟩ := List.getElem?_eq_some_iff.mp e
        simp only [List.getElem_range, Option.map_some]
        unfold updT
        rw [if_neg fun z => ci z.2.symm]
  · rw [if_neg c]
    congr 2
    refine List.map_congr_left fun k2 _ => ?_
    unfold updT
    rw [if_neg fun z => c z.1]
theorem flat0 (m : Nat) : ((List.replicate ((m : Nat) : Int).toNat [P.int 0]).flatten.map PV.E.sh) = (List.range m).map fun _ => PV.E.sh (.int 0) := by
  rw [Int.toNat_natCast]
  induction m with
  | zero => rfl
  | succ m ih =>
    rw [List.range_succ, List.map_append, ← ih, List.replicate_succ', List.flatten_append, List.map_append]
    rfl
section
variable {g : Bool} {Pr : Program} {w : World} {K : PySem.W.Frag} {mg : Str → Option Value} {base : Heap} {f : Addr} {fd : FuncData} {C : Addr}
theorem sc_law_n_table : FnScope ["_law_net", "_law_many", "_law_found", "_law_is_new", "_law_one", "_law_other", "_law_tokens", "_law_ticks", "_law_row", "_law_k", "_law_event"] ["_law_net", "_law_many"] (defScope s_law_n_table) := ⟨rfl, rfl, rfl, by decide +kernel, rfl, by decide +kernel, by decide +kernel⟩
def F_law_n_table (zs : List P) (y : P) : Prop := ∃ n as m ord S, zs = [lnetP n as, .int (m : Nat)] ∧ n ≤ 20 ∧ m ≤ 1000 ∧ as.length ≤ 1000 ∧ (∀ a ∈ as ++ selfArcs n, a.2.2.1 ≤ 1000) ∧ InN n (as ++ selfArcs n) ∧ OrdOk n (as ++ selfArcs n) ord ∧ IsSol n (as ++ selfArcs n) S ∧ y = tabP n S m
theorem c_law_n_table (F : FnP K "_law_n_table" "_law_n_table" s_law_n_table f fd) (hm : mg "_law_n_table" = some (.ref f)) (B : Bl mg) (c1 : Ct g Pr w K mg base 1 "_law_n_links" (SF F_law_n_links)) : Ct g Pr w K mg base 2 "_law_n_table" (SF F_law_n_table) := by
  refine ct_pure F hm sc_law_n_table (fun _ _ _ _ _ _ us hl => match us, hl with | [_, _], _ => rfl) (by rintro _ _ ⟨n, as, m, ord, S, rfl, _⟩; rfl) fun cdv A outer s H E hr zs y hF => ?_
  obtain ⟨n, as, m, ord, S, rfl, hn, hm2, hl, hsm, hin, ho, hS, rfl⟩ := hF
  have nd := sc_law_n_table.nd
  have hll : (as ++ selfArcs n).length ≤ 1020 := by simp [selfArcs]; omega
  refine tss_cons (tsp_par2A 2 3 nd (tap_cons (tep_lcNew n (.lst ((List.replicate ((m : Nat) : Int).toNat [P.int 0]).flatten.map PV.E.sh)) (fun i => [some (.sh (lnetP n as)), some (.sh (.int (m : Nat))), none, none, none, none, none, none, none, none, some (.sh (.int (i : Nat)))]) [("_law_event", 10)] [10] nd (blkOk_by (by kernel_rfl))
    (ei_range1 B.range (ev_ixT (xs := [.int (n : Nat), .lst (as.map arcP)]) (ev_name 0) ev_int rfl) (by omega)) (by simp) (by omega) (fun i x μ2 hx => ?_) (fun i μ2 hi Q q s H C cl fp => tep_repC (xs := [.int 0]) (ev_lst (eas_cons ev_int eas_nil)) (ev_name 1) (by omega) (by simp; omega) q) (tap_consV ev_bl (tap_nil ⟨_, _, rfl, ?_⟩)))))
  · rw [List.getElem?_map] at hx
    cases e : (List.range (n : Int).toNat)[i]? with
    | none => rw [e] at hx; cases hx
    | some j =>
      rw [e] at hx
      cases hx
      obtain ⟨_, rfl⟩ := List.getElem?_eq_some_iff.mp e
      rw [List.getElem_range]
      exact tgb_name 10 nd (by decide) rfl rfl
  rw [flat0]
  let topC : List (Option Cell) := [some (.lst ((List.range n).map .pt))]
  let R : Bool → Option PV.E → Option PV.E → Option PV.E → Option PV.E → Option PV.E → Option PV.E → Rho := fun b o1 o2 o3 o4 o5 o6 => [some (.sh (lnetP n as)), some (.sh (.int (m : Nat))), some (.pt n), some (.sh (.bl b)), o1, o2, o3, o4, o5, o6, none]
  have top0 : ∀ F : Nat → Option Cell, (rowsM n F topC)[n]? = some (some (.lst ((List.range n).map .pt))) := fun F => rowsM_top (rest := topC) 0
  have ptn : ∀ a, a < n → ((List.range n).map PV.E.pt)[a]? = some (.pt a) := fun a ha => by simp [ha]
  refine tss_cons (tsp_whileP (fun mm ρ2 μ2 => (∃ b o1 o2 o3 o4 o5 o6, ρ2 = R b o1 o2 o3 o4 o5 o6 ∧ ∃ T : Nat → Nat → Int, μ2 = rowsM n (rowC T m) topC ∧ (∀ e k, 0 ≤ T e k) ∧ (∀ e k, e < n → k < m → T e k ≤ S e k) ∧
    (b = true → (tot n m S - tot n m T).toNat < mm) ∧ (b = false → ∀ a ∈ as ++ selfArcs n, ∀ k, a.2.2.1 ≤ k → k < m → T a.1 (k - a.2.2.1) + a.2.2.2 ≤ T a.2.1 k))) ((tot n m S - tot n m fun _ _ => 0).toNat + 1)
    ⟨true, none, none, none, none, none, none, rfl, fun _ _ => 0, rfl, fun _ _ => Int.le_refl _, fun e k he _ => sol_nonneg hS he k, fun _ => Nat.lt_succ_self _, fun h => nomatch h⟩ ?_)
  rintro mm ρ2 μ2 ⟨b, o1, o2, o3, o4, o5, o6, rfl, T0, rfl, lo0, hi0, hb1, hb0⟩
  refine (et_val (ev_name 3)) _ ?_
  cases b with
  | false =>
    rw [if_neg (by simp)]
    -- nothing was raised: the table is the starts'
    have hfin : ∀ e k, e < n → k < m → T0 e k = S e k := fun e k he hk => Int.le_antisymm (hi0 e k he hk) (sol_least ho hin hS lo0 (hb0 rfl) _ e k (Nat.lt_succ_self _) he hk)
    refine tss_one (tsp_retV (ev_name 2) (.lst (rowsM_top (rest := topC) 0) (by simp) fun i z x hz hx => ?_))
    obtain ⟨hi, rfl⟩ := List.getElem?_eq_some_iff.mp hz
    simp only [List.length_map, List.length_range] at hi
    simp only [List.getElem_map, List.getElem_range]
    rw [List.getElem?_map, List.getElem?_range hi] at hx
    cases hx
    refine Frz.lstS ((rowsM_get hi).trans ?_)
    unfold rowC
    rw [List.map_map]
    congr 3
    refine List.map_congr_left fun k hk => ?_
    rw [hfin i k hi (List.mem_range.mp hk)]
    rfl
  | true =>
    rw [if_pos rfl]
    refine tss_cons (tsp_setV 3 nd ev_bl ?_)
    -- one pass
    refine tss_one (tsp_forL (as ++ selfArcs n) arcP [4, 5, 6, 7] (fun i ρ3 μ3 => ∃ b o1 o2 o3 o4 o5 o6, ρ3 = R b o1 o2 o3 o4 o5 o6 ∧ ∃ T : Nat → Nat → Int, μ3 = rowsM n (rowC T m) topC ∧ PassI n m S T0 T b ∧
      (b = false → ∀ a ∈ (as ++ selfArcs n).take i, ∀ k, a.2.2.1 ≤ k → k < m → T0 a.1 (k - a.2.2.1) + a.2.2.2 ≤ T0 a.2.1 k))
      (ei_list (ev_call c1 hr (eas_cons (ev_name 0) eas_nil) ⟨n, as, rfl, hn, hl, rfl⟩)) ⟨false, o1, o2, o3, o4, o5, o6, rfl, T0, rfl, ⟨lo0, hi0, fun _ _ => Int.le_refl _, fun _ => rfl, fun h => nomatch h⟩, fun _ a ha => by simp at ha⟩ ?_ ?_)
    · rintro i a ρ3 μ3 ha ⟨b, o1, o2, o3, o4, o5, o6, rfl, T, rfl, I, hcl⟩
      have ham := List.mem_of_getElem? ha
      have han := hin a ham
      have tk : (as ++ selfArcs n).take (i + 1) = (as ++ selfArcs n).take i ++ [a] := by rw [List.take_add_one, ha]; rfl
      refine tgp_names ["_law_one", "_law_other", "_law_tokens", "_law_ticks"] [4, 5, 6, 7] nd (.inr rfl) rfl ?_
      refine tss_cons (tsp_setV 8 nd (ev_ixC (ev_name 2) (ev_name 5) (top0 _) (atI_of a.2.1 rfl (ptn _ han.2))) ?_)
      let R2 : Bool → Option PV.E → Rho := fun b o6 => R b (some (.sh (.int (a.1 : Nat)))) (some (.sh (.int (a.2.1 : Nat)))) (some (.sh (.int (a.2.2.1 : Nat)))) (some (.sh (.int (a.2.2.2 : Nat)))) (some (.pt a.2.1)) o6
      refine tss_one (tsp_forL (List.range (m - a.2.2.1)) (fun j => .int ((a.2.2.1 + j : Nat) : Int)) [9] (fun j ρ4 μ4 => ∃ b o6, ρ4 = R2 b o6 ∧ ∃ T : Nat → Nat → Int, μ4 = rowsM n (rowC T m) topC ∧ PassI n m S T0 T b ∧
        (b = false → ∀ a ∈ (as ++ selfArcs n).take i, ∀ k, a.2.2.1 ≤ k → k < m → T0 a.1 (k - a.2.2.1) + a.2.2.2 ≤ T0 a.2.1 k) ∧ (b = false → ∀ k, a.2.2.1 ≤ k → k < a.2.2.1 + j → T0 a.1 (k - a.2.2.1) + a.2.2.2 ≤ T0 a.2.1 k))
        ((ei_range2 (i := (a.2.2.1 : Nat)) (j := (m : Nat)) B.range (ev_name 6) (ev_name 1) ?_)) ⟨b, o6, rfl, T, rfl, I, hcl, fun _ k h1 h2 => by omega⟩ ?_ ?_ ?_)
      · have := hsm a ham
        omega
      · rintro j j' ρ4 μ4 hj ⟨b, o6, rfl, T, rfl, I, hcl, hcj⟩
        obtain ⟨hjm, rfl⟩ := List.getElem?_eq_some_iff.mp hj
        rw [List.getElem_range]
        simp only [List.length_range] at hjm
        have hkm : a.2.2.1 + j < m := by omega
        refine tgp_name 9 ?_ (by decide) nd rfl (.inl rfl) (.inl rfl)
        have rget : ∀ {e k : Nat}, k < m → ((List.range m).map fun k => PV.E.sh (.int (T e k)))[k]? = some (.sh (.int (T e k))) := fun {e k} hk => by rw [List.getElem?_map, List.getElem?_range hk]; rfl
        have hval : a.2.2.1 + j - a.2.2.1 = j := by omega
        refine tss_one (tsp_ifE (et_lt (ev_ixC (ev_name 8) (ev_name 9) (rowsM_get han.2) (atI_of (a.2.2.1 + j) rfl (rget hkm))) (ev_add (ev_ixC (ev_ixC (ev_name 2) (ev_name 4) (top0 _) (atI_of a.1 rfl (ptn _ han.1))) (ev_subN (i := a.2.2.1 + j) (j := a.2.2.1) (by omega) (ev_name 9) (ev_name 6)) (rowsM_get han.1) (atI_of j (by rw [hval]) (rget (by omega)))) (ev_name 7))) (fun h => ?_) fun h => tss_nil ?_)
        · have h := of_decide_eq_true h
          refine tss_cons (tsp_seti ((ev_add (ev_ixC (ev_ixC (ev_name 2) (ev_name 4) (top0 _) (atI_of a.1 rfl (ptn _ han.1))) (ev_subN (i := a.2.2.1 + j) (j := a.2.2.1) (by omega) (ev_name 9) (ev_name 6)) (rowsM_get han.1) (atI_of j (by rw [hval]) (rget (by omega)))) (ev_name 7)) _ ((ev_name 8) _ ((ev_name 9) _ ⟨a.2.1, _, a.2.2.1 + j, rfl, rfl, rowsM_get han.2, by simp; omega, ?_⟩))))
          have hset : ∀ v : Int, (rowsM n (rowC T m) topC).set a.2.1 (some (.lst (((List.range m).map fun k => PV.E.sh (.int (T a.2.1 k))).set (a.2.2.1 + j) (.sh (.int v))))) = rowsM n (rowC (updT T a.2.1 (a.2.2.1 + j) v) m) topC := fun v => by
            rw [rowsM_set han.2]
            exact rowsM_congr fun e _ => (rowC_upd hkm).symm
          show TSs _ _ _ ((rowsM n (rowC T m) topC).set a.2.1 (some (.lst (((List.range m).map fun k => PV.E.sh (.int (T a.2.1 k))).set (a.2.2.1 + j) (.sh (.int (T a.1 j + (a.2.2.2 : Int)))))))) _
          rw [hset]
          have h2 := sol_arc hin hS ham (k := a.2.2.1 + j) (by omega)
          rw [hval] at h2
          have h3 := I.hi a.1 j han.1 (by omega)
          exact tss_one (tsp_setV 3 nd ev_bl ⟨true, _, rfl, _, rfl, I.raise han.2 hkm h (by omega), fun z => (nomatch z), fun z => (nomatch z)⟩)
        · have h := of_decide_eq_false h
          refine ⟨b, _, rfl, T, rfl, I, hcl, fun hb k h1 h2 => ?_⟩
          by_cases c : k < a.2.2.1 + j
          · exact hcj hb k h1 c
          · have e1 : k = a.2.2.1 + j := by omega
            rw [e1, hval, ← I.eq hb]
            omega
      · rintro ρ4 μ4 ⟨b, o6, rfl, T, rfl, I, hcl, hcj⟩
        rw [List.length_range] at hcj
        refine ⟨b, _, _, _, _, _, _, rfl, T, rfl, I, fun hb a2 ha2 k h1 h2 => ?_⟩
        rw [tk] at ha2
        rcases List.mem_append.mp ha2 with z | z
        · exact hcl hb a2 z k h1 h2
        · rw [List.mem_singleton.mp z] at h1 ⊢
          exact hcj hb k h1 (by omega)
      · rw [show ((m : Int) - (a.2.2.1 : Int)).toNat = m - a.2.2.1 by omega]
        refine List.map_congr_left fun j _ => ?_
        rw [Int.natCast_add]
    · rintro ρ3 μ3 ⟨b, o1, o2, o3, o4, o5, o6, rfl, T, rfl, I, hcl⟩
      rw [List.take_length] at hcl
      have hS1 := tot_le (n := n) (m := m) (S := S) (T := T) I.hi
      cases b with
      | false =>
        refine ⟨0, Nat.lt_of_le_of_lt (Nat.zero_le _) (hb1 rfl), false, _, _, _, _, _, _, rfl, T, rfl, I.lo, I.hi, fun z => (nomatch z), fun _ => ?_⟩
        rw [I.eq rfl]
        exact hcl rfl
      | true =>
        obtain ⟨e, k, he, hk, hlt⟩ := I.gt rfl
        have h1 := tot_lt (n := n) (m := m) (S := T) (T := T0) (fun e k _ _ => I.up e k) he hk hlt
        have h2 := hb1 rfl
        refine ⟨(tot n m S - tot n m T).toNat + 1, by omega, true, _, _, _, _, _, _, rfl, T, rfl, I.lo, I.hi, fun _ => Nat.lt_succ_self _, fun z => (nomatch z)⟩
end
end PV

namespace PV
open PySem PySem.Spec PyProof.Rows L2
def dueP (d : Due) : P := .tup (dueL d)
/-- what is known of a drawn net: its starts, an order -/
structure NetI (n : Nat) (as : List Arc) (ord : List Nat) (S : Nat → Nat → Int) : Prop where
  n1 : 1 ≤ n
  n20 : n ≤ 20
  al : as.length ≤ 40
  tk : ∀ a ∈ as ++ selfArcs n, a.2.2.1 ≤ 1000
  inn : InN n (as ++ selfArcs n)
  ord : OrdOk n (as ++ selfArcs n) ord
  sol : IsSol n (as ++ selfArcs n) S
def S_ndues : PSpec := fun xs μ Q => ∃ js jc N n as m ord S, xs = [.pt js, .sh (lnetP n as), .sh (.int (m : Nat))] ∧ NetI n as ord S ∧ 1 ≤ m ∧ m ≤ 900 ∧ StrAt js jc N μ ∧ N < 80000000 ∧
  ∀ (ds : List Due) μ', (∀ d ∈ ds, d.1 < n ∧ d.2.1 < m ∧ d.2.2 ≤ 390) → ds.length ≤ 40 → Ext2 js jc μ μ' → StrAt js jc (N + 100) μ' → Q (.sh (.lst (ds.map dueP))) μ'
section
variable {g : Bool} {Pr : Program} {w : World} {K : PySem.W.Frag} {mg : Str → Option Value} {base : Heap} {f : Addr} {fd : FuncData} {C : Addr}
theorem sc_law_n_dues : FnScope ["_law_stream", "_law_net", "_law_most", "_law_table", "_law_found", "_law_k", "_law_event", "_law_number", "_law_more", "_law_tick"] ["_law_stream", "_law_net", "_law_most"] (defScope s_law_n_dues) := ⟨rfl, rfl, rfl, by decide +kernel, rfl, by decide +kernel, by decide +kernel⟩
theorem cut_hi {α : Type} (xs : List α) (d : Nat) : cutP xs none (some (d : Int)) = xs.take (min d xs.length) := by
  unfold cutP
  have e1 : HT.sIx xs.length 0 none = 0 := rfl
  have e2 : HT.sIx xs.length xs.length (some (d : Int)) = min d xs.length := HT.sIx_nat ..
  rw [e1, e2]
  rfl
theorem c_law_n_dues (F : FnP K "_law_n_dues" "_law_n_dues" s_law_n_dues f fd) (hm : mg "_law_n_dues" = some (.ref f)) (B : Bl mg) (c1 : Ct g Pr w K mg base 1 "_law_draw" S_draw) (c2 : Ct g Pr w K mg base 2 "_law_pick" S_pick) (c3 : Ct g Pr w K mg base 2 "_law_n_table" (SF F_law_n_table)) :
    Ct g Pr w K mg base 3 "_law_n_dues" S_ndues := by
  refine ct_of F hm sc_law_n_dues (fun _ _ _ _ _ _ us hl => match us, hl with | [_, _, _], _ => rfl) (by rintro _ _ _ ⟨js, jc, N, n, as, m, ord, S, rfl, _⟩; rfl) fun cdv A outer s H E hr xs μ Q hS => ?_
  obtain ⟨js, jc, N, n, as, m, ord, S, rfl, NI, hm1, hm2, hA, hN, q⟩ := hS
  have nd := sc_law_n_dues.nd
  have hl := hA.lt
  have hr1 := hr.mono (j := 1) (by decide)
  have hn1 := NI.n1
  have hn20 := NI.n20
  refine tss_cons (tsp_par2A 3 4 nd (tap_consV (ev_call c3 hr (eas_cons (ev_name 1) (eas_cons (ev_name 2) eas_nil)) ⟨n, as, m, ord, S, rfl, NI.n20, by omega, Nat.le_trans NI.al (by decide), NI.tk, NI.inn, NI.ord, NI.sol, rfl⟩) (tap_cons (tep_lstC (tap_nil ⟨by decide, tap_nil ⟨_, _, rfl, ?_⟩⟩)))))
  let R : Option PV.E → Option PV.E → Option PV.E → Option PV.E → Option PV.E → Rho := fun a b c d e => [some (.pt js), some (.sh (lnetP n as)), some (.sh (.int (m : Nat))), some (.sh (tabP n S m)), some (.pt μ.length), a, b, c, d, e]
  refine tss_cons (tsp_for [5] (tip_range1 B.range (tep_pick c2 hr (ys := [0, 1, 2, 3, 5, 16].map P.int) (ev_name 0) (ev_lst (eas_cons ev_int (eas_cons ev_int (eas_cons ev_int (eas_cons ev_int (eas_cons ev_int (eas_cons ev_int eas_nil))))))) (hA.app _) (by omega) (by decide) (by decide) fun y μ3 hy b3 s3 => ?_)) (fun _ _ h => h.elim) rfl (by intro _; rfl))
  obtain ⟨cnt, hcnt, rfl⟩ : ∃ t : Nat, t ≤ 16 ∧ y = .int (t : Nat) := by
    simp only [List.map_cons, List.map_nil, List.mem_cons, List.not_mem_nil, or_false] at hy
    rcases hy with rfl | rfl | rfl | rfl | rfl | rfl
    · exact ⟨0, by decide, rfl⟩
    · exact ⟨1, by decide, rfl⟩
    · exact ⟨2, by decide, rfl⟩
    · exact ⟨3, by decide, rfl⟩
    · exact ⟨5, by decide, rfl⟩
    · exact ⟨16, by decide, rfl⟩
  refine ⟨cnt, rfl, by omega, fun i ρ4 μ4 => (∃ a b c d e, ρ4 = R a b c d e) ∧ ∃ ds : List Due, μ4[μ.length]? = some (some (.lst ((ds.map dueP).map .sh))) ∧ StrAt js jc (N + 1 + 3 * i) μ4 ∧ Ext2 js jc μ μ4 ∧ μ4.length ≥ μ.length + 1 ∧ ds.length ≤ i ∧ ∀ d ∈ ds, d.1 < n ∧ d.2.1 < m ∧ d.2.2 ≤ 390, ?_, fun _ _ _ _ _ => trivial, ?_, ?_⟩
  · have hx : Ext2 js jc μ μ3 := (Ext2.app js jc μ _).trans b3.ext
    refine ⟨⟨_, _, _, _, _, rfl⟩, [], ?_, s3, hx, by rw [b3.len]; simp, Nat.le_refl _, fun d h => absurd h (by simp)⟩
    rw [b3.at_ μ.length (by omega) (by omega), List.getElem?_append_right (Nat.le_refl _), Nat.sub_self]
    rfl
  · rintro i x ρ4 μ4 hx ⟨⟨a, b, c, d, e, rfl⟩, ds, hC, hS4, hX4, hlen4, hdl, hds⟩
    have hi : i < cnt := by
      have := (List.getElem?_eq_some_iff.mp hx).1
      simpa using this
    refine tgp_name 5 ?_ (by decide) nd rfl (.inl rfl) (.inl rfl)
    refine tss_cons (tsp_par2A 6 7 nd (tap_cons (tep_draw c1 hr1 (m := n) (ev_name 0) (ev_ixT (xs := [.int (n : Nat), .lst (as.map arcP)]) (ev_name 1) ev_int rfl) hS4 (by omega) (by omega) (by omega) fun ev μ5 h5 b5 s5 => tap_cons (tep_draw c1 hr1 (m := m) (ev_name 0) (ev_name 2) s5 (by omega) (by omega) (by omega) fun nu μ6 h6 b6 s6 => tap_nil ⟨_, _, rfl, ?_⟩))))
    refine tss_cons (tsp_setP 8 nd (tep_pick c2 hr (ys := [0, 0, 1, 2, 3, 7, 20, -1, -3].map P.int) (ev_name 0) (ev_lst (eas_cons ev_int (eas_cons ev_int (eas_cons ev_int (eas_cons ev_int (eas_cons ev_int (eas_cons ev_int (eas_cons ev_int (eas_cons (ev_neg ev_int) (eas_cons (ev_neg ev_int) eas_nil)))))))))) s6 (by omega) (by decide) (by decide) fun y μ7 hy b7 s7 => ?_))
    obtain ⟨more, _, rfl⟩ := List.mem_map.mp hy
    have b47 : But2 js jc μ4 μ7 := (b5.trans b6).trans b7
    obtain ⟨tick, htick⟩ : ∃ t : Nat, max 0 (S ev nu + more) = (t : Int) := ⟨(max 0 (S ev nu + more)).toNat, by omega⟩
    refine tss_cons (tsp_setV 9 nd ((ev_max2 rfl B.max ev_int (ev_add (ev_tab h5 h6 (ev_name 3) (ev_name 6) (ev_name 7)) (ev_name 8))).is (y := .sh (.int (tick : Nat))) (by rw [htick])) ?_)
    have hC7 : μ7[μ.length]? = some (some (.lst ((ds.map dueP).map .sh))) := (b47.at_ _ (by omega) (by omega)).trans hC
    have hl7 := b47.len
    refine tss_one (tsp_expr (tep_extend (ev_name 4) (ev_rep (xs := [dueP (ev, nu, tick)]) (k := if decide ((tick : Int) ≤ 390) = true then 1 else 0) (ev_lst (eas_cons (ev_tup (ys := dueL (ev, nu, tick)) (eas_cons (ev_name 6) (eas_cons (ev_name 7) (eas_cons (ev_name 9) eas_nil))) (Nat.le_of_ble_eq_true rfl)) eas_nil)) (ev_intB B.int (ev_le (ev_name 9) ev_int)) (by split <;> omega) (by split <;> exact Nat.le_of_ble_eq_true rfl)) hC7 ?_ ?_))
    · rw [List.length_map, List.length_map]
      split <;> simp <;> omega
    by_cases ht : (tick : Int) ≤ 390
    · rw [if_pos (decide_eq_true ht)]
      refine ⟨⟨_, _, _, _, _, rfl⟩, ds ++ [(ev, nu, tick)], ?_, ((s7.mono (M := N + 1 + 3 * (i + 1)) (by omega)).set (by omega) (by omega) _), ⟨by rw [List.length_set]; have := hX4.len; omega, fun i2 h1 h2 h3 => ?_⟩, by rw [List.length_set]; omega, by simp; omega, fun d hd => ?_⟩
      · rw [List.getElem?_set_self (by omega), List.map_append, List.map_append]
        rfl
      · rw [List.getElem?_set_ne (by omega), b47.at_ _ h2 h3]
        exact hX4.at_ i2 h1 h2 h3
      · rcases List.mem_append.mp hd with z | z
        · exact hds d z
        · rw [List.mem_singleton.mp z]; exact ⟨h5, h6, by show tick ≤ 390; omega⟩
    · rw [if_neg (by simpa using ht)]
      refine ⟨⟨_, _, _, _, _, rfl⟩, ds, ?_, ((s7.mono (M := N + 1 + 3 * (i + 1)) (by omega)).set (by omega) (by omega) _), ⟨by rw [List.length_set]; have := hX4.len; omega, fun i2 h1 h2 h3 => ?_⟩, by rw [List.length_set]; omega, by omega, hds⟩
      · rw [List.getElem?_set_self (by omega)]
        simp
      · rw [List.getElem?_set_ne (by omega), b47.at_ _ h2 h3]
        exact hX4.at_ i2 h1 h2 h3
  · rintro ρ4 μ4 ⟨⟨a, b, c, d, e, rfl⟩, ds, hC, hS4, hX4, hlen4, hdl, hds⟩
    simp only [List.length_map, List.length_range] at hdl hS4
    refine tss_share μ.length (zs := ds.map dueP) (R := [some (.pt js), some (.sh (lnetP n as)), some (.sh (.int (m : Nat))), some (.sh (tabP n S m)), some (.sh (.lst (ds.map dueP))), a, b, c, d, e]) hC rfl ?_ ?_
    · intro i2 x2' hx2
      match i2, hx2 with
      | 0, h => exact .inl h
      | 1, h => exact .inl h
      | 2, h => exact .inl h
      | 3, h => exact .inl h
      | 4, h => cases h; exact .inr ⟨rfl, rfl⟩
      | i2 + 5, h => exact .inl h
    · have hX5 : Ext2 js jc μ (μ4.set μ.length none) := ⟨by rw [List.length_set]; exact hX4.len, fun i2 h1 h2 h3 => by rw [List.getElem?_set_ne (by omega)]; exact hX4.at_ i2 h1 h2 h3⟩
      refine tss_one (tsp_ret (tep_cat ((ev_name 4) _ (tep_sliceHi (ev_name 4) (tep_draw c1 hr1 (m := 2) (ev_name 0) ev_int ((hS4.set (k := μ.length) (by omega) (by omega) none)) (by omega) (by decide) (by decide) fun d8 μ8 h8 b8 s8 => ⟨_, rfl, _, _, rfl, rfl, ?_, ?_⟩)))))
      · have := List.length_take_le (min d8 (ds.map dueP).length) (ds.map dueP)
        rw [cut_hi]
        simp only [List.length_map] at *
        omega
      · rw [cut_hi, ← List.map_take, ← List.map_append]
        refine q (ds ++ ds.take (min d8 (ds.map dueP).length)) μ8 (fun d hd => ?_) (by simp; omega) (hX5.trans b8.ext) (s8.mono (by omega))
        rcases List.mem_append.mp hd with z | z
        · exact hds d z
        · exact hds d (List.mem_of_mem_take z)
end
end PV

/-! The latest starts: there are such, the order of links does not matter; a drawn net has an order. -/
namespace PV
open PySem PySem.Spec PyProof.Rows L2
theorem maxL_perm {l m : List Int} (h : l.Perm m) (h0 : l ≠ []) : maxL l = maxL m :=
  maxL_uniq (h.mem_iff.mp (maxL_mem h0)) fun y hy => le_maxL (h.mem_iff.mpr hy)
theorem minO_perm {l m : List Int} (h : l.Perm m) : minO l = minO m := by
  cases l with
  | nil => rw [List.nil_perm.mp h]
  | cons a l =>
    cases m with
    | nil => exact absurd h.symm (by simp)
    | cons b m =>
      show some _ = some _
      rw [minL_uniq (ns := b :: m) (m := minL (a :: l)) (h.mem_iff.mp (minL_mem (by simp))) fun y hy => minL_le (h.mem_iff.mpr hy)]
theorem sol_perm {n : Nat} {l m : List Arc} {S : Nat → Nat → Int} (h : l.Perm m) (hS : IsSol n l S) : IsSol n m S := fun e he k => by
  rw [hS e he k]
  refine maxL_perm (List.Perm.cons _ ?_) (by simp)
  unfold askOf
  exact (h.filter _).map _
theorem lat_perm {n : Nat} {l m : List Arc} {d : DD} {L : LatF} (h : l.Perm m) (hL : IsLat n l d L) : IsLat n m d L := ⟨fun e k he => by
  rw [hL.eq e k he]
  refine minO_perm ?_
  unfold latCand
  exact ((h.filter _).map _).append_right _, hL.top⟩
theorem ord_perm {n : Nat} {l m : List Arc} {ord : List Nat} (h : l.Perm m) (ho : OrdOk n l ord) : OrdOk n m ord := ⟨ho.nd, ho.mem, fun i e a h1 h2 => ho.fw i e a h1 (h.mem_iff.mpr h2)⟩
theorem inn_perm {n : Nat} {l m : List Arc} (h : l.Perm m) (hi : InN n l) : InN n m := fun a ha => hi a (h.mem_iff.mpr ha)
/-! ### there are latest starts -/
theorem latCand_congr {ls : List Arc} {d : DD} {L M : LatF} {e k : Nat} (h : ∀ a ∈ ls, a.1 = e → L a.2.1 (k + a.2.2.1) = M a.2.1 (k + a.2.2.1)) : latCand ls d L e k = latCand ls d M e k := by
  unfold latCand
  congr 1
  have hf : (ls.filter fun a => decide ((a.1 : Int) = e) && (L a.2.1 (k + a.2.2.1)).isSome) = ls.filter fun a => decide ((a.1 : Int) = e) && (M a.2.1 (k + a.2.2.1)).isSome := List.filter_congr fun a ha => by
    by_cases c : (a.1 : Int) = e
    · rw [h a ha (by omega)]
    · simp [c]
  rw [hf]
  refine List.map_congr_left fun a ha => ?_
  obtain ⟨h1, h2⟩ := List.mem_filter.mp ha
  simp only [Bool.and_eq_true, decide_eq_true_eq] at h2
  rw [h a h1 (by omega)]
def apprL (ls : List Arc) (d : DD) : Nat → LatF
  | 0, _, _ => none
  | m + 1, e, k => if KKof d ≤ k then none else minO (latCand ls d (apprL ls d m) e k)
theorem apprL_top {ls : List Arc} {d : DD} {m e k : Nat} (h : KKof d ≤ k) : apprL ls d m e k = none := by
  cases m with
  | zero => rfl
  | succ m => exact if_pos h
/-- how far on it is at most -/
def ahead (n : Nat) (ord : List Nat) (d : DD) (p : PR) : Nat := KKof d * n + n - back n ord p
theorem ord_len {n : Nat} {ls : List Arc} {ord : List Nat} (ho : OrdOk n ls ord) : ord.length = n := by
  have h1 : ord.Perm (List.range n) := (List.perm_ext_iff_of_nodup ho.nd List.nodup_range).mpr fun e => by rw [ho.mem, List.mem_range]
  rw [h1.length_eq, List.length_range]
theorem back_le {n : Nat} {ls : List Arc} {ord : List Nat} (ho : OrdOk n ls ord) {d : DD} {p : PR} (h : p.2 < KKof d) : back n ord p ≤ KKof d * n := by
  have h1 := List.idxOf_le_length (a := p.1) (l := ord)
  rw [ord_len ho] at h1
  have h2 : (p.2 + 1) * n ≤ KKof d * n := Nat.mul_le_mul_right _ h
  rw [Nat.succ_mul] at h2
  unfold back
  omega
theorem ahead_lt {n : Nat} {ls : List Arc} {ord : List Nat} (ho : OrdOk n ls ord) (hin : InN n ls) (hn : 1 ≤ n) {d : DD} {a : Arc} (ha : a ∈ ls) {k : Nat} (hk : k + a.2.2.1 < KKof d) : ahead n ord d (a.2.1, k + a.2.2.1) < ahead n ord d (a.1, k) := by
  have h1 := back_lt ho hin ha (k := k + a.2.2.1) (by omega)
  rw [show k + a.2.2.1 - a.2.2.1 = k by omega] at h1
  have h2 := back_le ho (d := d) (p := (a.2.1, k + a.2.2.1)) hk
  unfold ahead
  omega
theorem apprL_stable {n : Nat} {ls : List Arc} {ord : List Nat} (ho : OrdOk n ls ord) (hin : InN n ls) (hn : 1 ≤ n) {d : DD} : ∀ (b m m' e k : Nat), ahead n ord d (e, k) < b → ahead n ord d (e, k) < m → ahead n ord d (e, k) < m' → apprL ls d m e k = apprL ls d m' e k := by
  intro b
  induction b with
  | zero => intro m m' e k h; omega
  | succ b ih =>
    intro m m' e k h h1 h2
    obtain ⟨m, rfl⟩ : ∃ q, m = q + 1 := ⟨m - 1, by omega⟩
    obtain ⟨m', rfl⟩ : ∃ q, m' = q + 1 := ⟨m' - 1, by omega⟩
    show (if KKof d ≤ k then none else minO (latCand ls d (apprL ls d m) e k)) = if KKof d ≤ k then none else minO (latCand ls d (apprL ls d m') e k)
    rw [latCand_congr (L := apprL ls d m) (M := apprL ls d m') fun a ha he => ?_]
    by_cases c : k + a.2.2.1 < KKof d
    · have hb := ahead_lt ho hin hn ha c
      rw [he] at hb
      exact ih m m' _ _ (by omega) (by omega) (by omega)
    · rw [apprL_top (by omega), apprL_top (by omega)]
theorem kk_gt {d : DD} {q : PR × Int} (h : q ∈ d) : q.1.2 < KKof d := by
  have h1 := le_maxL (ns := -1 :: d.map fun q => (q.1.2 : Int)) (List.mem_cons_of_mem _ (List.mem_map.mpr ⟨q, h, rfl⟩))
  have h2 := kk_eq d
  omega
theorem lat_ex {n : Nat} {ls : List Arc} {ord : List Nat} (ho : OrdOk n ls ord) (hin : InN n ls) (hn : 1 ≤ n) (d : DD) : ∃ L, IsLat n ls d L := by
  refine ⟨fun e k => apprL ls d (ahead n ord d (e, k) + 1) e k, fun e k _ => ?_, fun e k hk => apprL_top hk⟩
  show (if KKof d ≤ k then none else minO (latCand ls d (apprL ls d (ahead n ord d (e, k))) e k)) = _
  by_cases c : KKof d ≤ k
  · rw [if_pos c]
    have e1 : latCand ls d (fun e k => apprL ls d (ahead n ord d (e, k) + 1) e k) e k = [] := by
      unfold latCand
      rw [List.filter_eq_nil_iff.mpr]
      · rw [List.map_nil, List.nil_append]
        cases h : dget d (e, k) with
        | none => rfl
        | some v => exact absurd (kk_gt (dget_mem h)) (by show ¬ k < _; omega)
      · intro a _
        have e2 : apprL ls d (ahead n ord d (a.2.1, k + a.2.2.1) + 1) a.2.1 (k + a.2.2.1) = none := apprL_top (by omega)
        simp [e2]
    rw [e1]
    rfl
  · rw [if_neg c, latCand_congr fun a ha he => ?_]
    by_cases c2 : k + a.2.2.1 < KKof d
    · have hb := ahead_lt ho hin hn ha c2
      rw [he] at hb
      exact apprL_stable ho hin hn _ _ _ _ _ (Nat.lt_succ_self _) hb (Nat.lt_succ_self _)
    · rw [apprL_top (by omega), apprL_top (by omega)]
/-! what the latest starts keep -/
theorem minO_some {l : List Int} {v : Int} (h : v ∈ l) : ∃ m, minO l = some m ∧ m ≤ v := by
  cases l with
  | nil => cases h
  | cons a l => exact ⟨_, rfl, minL_le h⟩
theorem minO_get {l : List Int} {m : Int} (h : minO l = some m) : m ∈ l := by
  cases l with
  | nil => cases h
  | cons a l =>
    cases h
    exact minL_mem (by simp)
theorem lat_arc {n : Nat} {ls : List Arc} {d : DD} {L : LatF} (hin : InN n ls) (hL : IsLat n ls d L) {a : Arc} (ha : a ∈ ls) {k : Nat} (hk : a.2.2.1 ≤ k) {l : Int} (h : L a.2.1 k = some l) : ∃ m, L a.1 (k - a.2.2.1) = some m ∧ m ≤ l - a.2.2.2 := by
  rw [hL.eq a.1 _ (hin a ha).1]
  refine minO_some (List.mem_append_left _ (List.mem_map.mpr ⟨a, List.mem_filter.mpr ⟨ha, ?_⟩, ?_⟩))
  · rw [show k - a.2.2.1 + a.2.2.1 = k by omega, h]
    simp
  · rw [show k - a.2.2.1 + a.2.2.1 = k by omega, h]
    rfl
theorem lat_due {n : Nat} {ls : List Arc} {d : DD} {L : LatF} (hL : IsLat n ls d L) {p : PR} (hp : p.1 < n) {v : Int} (h : dget d p = some v) : ∃ m, L p.1 p.2 = some m ∧ m ≤ v := by
  rw [hL.eq p.1 p.2 hp]
  refine minO_some (List.mem_append_right _ ?_)
  rw [show ((p.1, p.2) : PR) = p from rfl, h]
  simp
theorem lat_why {n : Nat} {ls : List Arc} {d : DD} {L : LatF} (hL : IsLat n ls d L) {e k : Nat} (he : e < n) {l : Int} (h : L e k = some l) : (∃ a ∈ ls, a.1 = e ∧ ∃ m, L a.2.1 (k + a.2.2.1) = some m ∧ l = m - a.2.2.2) ∨ dget d (e, k) = some l := by
  rw [hL.eq e k he] at h
  rcases List.mem_append.mp (minO_get h) with z | z
  · obtain ⟨a, ha, rfl⟩ := List.mem_map.mp z
    obtain ⟨h1, h2⟩ := List.mem_filter.mp ha
    simp only [Bool.and_eq_true, decide_eq_true_eq] at h2
    obtain ⟨m, hm⟩ := Option.isSome_iff_exists.mp h2.2
    refine .inl ⟨a, h1, by omega, m, hm, ?_⟩
    rw [hm]
    rfl
  · cases e1 : dget d (e, k) with
    | none => rw [e1] at z; simp at z
    | some v =>
      rw [e1] at z
      simp at z
      exact .inr (by rw [z])
theorem lat_lt {n : Nat} {ls : List Arc} {d : DD} {L : LatF} (hL : IsLat n ls d L) {e k : Nat} {l : Int} (h : L e k = some l) : k < KKof d := by
  by_cases c : KKof d ≤ k
  · rw [hL.top e k c] at h; cases h
  · omega
/-- no needed start lies ahead of tick 0 just if no due is ahead of its start -/
theorem lat_ge {n : Nat} {ls : List Arc} {ord : List Nat} {d : DD} {L : LatF} {S : Nat → Nat → Int} (ho : OrdOk n ls ord) (hin : InN n ls) (hn : 1 ≤ n) (hL : IsLat n ls d L) (hS : IsSol n ls S) (hd : ∀ p v, dget d p = some v → S p.1 p.2 ≤ v) :
    ∀ (b e k : Nat) (l : Int), ahead n ord d (e, k) < b → e < n → L e k = some l → S e k ≤ l := by
  intro b
  induction b with
  | zero => intro e k l h; omega
  | succ b ih =>
    intro e k l h he hl
    rcases lat_why hL he hl with ⟨a, ha, rfl, m, hm, rfl⟩ | z
    · have hb := ahead_lt ho hin hn ha (lat_lt hL hm)
      have h1 := ih _ _ _ (by omega) (hin a ha).2 hm
      have h2 := sol_arc hin hS ha (k := k + a.2.2.1) (by omega)
      rw [show k + a.2.2.1 - a.2.2.1 = k by omega] at h2
      omega
    · exact hd _ _ z
theorem sol_le {n : Nat} {ls : List Arc} {ord : List Nat} {d : DD} {L : LatF} {S : Nat → Nat → Int} (ho : OrdOk n ls ord) (hin : InN n ls) (hL : IsLat n ls d L) (hS : IsSol n ls S) (h0 : ∀ e k l, e < n → L e k = some l → 0 ≤ l) :
    ∀ (b e k : Nat) (l : Int), back n ord (e, k) < b → e < n → L e k = some l → S e k ≤ l := by
  intro b
  induction b with
  | zero => intro e k l h; omega
  | succ b ih =>
    intro e k l h he hl
    have h1 := maxL_mem (ns := 0 :: askOf ls S e k) (by simp)
    rw [← hS e he k] at h1
    rcases List.mem_cons.mp h1 with h1 | h1
    · rw [h1]; exact h0 e k l he hl
    · obtain ⟨a, ha, h2⟩ := List.mem_map.mp h1
      obtain ⟨h3, h4⟩ := List.mem_filter.mp ha
      simp only [Bool.and_eq_true, decide_eq_true_eq] at h4
      have e1 : a.2.1 = e := by omega
      have hk2 : a.2.2.1 ≤ k := by omega
      have hb := back_lt ho hin h3 hk2
      obtain ⟨m, hm, hml⟩ := lat_arc hin hL h3 hk2 (by rw [e1]; exact hl)
      rw [e1] at hb
      have h6 := ih a.1 (k - a.2.2.1) m (by omega) (hin a h3).1 hm
      omega
theorem late_iff {n : Nat} {ls : List Arc} {ord : List Nat} {d : DD} {L : LatF} {S : Nat → Nat → Int} (ho : OrdOk n ls ord) (hin : InN n ls) (hn : 1 ≤ n) (hL : IsLat n ls d L) (hS : IsSol n ls S) (hdn : ∀ q ∈ d, q.1.1 < n) (hnd : dnd d) : lateOf S d = none ↔ ∀ e k l, e < n → L e k = some l → 0 ≤ l := by
  unfold lateOf
  rw [List.find?_eq_none]
  constructor
  · intro h e k l he hl
    have h1 := lat_ge ho hin hn hL hS (fun p v hv => by
      have := h p ((sortP_perm _).mem_iff.mpr (dget_key.mp (by rw [hv]; rfl)))
      rw [hv] at this
      simp only [Option.getD_some, decide_eq_true_eq] at this
      omega) _ e k l (Nat.lt_succ_self _) he hl
    have h2 := sol_nonneg hS he k
    omega
  · intro h p hp
    have hp := (sortP_perm _).mem_iff.mp hp
    obtain ⟨v, hv⟩ := Option.isSome_iff_exists.mp (dget_key.mpr hp)
    obtain ⟨q, hq, rfl⟩ := List.mem_map.mp hp
    obtain ⟨m, hm, hmv⟩ := lat_due hL (hdn q hq) hv
    have h1 := sol_le ho hin hL hS h _ q.1.1 q.1.2 m (Nat.lt_succ_self _) (hdn q hq) hm
    rw [hv]
    simp only [Option.getD_some, decide_eq_true_eq]
    omega
/-! ### a drawn net has an order -/
theorem order_go {n : Nat} {links : List Arc} {or : List Nat} (hin : InN n links) (hfw : ∀ a ∈ links, or.idxOf a.1 < or.idxOf a.2.1) : ∀ (k : Nat) (left found : List Nat), left.length ≤ k → (found ++ left).Perm (List.range n) →
    (∀ i e a, found[i]? = some e → a ∈ links → a.2.1 = e → a.1 ∈ found.take i) →
    ∃ ord, orderGo links k left found = some ord ∧ ord.Perm (List.range n) ∧ ∀ i e a, ord[i]? = some e → a ∈ links → a.2.1 = e → a.1 ∈ ord.take i := by
  intro k
  induction k with
  | zero =>
    intro left found h1 h2 h3
    have : left = [] := List.length_eq_zero_iff.mp (by omega)
    subst this
    rw [List.append_nil] at h2
    exact ⟨found, rfl, h2, h3⟩
  | succ k ih =>
    intro left found h1 h2 h3
    show ∃ ord, (if left.length = 0 then some found else if (freeOf links left).length = 0 then none else orderGo links k (left.filter fun e => !decide (e ∈ freeOf links left)) (found ++ freeOf links left)) = some ord ∧ _
    by_cases c : left.length = 0
    · rw [if_pos c]
      have : left = [] := List.length_eq_zero_iff.mp c
      subst this
      rw [List.append_nil] at h2
      exact ⟨found, rfl, h2, h3⟩
    · rw [if_neg c]
      have hne : left ≠ [] := fun z => c (by rw [z]; rfl)
      -- the one of least place is free
      obtain ⟨e0, he0, hmin⟩ : ∃ e ∈ left, ∀ e' ∈ left, or.idxOf e ≤ or.idxOf e' := by
        have hl : left.map (fun e => ((or.idxOf e : Nat) : Int)) ≠ [] := by simpa using hne
        obtain ⟨e, he, hm⟩ := List.mem_map.mp (minL_mem hl)
        refine ⟨e, he, fun e' he' => ?_⟩
        have := minL_le (List.mem_map.mpr ⟨e', he', rfl⟩ : ((or.idxOf e' : Nat) : Int) ∈ left.map fun e => ((or.idxOf e : Nat) : Int))
        omega
      have hfree : e0 ∈ freeOf links left := by
        refine List.mem_filter.mpr ⟨he0, ?_⟩
        simp only [Bool.not_eq_true', List.any_eq_false, Bool.and_eq_true, decide_eq_true_eq, not_and]
        intro a ha h5 h6
        have h7 := hfw a ha
        have h8 := hmin a.1 h5
        rw [h6] at h7
        omega
      have hfl : (freeOf links left).length ≠ 0 := fun z => by
        rw [List.length_eq_zero_iff.mp z] at hfree
        cases hfree
      rw [if_neg hfl]
      have hndl : left.Nodup := ((h2.nodup_iff).mpr List.nodup_range |> List.nodup_append.mp).2.1
      have hperm : (freeOf links left ++ left.filter fun e => !decide (e ∈ freeOf links left)).Perm left := by
        refine (List.perm_ext_iff_of_nodup ?_ hndl).mpr fun e => ?_
        · refine List.nodup_append.mpr ⟨hndl.filter _, hndl.filter _, fun x hx y hy z => ?_⟩
          subst z
          have := (List.mem_filter.mp hy).2
          simp [hx] at this
        · rw [List.mem_append]
          constructor
          · rintro (z | z)
            · exact (List.mem_filter.mp z).1
            · exact (List.mem_filter.mp z).1
          · intro z
            by_cases c : e ∈ freeOf links left
            · exact .inl c
            · exact .inr (List.mem_filter.mpr ⟨z, by simp [c]⟩)
      refine ih _ _ ?_ ?_ ?_
      · have h5 := hperm.length_eq
        rw [List.length_append] at h5
        omega
      · rw [List.append_assoc]
        exact (hperm.append_left found).trans h2
      · intro i e a h5 h6 h7
        by_cases ci : i < found.length
        · rw [List.getElem?_append_left ci] at h5
          rw [List.take_append_of_le_length (by omega)]
          exact h3 i e a h5 h6 h7
        · rw [List.getElem?_append_right (by omega)] at h5
          have h8 := List.mem_filter.mp (List.mem_of_getElem? h5)
          have h9 := h8.2
          simp only [Bool.not_eq_true', List.any_eq_false, Bool.and_eq_true, decide_eq_true_eq, not_and] at h9
          have h10 : a.1 ∉ left := fun z => h9 a h6 z h7
          have h11 : a.1 ∈ found ++ left := h2.mem_iff.mpr (List.mem_range.mpr (hin a h6).1)
          rcases List.mem_append.mp h11 with z | z
          · rw [List.take_append, List.take_of_length_le (by omega)]
            exact List.mem_append_left _ z
          · exact absurd z h10
theorem drawn_ord {most n : Nat} {as : List Arc} {or : List Nat} (D : Drawn most n as or) : ∃ ord, orderOf n as = some ord ∧ OrdOk n (as ++ selfArcs n) ord := by
  have zin : ∀ a ∈ zeroArcs as, a ∈ as ∧ a.2.2.1 = 0 := fun a ha => by
    obtain ⟨h1, h2⟩ := List.mem_filter.mp ha
    exact ⟨h1, by have := of_decide_eq_true h2; omega⟩
  obtain ⟨ord, h1, h2, h3⟩ := order_go (n := n) (links := zeroArcs as) (or := or) (fun a ha => D.inn a (zin a ha).1) (fun a ha => D.fw a (zin a ha).1 (zin a ha).2) n (List.range n) [] (by simp) (by simp) (fun i e a h => by simp at h)
  refine ⟨ord, h1, (h2.nodup_iff).mpr List.nodup_range, fun e => by rw [h2.mem_iff, List.mem_range], fun i e a h4 h5 h6 h7 => ?_⟩
  rcases List.mem_append.mp h5 with z | z
  · exact h3 i e a h4 (List.mem_filter.mpr ⟨z, by simp [h7]⟩) h6
  · obtain ⟨x, _, rfl⟩ := List.mem_map.mp z
    cases h7
theorem drawn_inn {most n : Nat} {as : List Arc} {or : List Nat} (D : Drawn most n as or) : InN n (as ++ selfArcs n) := fun a ha => by
  rcases List.mem_append.mp ha with z | z
  · exact D.inn a z
  · obtain ⟨x, hx, rfl⟩ := List.mem_map.mp z
    exact ⟨List.mem_range.mp hx, List.mem_range.mp hx⟩
end PV

/-! The way back by a stack: what is kept, what falls. -/
namespace PV
open PySem PySem.Spec PyProof.Rows L2
section
variable {X : Cx} {o e : Expr} {ρ : Rho} {μ : Mu} {Q : E → Mu → Prop} {apos cpos : Pos} {y : E}
theorem vm_appendW {K : PySem.W.Frag} {j : Nat} {zs : List E} (hj : μ[j]? = some (some (.lst zs))) (hl : zs.length < 16000000) (q : Q (.sh .non) (μ.set j (some (.lst (zs ++ [y]))))) : VM K rAppend (.pt j) [y] μ Q := fun ad Hb H v vs W r0 rs Q' g => by
  obtain ⟨w, rfl, rw_⟩ := vals1 rs
  obtain ⟨a, ha, rfl⟩ := r0
  obtain ⟨_, us, hv, r⟩ := W.off j a _ ha hj
  refine ⟨a, us, w, rfl, rfl, hv, Nat.lt_of_lt_of_le (by rw [r.length]; exact hl) (by decide), ?_⟩
  obtain ⟨W2, s2⟩ := W.put (d := .lst (zs ++ [y])) (o := .lst (us ++ [w])) ha hj ⟨_, upd_same, pd_app r (.cons rw_ .nil)⟩
  exact g _ (.sh .non) _ _ _ _ q s2 W2 .non
theorem tep_appendW (h : TEP X o ρ μ fun x μ1 => ∃ j zs, x = .pt j ∧ μ1[j]? = some (some (.lst zs)) ∧ TEP X e ρ μ1 fun y μ2 => ∃ zs2, μ2[j]? = some (some (.lst zs2)) ∧ zs2.length < 16000000 ∧ Q (.sh .non) (μ2.set j (some (.lst (zs2 ++ [y])))))
    (hbase : attributeBase o "append" X.env (eval o X.env) = eval o X.env := by rfl)
    (hfew : ((backTo cpos (starEach [e] X.env)).all (fun x => !x.1) && (backToKw cpos (keywordEach [] X.env)).all (fun x => x.1.isSome) && decide ([e].length + ([] : List Keyword).length + (if ([] : List Keyword).isEmpty then 0 else 1) < 30)) = true := by rfl)
    (hline : (apos.endLine == cpos.line) = true := by rfl) (hs : starEach [e] X.env = (false, eval e X.env) :: starEach [] X.env := by rfl) : TEP X (.Call (.Attribute o "append" apos) [e] [] cpos) ρ μ Q :=
  tep_bm PySem.F.plainAttrs_list PySem.F.slot_list_append PySem.F.type_list_append mt_append (fun ad Hb H σ W N Q' g => h ad Hb H σ W N Q' fun v x μ1 ad1 Hb1 H1 ⟨j, zs, ex, hj, q⟩ s1 W1 r1 => g v x μ1 ad1 Hb1 H1 ⟨by
    subst ex
    exact .inl ⟨rfl, zs, hj⟩, tap_cons (fun ad Hb H σ W N Q' g => q ad Hb H σ W N Q' fun v y μ2 ad1 Hb1 H1 ⟨zs2, hj2, hl, q2⟩ s1 W1 r1 => g v y μ2 ad1 Hb1 H1 (tap_nil (by subst ex; exact vm_appendW hj2 hl q2)) s1 W1 r1) hs⟩ s1 W1 r1) hbase hfew hline hs rfl
end
theorem known_get {ds : List Due} {p : PR} {v : Int} (h : dget (knownOf ds) p = some v) : ∃ d ∈ ds, (d.1, d.2.1) = p ∧ v = (d.2.2 : Int) := by
  have go : ∀ (l : List Due) (d0 : DD), (∀ u ∈ l, u ∈ ds) → (∀ p v, dget d0 p = some v → ∃ d ∈ ds, (d.1, d.2.1) = p ∧ v = (d.2.2 : Int)) → ∀ p v, dget (l.foldl knownPut d0) p = some v → ∃ d ∈ ds, (d.1, d.2.1) = p ∧ v = (d.2.2 : Int) := by
    intro l
    induction l with
    | nil => exact fun d0 _ h => h
    | cons u l ih =>
      intro d0 hl h0
      refine ih _ (fun w hw => hl w (List.mem_cons_of_mem _ hw)) fun p v hv => ?_
      unfold knownPut at hv
      rw [dget_put] at hv
      split at hv
      · rename_i e
        cases e1 : dget d0 (u.1, u.2.1) with
        | none =>
          rw [e1] at hv
          simp at hv
          exact ⟨u, hl u (List.mem_cons_self ..), e, hv.symm⟩
        | some x =>
          rw [e1] at hv
          simp only [Option.getD_some, Option.some.injEq] at hv
          obtain ⟨d, hd, h1, h2⟩ := h0 _ _ e1
          by_cases c : (u.2.2 : Int) ≤ x
          · exact ⟨u, hl u (List.mem_cons_self ..), e, by omega⟩
          · exact ⟨d, hd, h1.trans e, by omega⟩
      · exact h0 p v hv
  exact go ds [] (fun u h => h) (fun p v h => by cases h) p v h
/-- all links keep p where it stands at v -/
def ClosedAt (ls : List Arc) (fd : DD) (p : PR) (v : Int) : Prop := ∀ a ∈ ls, a.2.1 = p.1 → a.2.2.1 ≤ p.2 → ∃ u, dget fd (a.1, p.2 - a.2.2.1) = some u ∧ u ≤ v - a.2.2.2
structure RelaxI (n : Nat) (ls : List Arc) (dues : DD) (L : LatF) (fd : DD) (st : List PR) (x : PR → Prop) : Prop where
  nd : dnd fd
  ge : ∀ p v, dget fd p = some v → p.1 < n ∧ v ≤ 400 ∧ ∃ l, L p.1 p.2 = some l ∧ l ≤ v
  due : ∀ p v, dget dues p = some v → ∃ u, dget fd p = some u ∧ u ≤ v
  inS : ∀ p ∈ st, ∃ v, dget fd p = some v
  cl : ∀ p v, dget fd p = some v → p ∈ st ∨ x p ∨ ClosedAt ls fd p v
/-- how far fd is above the latest -/
def gapF (L : LatF) (fd : DD) (e k : Nat) : Int := match L e k with
  | some l => (dget fd (e, k)).getD 401 - l
  | none => 0
theorem dput_le {fd : DD} {q : PR} {w : Int} (hw : ∀ u, dget fd q = some u → w ≤ u) {p : PR} {v : Int} (h : dget fd p = some v) : ∃ u, dget (dput fd q w) p = some u ∧ u ≤ v := by
  rw [dget_put]
  by_cases c : q = p
  · subst c
    exact ⟨w, if_pos rfl, hw v h⟩
  · exact ⟨v, by rw [if_neg c]; exact h, Int.le_refl _⟩
/-- a link of p lowers q -/
theorem RelaxI.lower {n : Nat} {ls : List Arc} {dues : DD} {L : LatF} {fd : DD} {st : List PR} {x : PR → Prop} (I : RelaxI n ls dues L fd st x) (hin : InN n ls) (hL : IsLat n ls dues L) {a : Arc} (ha : a ∈ ls) {k : Nat} (hk : a.2.2.1 ≤ k) {v : Int} (hv : dget fd (a.2.1, k) = some v)
    (hlt : ∀ u, dget fd (a.1, k - a.2.2.1) = some u → v - a.2.2.2 < u) :
    RelaxI n ls dues L (dput fd (a.1, k - a.2.2.1) (v - a.2.2.2)) (st ++ [(a.1, k - a.2.2.1)]) x ∧ tot n (KKof dues) (gapF L (dput fd (a.1, k - a.2.2.1) (v - a.2.2.2))) < tot n (KKof dues) (gapF L fd) := by
  obtain ⟨h1, h2, l, h3, h4⟩ := I.ge _ _ hv
  obtain ⟨m, hm, hml⟩ := lat_arc hin hL ha hk h3
  have le : ∀ {p : PR} {v' : Int}, dget fd p = some v' → ∃ u, dget (dput fd (a.1, k - a.2.2.1) (v - a.2.2.2)) p = some u ∧ u ≤ v' := fun h => dput_le (fun u hu => Int.le_of_lt (hlt u hu)) h
  refine ⟨⟨dput_nd I.nd _ _, fun p u h => ?_, fun p u h => ?_, fun p hp => ?_, fun p u h => ?_⟩, ?_⟩
  · rw [dget_put] at h
    split at h
    · rename_i e
      cases h
      rw [← e]
      exact ⟨(hin a ha).1, by omega, m, hm, by omega⟩
    · exact I.ge p u h
  · obtain ⟨u1, g1, g2⟩ := I.due p u h
    obtain ⟨u2, g3, g4⟩ := le g1
    exact ⟨u2, g3, Int.le_trans g4 g2⟩
  · rcases List.mem_append.mp hp with z | z
    · obtain ⟨u1, g1⟩ := I.inS p z
      obtain ⟨u2, g3, _⟩ := le g1
      exact ⟨u2, g3⟩
    · rw [List.mem_singleton.mp z, dget_put, if_pos rfl]
      exact ⟨_, rfl⟩
  · rw [dget_put] at h
    split at h
    · rename_i e
      exact .inl (List.mem_append_right _ (List.mem_singleton.mpr e.symm))
    · rcases I.cl p u h with z | z | z
      · exact .inl (List.mem_append_left _ z)
      · exact .inr (.inl z)
      · refine .inr (.inr fun b hb h5 h6 => ?_)
        obtain ⟨u1, g1, g2⟩ := z b hb h5 h6
        obtain ⟨u2, g3, g4⟩ := le g1
        exact ⟨u2, g3, Int.le_trans g4 g2⟩
  · have hkk := lat_lt hL hm
    refine tot_lt (e := a.1) (k := k - a.2.2.1) (fun e2 k2 he2 hk2 => ?_) (hin a ha).1 hkk ?_
    · unfold gapF
      cases hl2 : L e2 k2 with
      | none => exact Int.le_refl _
      | some l2 =>
        show (dget (dput fd _ _) (e2, k2)).getD 401 - l2 ≤ (dget fd (e2, k2)).getD 401 - l2
        rw [dget_put]
        split
        · rename_i e
          rw [← e]
          cases h5 : dget fd (a.1, k - a.2.2.1) with
          | none => simp only [Option.getD_some, Option.getD_none]; omega
          | some u => have := hlt u h5; simp only [Option.getD_some]; omega
        · exact Int.le_refl _
    · unfold gapF
      rw [hm]
      show (dget (dput fd _ _) _).getD 401 - m < (dget fd _).getD 401 - m
      rw [dget_put, if_pos rfl]
      cases h5 : dget fd (a.1, k - a.2.2.1) with
      | none => simp only [Option.getD_some, Option.getD_none]; omega
      | some u => have := hlt u h5; simp only [Option.getD_some]; omega
/-- the end -/
theorem RelaxI.done {n : Nat} {ls : List Arc} {ord : List Nat} {dues : DD} {L : LatF} {fd : DD} (I : RelaxI n ls dues L fd [] fun _ => False) (ho : OrdOk n ls ord) (hin : InN n ls) (hn : 1 ≤ n) (hL : IsLat n ls dues L) :
    ∀ e k, dget fd (e, k) = if e < n then L e k else none := by
  have low : ∀ (b e k : Nat) (l : Int), ahead n ord dues (e, k) < b → e < n → L e k = some l → ∃ u, dget fd (e, k) = some u ∧ u ≤ l := by
    intro b
    induction b with
    | zero => intro e k l h; omega
    | succ b ih =>
      intro e k l h he hl
      rcases lat_why hL he hl with ⟨a, ha, rfl, m, hm, rfl⟩ | z
      · have hb := ahead_lt ho hin hn ha (lat_lt hL hm)
        obtain ⟨u, hu, hum⟩ := ih _ _ _ (by omega) (hin a ha).2 hm
        rcases I.cl _ _ hu with z | z | z
        · cases z
        · exact z.elim
        · obtain ⟨u2, h1, h2⟩ := z a ha rfl (by show a.2.2.1 ≤ k + a.2.2.1; omega)
          have e1 : (a.2.1, k + a.2.2.1).2 - a.2.2.1 = k := by show k + a.2.2.1 - a.2.2.1 = k; omega
          rw [e1] at h1
          exact ⟨u2, h1, by omega⟩
      · exact I.due _ _ z
  intro e k
  by_cases he : e < n
  · rw [if_pos he]
    cases hl : L e k with
    | none =>
      cases h : dget fd (e, k) with
      | none => rfl
      | some v =>
        obtain ⟨_, _, l, h1, _⟩ := I.ge _ _ h
        rw [hl] at h1
        cases h1
    | some l =>
      obtain ⟨u, hu, hul⟩ := low _ e k l (Nat.lt_succ_self _) he hl
      obtain ⟨_, _, l2, h1, h2⟩ := I.ge _ _ hu
      rw [hl] at h1
      cases h1
      rw [hu, Int.le_antisymm hul h2]
  · rw [if_neg he]
    cases h : dget fd (e, k) with
    | none => rfl
    | some v => exact absurd (I.ge _ _ h).1 he
theorem table_eq {n : Nat} {ls : List Arc} {dues : DD} {L : LatF} {fd : DD} (hL : IsLat n ls dues L) (hnd : dnd fd) (h : ∀ e k, dget fd (e, k) = if e < n then L e k else none) : (sortP (fd.map (·.1))).map (fun p => (p, (dget fd p).getD 0)) = tblOf n (KKof dues) L := by
  have h1 : sortP (fd.map (·.1)) = (tblOf n (KKof dues) L).map (·.1) := by
    refine pr_uniq2 (sortP_lt hnd) (tbl_sorted n (KKof dues) L) fun p => ?_
    rw [(sortP_perm _).mem_iff, ← dget_key, show p = (p.1, p.2) from rfl, h p.1 p.2]
    constructor
    · intro z
      by_cases c : p.1 < n
      · rw [if_pos c] at z
        obtain ⟨l, hl⟩ := Option.isSome_iff_exists.mp z
        exact List.mem_map.mpr ⟨(p, l), tbl_mem.mpr ⟨c, lat_lt hL hl, hl⟩, rfl⟩
      · rw [if_neg c] at z
        cases z
    · intro z
      obtain ⟨q, hq, e⟩ := List.mem_map.mp z
      obtain ⟨q1, v⟩ := q
      obtain ⟨h2, h3, h4⟩ := tbl_mem.mp hq
      have e0 : q1 = p := e
      subst e0
      rw [if_pos h2, h4]
      rfl
  rw [h1, List.map_map]
  conv => rhs; rw [← List.map_id (tblOf n (KKof dues) L)]
  refine List.map_congr_left fun q hq => ?_
  obtain ⟨q1, v⟩ := q
  obtain ⟨h2, h3, h4⟩ := tbl_mem.mp hq
  show (q1, (dget fd q1).getD 0) = (q1, v)
  rw [show q1 = (q1.1, q1.2) from rfl, h q1.1 q1.2, if_pos h2, h4]
  rfl
/-! ### bounds -/
theorem lat_ub {n : Nat} {ls : List Arc} {ord : List Nat} {d : DD} {L : LatF} (ho : OrdOk n ls ord) (hin : InN n ls) (hn : 1 ≤ n) (hL : IsLat n ls d L) (hd : ∀ p v, dget d p = some v → v ≤ 400) : ∀ (b e k : Nat) (l : Int), ahead n ord d (e, k) < b → e < n → L e k = some l → l ≤ 400 := by
  intro b
  induction b with
  | zero => intro e k l h; omega
  | succ b ih =>
    intro e k l h he hl
    rcases lat_why hL he hl with ⟨a, ha, rfl, m, hm, rfl⟩ | z
    · have hb := ahead_lt ho hin hn ha (lat_lt hL hm)
      have h1 := ih _ _ _ (by omega) (hin a ha).2 hm
      omega
    · exact hd _ _ z
theorem lat_lb {n : Nat} {ls : List Arc} {ord : List Nat} {d : DD} {L : LatF} (ho : OrdOk n ls ord) (hin : InN n ls) (hn : 1 ≤ n) (hL : IsLat n ls d L) (hd : ∀ p v, dget d p = some v → 0 ≤ v) (ht : ∀ a ∈ ls, a.2.2.2 ≤ 9) : ∀ (b e k : Nat) (l : Int), ahead n ord d (e, k) < b → e < n → L e k = some l → -(9 * (ahead n ord d (e, k) : Int)) ≤ l := by
  intro b
  induction b with
  | zero => intro e k l h; omega
  | succ b ih =>
    intro e k l h he hl
    rcases lat_why hL he hl with ⟨a, ha, rfl, m, hm, rfl⟩ | z
    · have hb := ahead_lt ho hin hn ha (lat_lt hL hm)
      have h1 := ih _ _ _ (by omega) (hin a ha).2 hm
      have h2 := ht a ha
      omega
    · have := hd _ _ z
      omega
theorem sumR_ub {f : Nat → Int} {B : Int} : ∀ {n : Nat}, (∀ i, i < n → f i ≤ B) → sumR n f ≤ n * B
  | 0, _ => by simp [sumR]
  | n + 1, h => by
    rw [sumR_succ, Int.natCast_succ, Int.add_mul]
    have h1 := sumR_ub (n := n) fun i hi => h i (by omega)
    have h2 := h n (by omega)
    omega
theorem sumR_lb {f : Nat → Int} : ∀ {n : Nat}, (∀ i, i < n → 0 ≤ f i) → 0 ≤ sumR n f
  | 0, _ => by simp [sumR]
  | n + 1, h => by
    rw [sumR_succ]
    have h1 := sumR_lb (n := n) fun i hi => h i (by omega)
    have h2 := h n (by omega)
    omega
end PV

namespace PV
open PySem PySem.Spec PyProof.Rows L2
theorem nd_len {α : Type} [DecidableEq α] : ∀ (l m : List α), l.Nodup → (∀ x ∈ l, x ∈ m) → l.length ≤ m.length
  | [], _, _, _ => Nat.zero_le _
  | a :: l, m, h, hs => by
    have h1 := hs a (List.mem_cons_self ..)
    have h2 := List.nodup_cons.mp h
    have h3 := nd_len l (m.erase a) h2.2 fun x hx => (List.mem_erase_of_ne fun e => h2.1 (by rw [← e]; exact hx)).mpr (hs x (List.mem_cons_of_mem _ hx))
    rw [List.length_erase_of_mem h1] at h3
    have h4 := List.length_pos_of_mem h1
    rw [List.length_cons]
    omega
theorem RelaxI.len {n : Nat} {ls : List Arc} {dues : DD} {L : LatF} {fd : DD} {st : List PR} {x : PR → Prop} (I : RelaxI n ls dues L fd st x) (hL : IsLat n ls dues L) : fd.length ≤ n * KKof dues := by
  have ndk : (fd.map fun q => q.1).Nodup := I.nd
  have h := nd_len (fd.map fun q => q.1) ((tblOf n (KKof dues) L).map fun q => q.1) ndk fun p hp => by
    obtain ⟨v, hv⟩ := Option.isSome_iff_exists.mp (dget_key.mpr hp)
    obtain ⟨h1, _, l, h2, _⟩ := I.ge p v hv
    exact List.mem_map.mpr ⟨(p, l), tbl_mem.mpr ⟨h1, lat_lt hL h2, h2⟩, rfl⟩
  rw [List.length_map, List.length_map] at h
  exact Nat.le_trans h (tbl_len _ _ _)
section
variable {g : Bool} {Pr : Program} {w : World} {K : PySem.W.Frag} {mg : Str → Option Value} {base : Heap} {f : Addr} {fd : FuncData} {C : Addr}
theorem sc_law_n_latest : FnScope ["_law_net", "_law_dues", "_law_found", "_law_event", "_law_k", "_law_tick", "_law_order", "_law_one", "_law_other", "_law_tokens", "_law_ticks", "_law_pair"] ["_law_net", "_law_dues"] (defScope s_law_n_latest) := ⟨rfl, rfl, rfl, by decide +kernel, rfl, by decide +kernel, by decide +kernel⟩
def F_law_n_latest (zs : List P) (y : P) : Prop := ∃ n as ord ds L, zs = [lnetP n as, .lst (ds.map dueP)] ∧ 1 ≤ n ∧ n ≤ 5 ∧ as.length ≤ 40 ∧ (∀ a ∈ as ++ selfArcs n, a.2.2.2 ≤ 9) ∧ InN n (as ++ selfArcs n) ∧ OrdOk n (as ++ selfArcs n) ord ∧
  (∀ d ∈ ds, d.1 < n ∧ d.2.1 < 26 ∧ d.2.2 ≤ 400) ∧ ds.length ≤ 100 ∧ IsLat n (as ++ selfArcs n) (knownOf ds) L ∧ y = .dT (ddP (tblOf n (KKof (knownOf ds)) L))
theorem c_law_n_latest (F : FnP K "_law_n_latest" "_law_n_latest" s_law_n_latest f fd) (hm : mg "_law_n_latest" = some (.ref f)) (B : Bl mg) (c1 : Ct g Pr w K mg base 1 "_law_n_links" (SF F_law_n_links)) : Ct g Pr w K mg base 2 "_law_n_latest" (SF F_law_n_latest) := by
  refine ct_pure F hm sc_law_n_latest (fun _ _ _ _ _ _ us hl => match us, hl with | [_, _], _ => rfl) (by rintro _ _ ⟨n, as, ord, ds, L, rfl, _⟩; rfl) fun cdv A outer s H E hr zs y hF => ?_
  obtain ⟨n, as, ord, ds, L, rfl, hn1, hn5, hal, htk, hin, ho, hds, hdl, hL, rfl⟩ := hF
  have nd := sc_law_n_latest.nd
  have hu := hr.un
  have hu64 := hr.u64
  let R : Option PV.E → Option PV.E → Option PV.E → Option PV.E → Option PV.E → Option PV.E → Option PV.E → Option PV.E → Option PV.E → Rho := fun a b c d e f g h i => [some (.sh (lnetP n as)), some (.sh (.lst (ds.map dueP))), some (.pt 0), a, b, c, d, e, f, g, h, i]
  refine tss_cons (tsp_setP 2 nd (tep_dTC ?_))
  refine tss_cons (tsp_forL ds dueP [3, 4, 5] (fun i ρ2 μ2 => μ2 = [some (.dT (ddE ((ds.take i).foldl knownPut [])))] ∧ ∃ a b c, ρ2 = R a b c none none none none none none) (ei_list (ev_name 1)) ⟨rfl, none, none, none, rfl⟩ ?_ ?_)
  · rintro i u ρ2 μ2 hu2 ⟨rfl, a, b, c, rfl⟩
    have tk : ds.take (i + 1) = ds.take i ++ [u] := by rw [List.take_add_one, hu2]; rfl
    have hkl := known_len (ds.take i) []
    simp only [List.length_take, List.length_nil] at hkl
    generalize hdk : (ds.take i).foldl knownPut [] = dk at hkl ⊢
    refine tgp_names ["_law_event", "_law_k", "_law_tick"] [3, 4, 5] nd (xs := dueL u) (.inr rfl) rfl ?_
    refine tss_one (tsp_dputT hu ((ev_min2 rfl B.min (ev_name 5) ((ev_dget2 hu (ev_name 2) (ev_prK (p := (u.1, u.2.1)) (ev_name 3) (ev_name 4)) (ev_name 5) (DG.ptT (k := prK (u.1, u.2.1)) rfl) ⟨rfl, rfl, rfl, rfl⟩).is (y := .sh (.int ((dget dk (u.1, u.2.1)).getD (u.2.2 : Int)))) ?_)) _ ((ev_name 2) _ ((ev_prK (p := (u.1, u.2.1)) (ev_name 3) (ev_name 4)) _ ⟨0, ddE dk, prK (u.1, u.2.1), rfl, rfl, rfl, by rw [ddE_len]; omega, ?_⟩))))
    · rw [ddE_get]
      cases dget dk (u.1, u.2.1) <;> rfl
    · refine ⟨?_, _, _, _, rfl⟩
      rw [tk, List.foldl_append, hdk, ddE_put]
      rfl
  rintro ρ2 μ2 ⟨rfl, a, b, c, rfl⟩
  rw [List.take_length]
  show TSs _ _ _ [some (.dT (ddE (knownOf ds)))] _
  -- what is known of the dues
  have hkn : dnd (knownOf ds) := known_nd ds
  have hkp : ∀ p v, dget (knownOf ds) p = some v → p.1 < n ∧ p.2 < 26 ∧ 0 ≤ v ∧ v ≤ 400 := fun p v h => by
    obtain ⟨d, hd, rfl, rfl⟩ := known_get h
    obtain ⟨h1, h2, h3⟩ := hds d hd
    exact ⟨h1, h2, by omega, by omega⟩
  have hkl : (knownOf ds).length ≤ 100 := by
    have := known_len ds []
    simp only [List.length_nil] at this
    unfold knownOf
    omega
  have hKK : KKof (knownOf ds) ≤ 26 := kk_le fun q hq => (hkp q.1 q.2 (dget_of_mem hkn hq)).2.1
  generalize hdk : knownOf ds = dk at hL hkn hkp hkl hKK ⊢
  have hnk : n * KKof dk ≤ 5 * 26 := Nat.mul_le_mul hn5 hKK
  have hah : ∀ e k, ahead n ord dk (e, k) ≤ 135 := fun e k => by
    unfold ahead
    rw [Nat.mul_comm] at hnk
    omega
  have ub := lat_ub ho hin hn1 hL fun p v h => (hkp p v h).2.2.2
  have lb := lat_lb ho hin hn1 hL (fun p v h => (hkp p v h).2.2.1) htk
  let cO : List PR → Cell := fun st => .lst ((st.map prP).map .sh)
  let MM : DD → List PR → Nat := fun fd st => st.length + (tot n (KKof dk) (gapF L fd)).toNat
  have gap0 : ∀ {fd : DD} {st : List PR} {x : PR → Prop}, RelaxI n (as ++ selfArcs n) dk L fd st x → 0 ≤ tot n (KKof dk) (gapF L fd) := fun {fd st x} I => sumR_lb fun e he => sumR_lb fun k hk => by
    unfold gapF
    cases hl : L e k with
    | none => exact Int.le_refl _
    | some l =>
      have h1 := ub _ e k l (Nat.lt_succ_self _) he hl
      show 0 ≤ (dget fd (e, k)).getD 401 - l
      cases h2 : dget fd (e, k) with
      | none => simp only [Option.getD_none]; omega
      | some v =>
        obtain ⟨_, _, l2, h3, h4⟩ := I.ge _ _ h2
        rw [hl] at h3
        cases h3
        simp only [Option.getD_some]
        omega
  have I0 : RelaxI n (as ++ selfArcs n) dk L dk (dk.map (·.1)) fun _ => False := ⟨hkn, fun p v h => ⟨(hkp p v h).1, (hkp p v h).2.2.2, lat_due hL (hkp p v h).1 h⟩, fun p v h => ⟨v, h, Int.le_refl _⟩, fun p hp => Option.isSome_iff_exists.mp (dget_key.mpr hp), fun p v h => .inl (dget_key.mp (by rw [h]; rfl))⟩
  have hM0 : MM dk (dk.map (·.1)) ≤ 300000 := by
    have h1 : tot n (KKof dk) (gapF L dk) ≤ n * 42016 := sumR_ub fun e he => by
      have h2 : sumR (KKof dk) (fun k => gapF L dk e k) ≤ KKof dk * 1616 := sumR_ub fun k hk => by
        unfold gapF
        cases hl : L e k with
        | none => show (0 : Int) ≤ 1616; decide
        | some l =>
          have h3 := lb _ e k l (Nat.lt_succ_self _) he hl
          have h4 := hah e k
          show (dget dk (e, k)).getD 401 - l ≤ 1616
          cases h5 : dget dk (e, k) with
          | none => simp only [Option.getD_none]; omega
          | some v =>
            have := (hkp _ _ h5).2.2.2
            simp only [Option.getD_some]
            omega
      omega
    show (dk.map (·.1)).length + (tot n (KKof dk) (gapF L dk)).toNat ≤ 300000
    rw [List.length_map]
    omega
  refine tss_cons (tsp_setP 6 nd (tep_listDC B.list ((ev_name 2) _ ⟨ddE dk, .inr ⟨0, rfl, rfl⟩, ?_⟩)))
  have e0 : ((ddE dk).map fun q => PV.E.sh (keyP q.1)) = ((dk.map (·.1)).map prP).map .sh := by
    unfold ddE
    rw [List.map_map, List.map_map, List.map_map]
    rfl
  rw [e0]
  refine tss_cons (tsp_whileP (fun mm ρ2 μ2 => (∃ a b c e f g h i, ρ2 = R a b c (some (.pt 1)) e f g h i) ∧ ∃ fd st, μ2 = [some (.dT (ddE fd)), some (cO st)] ∧ RelaxI n (as ++ selfArcs n) dk L fd st (fun _ => False) ∧ MM fd st ≤ mm ∧ mm ≤ 300000) (MM dk (dk.map (·.1)))
    ⟨⟨a, b, c, none, none, none, none, none, rfl⟩, dk, dk.map (·.1), rfl, I0, Nat.le_refl _, hM0⟩ ?_)
  rintro mm ρ2 μ2 ⟨⟨a, b, c, e, f, g, h, i, rfl⟩, fd0, st, rfl, I, hmm, hmm2⟩
  refine (et_neD hu64 (ev_name 6) (ev_lst eas_nil) (DE.pt (n := 2) (xs := st.map prP) rfl (pd_prs st) (by decide)) (DE.sh (n := 1) pd_nil (by decide))) _ ?_
  rw [eqv_nil]
  rcases List.eq_nil_or_concat st with rfl | ⟨st, p, rfl⟩
  · rw [if_neg (by simp)]
    have hdone := I.done ho hin hn1 hL
    have htab := table_eq hL I.nd hdone
    have hfl := I.len hL
    have hsl : (sortP (fd0.map (·.1))).length ≤ 100000 := by rw [(sortP_perm _).length_eq, List.length_map]; omega
    refine tss_one (tsp_retV (ev_dictT (kvs := ddP (tblOf n (KKof dk) L)) hu64 B.dict ((ev_lc0 (sortP (fd0.map (·.1))) prP (fun p => R a b c (some (.pt 1)) e f g h (some (.sh (prP p)))) (fun p => .tup [prP p, .int ((dget fd0 p).getD 0)]) [11] [("_law_pair", 11)] rfl nd (blkOk_by (by kernel_rfl))
      (ei_list (xs := (sortP (fd0.map (·.1))).map prP) fun Q q => tep_sortD (fd0.map (·.1)) rfl B.sorted ((ev_name 2) _ ⟨.inr ⟨0, ddE fd0, rfl, rfl, ddE_keys fd0⟩, q⟩)) hsl (fun a _ => tgb_name 11 nd (by decide) rfl rfl) (fun p hp s H C cl fp => ?_)).is ?_) ?_) (.sh _))
    · obtain ⟨v0, hv0⟩ : ∃ v, dget fd0 p = some v := Option.isSome_iff_exists.mp (dget_key.mpr ((sortP_perm _).mem_iff.mp hp))
      rw [hv0]
      exact ev_tup (ys := [prP p, .int v0]) (eas_cons (ev_name 11) (eas_cons (ev_dgetC (k := prK p) hu (ev_name 2) (ev_name 11) rfl (by rw [ddE_get, hv0]; rfl)) eas_nil)) (Nat.le_of_ble_eq_true rfl)
    · rw [← htab]
      unfold ddP
      rw [List.map_map, List.map_map]
      rfl
    · rw [ddP_keys]
      exact List.pairwise_map.mpr ((tbl_nd n (KKof dk) L).imp fun {a b} h z => h (prK_inj a b z))
  rw [if_pos (by simp)]
  obtain ⟨v0, hv0⟩ := I.inS p (by simp)
  have hp := I.ge p v0 hv0
  have hdrop : ((List.map prP (st.concat p)).map PV.E.sh).dropLast = (st.map prP).map .sh := by
    rw [List.concat_eq_append, List.map_append, List.map_append]
    exact List.dropLast_concat
  refine tss_cons (tsp_asg [3, 4] (tep_pop (y := .sh (prP p)) (ev_name 6) (j := 1) (zs := (List.map prP (st.concat p)).map .sh) rfl (by rw [List.concat_eq_append]; simp) ?_))
  rw [hdrop]
  refine tgp_names ["_law_event", "_law_k"] [3, 4] nd (xs := [.int (p.1 : Nat), .int (p.2 : Nat)]) (.inr rfl) rfl ?_
  have I1 : RelaxI n (as ++ selfArcs n) dk L fd0 st (fun q => q = p) := ⟨I.nd, I.ge, I.due, fun q hq => I.inS q (by simp [hq]), fun q v h => by
    rcases I.cl q v h with z | z | z
    · rw [List.concat_eq_append] at z
      rcases List.mem_append.mp z with z | z
      · exact .inl z
      · exact .inr (.inl (List.mem_singleton.mp z))
    · exact z.elim
    · exact .inr (.inr z)⟩
  have hM1 : MM fd0 st + 1 ≤ mm := by
    have : MM fd0 (st.concat p) = MM fd0 st + 1 := by
      show (st.concat p).length + _ = st.length + _ + 1
      rw [List.length_concat]
      omega
    omega
  refine tss_one (tsp_forL (as ++ selfArcs n) arcP [7, 8, 9, 10] (fun i ρ3 μ3 => (∃ c e f g h i, ρ3 = R (some (.sh (.int (p.1 : Nat)))) (some (.sh (.int (p.2 : Nat)))) c (some (.pt 1)) e f g h i) ∧ ∃ fd st, μ3 = [some (.dT (ddE fd)), some (cO st)] ∧ RelaxI n (as ++ selfArcs n) dk L fd st (fun q => q = p) ∧ dget fd p = some v0 ∧
    (∀ a ∈ (as ++ selfArcs n).take i, a.2.1 = p.1 → a.2.2.1 ≤ p.2 → ∃ u, dget fd (a.1, p.2 - a.2.2.1) = some u ∧ u ≤ v0 - a.2.2.2) ∧ MM fd st + 1 ≤ mm)
    (ei_list (ev_call c1 hr (eas_cons (ev_name 0) eas_nil) ⟨n, as, rfl, by omega, by omega, rfl⟩)) ⟨⟨_, _, _, _, _, _, rfl⟩, fd0, st, rfl, I1, hv0, fun a h => by simp at h, hM1⟩ ?_ ?_)
  · rintro i2 a2 ρ3 μ3 ha ⟨⟨c, e, f, g, h, i, rfl⟩, fd, st, rfl, I, hv, hcl, hmm3⟩
    have ham := List.mem_of_getElem? ha
    have tk : (as ++ selfArcs n).take (i2 + 1) = (as ++ selfArcs n).take i2 ++ [a2] := by rw [List.take_add_one, ha]; rfl
    have hfl := I.len hL
    refine tgp_names ["_law_one", "_law_other", "_law_tokens", "_law_ticks"] [7, 8, 9, 10] nd (xs := arcL a2) (.inr rfl) rfl ?_
    refine tss_cons (tsp_setV 11 nd (ev_tup (ys := [.int (a2.1 : Nat), .int ((p.2 : Int) - (a2.2.2.1 : Int))]) (eas_cons (ev_name 7) (eas_cons (ev_sub (ev_name 4) (ev_name 9)) eas_nil)) (Nat.le_of_ble_eq_true rfl)) ?_)
    have keyE : a2.2.2.1 ≤ p.2 → (PV.E.sh (.tup [.int (a2.1 : Nat), .int ((p.2 : Int) - (a2.2.2.1 : Int))])) = .sh (.tup ((prK (a2.1, p.2 - a2.2.2.1)).map kP)) := fun hle => by
      show _ = PV.E.sh (.tup [.int (a2.1 : Nat), .int ((p.2 - a2.2.2.1 : Nat) : Int)])
      rw [show ((p.2 - a2.2.2.1 : Nat) : Int) = (p.2 : Int) - (a2.2.2.1 : Int) by omega]
    have vget : ∀ {u : Int}, dget fd p = some u → dget (ddE fd) (prK p) = some (.sh (.int u)) := fun {u} h => by rw [ddE_get, h]; rfl
    refine tss_one (tsp_ifE (et_w (ew_and (p := decide ((a2.2.1 : Int) = p.1)) (r := decide ((a2.2.2.1 : Int) ≤ p.2) && decide (v0 - (a2.2.2.2 : Int) < (dget fd (a2.1, p.2 - a2.2.2.1)).getD ((10 : Int) ^ (9 : Int).toNat))) (et_eqI (ev_name 8) (ev_name 3)) fun _ => ew_and (et_ge (ev_name 4) (ev_name 9)) fun h2 => ew_and1 (et_gt ((ev_dget2 hu (ev_name 2) ((ev_name 11).is (keyE (by simpa using h2))) (ev_pow ev_int ev_int ⟨by decide, by decide, by decide⟩) (DG.ptT (k := prK (a2.1, p.2 - a2.2.2.1)) rfl) ⟨rfl, rfl, rfl, rfl⟩).is ?_)
      (ev_sub (ev_dgetC hu (ev_name 2) (ev_prK (p := p) (ev_name 3) (ev_name 4)) rfl (vget hv)) (ev_name 10))))) (fun hc => ?_) fun hc => tss_nil ?_)
    · rw [ddE_get]
      cases dget fd (a2.1, p.2 - a2.2.2.1) <;> rfl
    · simp only [Bool.and_eq_true, decide_eq_true_eq] at hc
      obtain ⟨hc1, hc2, hc3⟩ := hc
      have hk1 : a2.2.1 = p.1 := by omega
      have hk2 : a2.2.2.1 ≤ p.2 := by omega
      have hpe : ((a2.2.1, p.2) : PR) = p := by rw [hk1]
      have hlt : ∀ u, dget fd (a2.1, p.2 - a2.2.2.1) = some u → v0 - (a2.2.2.2 : Int) < u := fun u hu => by rw [hu] at hc3; exact hc3
      obtain ⟨I2, ht2⟩ := I.lower hin hL ham hk2 (v := v0) (by rw [hpe]; exact hv) hlt
      have hne : ((a2.1, p.2 - a2.2.2.1) : PR) ≠ p := fun z => by
        have h5 := back_lt ho hin ham hk2
        rw [z, hpe] at h5
        exact Nat.lt_irrefl _ h5
      have hg0 := gap0 I2
      refine tss_cons (tsp_dputT hu ((ev_sub (ev_dgetC hu (ev_name 2) (ev_prK (p := p) (ev_name 3) (ev_name 4)) rfl (vget hv)) (ev_name 10)) _ ((ev_name 2) _ (((ev_name 11).is (keyE hk2)) _ ⟨0, ddE fd, prK (a2.1, p.2 - a2.2.2.1), rfl, rfl, rfl, by rw [ddE_len]; omega, ?_⟩))))
      rw [ddE_put]
      refine tss_one (tsp_expr (tep_appendW ((ev_name 6) _ ⟨1, _, rfl, rfl, ((ev_name 11).is (keyE hk2)) _ ⟨_, rfl, ?_, ?_⟩⟩)))
      · rw [List.length_map, List.length_map]
        have : st.length ≤ MM fd st := Nat.le_add_right _ _
        omega
      · refine ⟨⟨_, _, _, _, _, _, rfl⟩, _, st ++ [(a2.1, p.2 - a2.2.2.1)], ?_, I2, ?_, fun a3 ha3 h5 h6 => ?_, ?_⟩
        · show [_, some (Cell.lst ((st.map prP).map PV.E.sh ++ [_]))] = _
          show _ = [_, some (Cell.lst (((st ++ [_]).map prP).map PV.E.sh))]
          rw [List.map_append, List.map_append]
          rfl
        · rw [dget_put, if_neg hne]
          exact hv
        · rw [tk] at ha3
          rcases List.mem_append.mp ha3 with z | z
          · obtain ⟨u, h7, h8⟩ := hcl a3 z h5 h6
            obtain ⟨u2, h9, h10⟩ := dput_le (fun u hu => Int.le_of_lt (hlt u hu)) h7
            exact ⟨u2, h9, Int.le_trans h10 h8⟩
          · rw [List.mem_singleton.mp z, dget_put, if_pos rfl]
            exact ⟨_, rfl, Int.le_refl _⟩
        · show (st ++ [_]).length + (tot n (KKof dk) (gapF L (dput fd _ _))).toNat + 1 ≤ mm
          have h7 : st.length + (tot n (KKof dk) (gapF L fd)).toNat + 1 ≤ mm := hmm3
          rw [List.length_append, List.length_singleton]
          omega
    · refine ⟨⟨_, _, _, _, _, _, rfl⟩, fd, st, rfl, I, hv, fun a3 ha3 h5 h6 => ?_, hmm3⟩
      rw [tk] at ha3
      rcases List.mem_append.mp ha3 with z | z
      · exact hcl a3 z h5 h6
      · rw [List.mem_singleton.mp z] at h5 h6 ⊢
        rw [decide_eq_true (by omega), decide_eq_true (by omega), Bool.true_and, Bool.true_and] at hc
        have hc := of_decide_eq_false hc
        have hb : (10 : Int) ^ (9 : Int).toNat = 1000000000 := by decide
        cases h7 : dget fd (a2.1, p.2 - a2.2.2.1) with
        | none =>
          rw [h7, Option.getD_none, hb] at hc
          have := hp.2.1
          omega
        | some u =>
          rw [h7, Option.getD_some] at hc
          exact ⟨u, rfl, by omega⟩
  · rintro ρ3 μ3 ⟨⟨c, e, f, g, h, i, rfl⟩, fd, st, rfl, I, hv, hcl, hmm3⟩
    rw [List.take_length] at hcl
    refine ⟨MM fd st, by omega, ⟨_, _, _, _, _, _, _, _, rfl⟩, fd, st, rfl, ⟨I.nd, I.ge, I.due, I.inS, fun q v hq => ?_⟩, Nat.le_refl _, by omega⟩
    rcases I.cl q v hq with z | z | z
    · exact .inl z
    · subst z
      rw [hv] at hq
      cases hq
      exact .inr (.inr hcl)
    · exact .inr (.inr z)
end
end PV

namespace PV
open PySem PySem.Spec PyProof.Rows L2
theorem walk_zipT {K : PySem.W.Frag} {a b : Addr} {xs ys : List V} {n : Nat} (hn : n = min xs.length ys.length) : Walk (RZ.ItzT K a b) n (fun H => SqT K H a xs ∧ SqT K H b ys) (YPair (fun i => xs[i]?) (fun i => ys[i]?)) := by
  subst hn
  refine ⟨fun i _ hi q => ?_, fun _ q => ⟨xs, ys, q.1, q.2, by omega⟩, fun i H v H' _ q y => ?_⟩
  · have h1 : i < xs.length := by omega
    have h2 : i < ys.length := by omega
    exact ⟨xs, ys, xs[i], ys[i], q.1, q.2, by simp [h1], by simp [h2]⟩
  · obtain ⟨T, x, z, h1, h2, h3, h4, h5⟩ := y
    exact ⟨T, x, z, h1, h2, h3, h4 xs q.1, h5 ys q.2⟩
section
variable {X : Cx} {tg a b c e iter : Expr} {es : List Expr} {ρ : Rho} {μ : Mu} {pos tpos p2 : Pos} {xs ys : List P}
theorem sqT_of {K : PySem.W.Frag} {ad : List Addr} {Hb H : Hp} {μ : Mu} (W : Wd K ad Hb H μ) {p : Addr} {vs : List V} (h : Hb p = some (.tup vs)) : SqT K H p vs := .inl (.inl (W.tup h))
theorem ei_zipT {elts : List Expr} {kk : Nat} (hm : X.mg "zip" = none) (ha : EV X a ρ μ (.sh (.tup xs))) (hb : EV X b ρ μ (.sh (.tup ys))) (hg : Gl X "zip" := by rfl) (hs : starEach [a, b] X.env = (false, eval a X.env) :: starEach [b] X.env := by rfl) (hs2 : starEach [b] X.env = (false, eval b X.env) :: starEach [] X.env := by rfl) :
    EI X (.Tuple elts kk tpos) (.Call (.Name "zip" p2) [a, b] [] pos) ρ μ ((List.range (min xs.length ys.length)).map fun i => .sh (.tup [xs.getD i .non, ys.getD i .non])) := fun R q ad Hb H σ W N R' g => by
  refine pi_go (RZ.pi_zipA hg hm pa_self hs (by rw [hs2]; rfl)) ((ea_cons ha (ea_cons hb ea_nil hs2) hs) (fun zs μ1 => zs = [.sh (.tup xs), .sh (.tup ys)] ∧ μ1 = μ) ⟨rfl, rfl⟩ ad Hb H σ W N _ ?_)
  rintro vs zs μ1 ad1 Hb1 H1 ⟨rfl, rfl⟩ s1 W1 r0
  obtain ⟨v, w, rfl, r1, r2⟩ := vals2E r0
  obtain ⟨a, vs, rfl, hq, t1⟩ := Rep.tup_inv r1
  obtain ⟨b, ws, rfl, hq2, t2⟩ := Rep.tup_inv r2
  have w := walk_zipT (K := X.K) (a := a) (b := b) (xs := vs) (ys := ws) (n := min xs.length ys.length) (by rw [t1.length, t2.length])
  refine ⟨a, b, vs, ws, rfl, .inr ⟨sqT_of W1 hq, sqT_of W1 hq2, g _ _ _ _ _ _ _ q s1 W1 (pwalk_pair (K := X.K) (f' := fun i => xs.getD i .non) (g' := fun i => ys.getD i .non) w (fun ad2 Hb2 H2 μ2 s W => ⟨sqT_of W (s.ex _ _ hq), sqT_of W (s.ex _ _ hq2)⟩) (fun i v hi h => ?_) fun i v hi h => ?_)⟩⟩
  · obtain ⟨z, h1, h2⟩ := pd_right t1 i v h
    rw [List.getD_eq_getElem?_getD, h1]
    exact h2
  · obtain ⟨z, h1, h2⟩ := pd_right t2 i v h
    rw [List.getD_eq_getElem?_getD, h1]
    exact h2
theorem zip_self (xs : List P) : ((List.range (min xs.length xs.length)).map fun i => PV.E.sh (.tup [xs.getD i .non, xs.getD i .non])) = xs.map fun a => .sh (.tup [a, a]) := by
  rw [Nat.min_self]
  refine List.ext_getElem? fun i => ?_
  rw [List.getElem?_map, List.getElem?_map]
  by_cases h : i < xs.length
  · rw [List.getElem?_range h, List.getElem?_eq_getElem h, Option.map_some, Option.map_some, List.getD_eq_getElem?_getD, List.getElem?_eq_getElem h]
    rfl
  · rw [List.getElem?_eq_none (by simpa using h), List.getElem?_eq_none (by simpa using h)]
    rfl
theorem ei_zipS {elts : List Expr} {kk : Nat} {x : P} (hx : Sq x xs) (hm : X.mg "zip" = none) (ha : EV X a ρ μ (.sh x)) (hb : EV X b ρ μ (.sh x)) (hg : Gl X "zip" := by rfl) (hs : starEach [a, b] X.env = (false, eval a X.env) :: starEach [b] X.env := by rfl) (hs2 : starEach [b] X.env = (false, eval b X.env) :: starEach [] X.env := by rfl) :
    EI X (.Tuple elts kk tpos) (.Call (.Name "zip" p2) [a, b] [] pos) ρ μ (xs.map fun a => .sh (.tup [a, a])) := by
  rcases hx with rfl | rfl
  · exact (ei_zip hm ha hb hg hs hs2).is (zip_self xs)
  · exact (ei_zipT hm ha hb hg hs hs2).is (zip_self xs)
theorem et_neB {i j : Bool} (ha : EV X a ρ μ (.sh (.bl i))) (hb : EV X b ρ μ (.sh (.bl j))) : ET X (.Compare a [.NotEq] [b] pos) ρ μ (!decide (i = j)) := et_cmp op_ne (nomark _) ha hb fun Q q ad Hb H v w W r1 r2 Q' k => by
  obtain rfl := Rep.bl_inv r1
  obtain rfl := Rep.bl_inv r2
  refine ⟨rfl, ?_⟩
  rw [dec_bl, Bool.beq_eq_decide_eq]
  exact k.now W (x := .sh (.bl (!decide (i = j)))) (.bl _) q
theorem ev_eqNN (ha : EV X a ρ μ (.sh .non)) (hb : EV X b ρ μ (.sh .non)) : EV X (.Compare a [.Eq] [b] pos) ρ μ (.sh (.bl true)) := ev_cmp op_eq (nomark _) ha hb fun Q q ad Hb H v w W r1 r2 Q' k => by
  obtain rfl := Rep.non_inv r1
  obtain rfl := Rep.non_inv r2
  refine ⟨rfl, ?_⟩
  rw [decide_eq_true rfl]
  exact k.now W (x := .sh (.bl true)) (.bl _) q
end
/-- data of lists, tuples, ints, bools, None, dicts of pairs to ints -/
inductive Shape : Nat → P → Prop
  | non (n : Nat) : Shape n .non
  | bl (n : Nat) (b : Bool) : Shape n (.bl b)
  | int (n : Nat) (i : Int) : Shape n (.int i)
  | sq {n : Nat} {x : P} {xs : List P} (hx : Sq x xs) (l : xs.length ≤ 90000) (e : ∀ a ∈ xs, Shape n a) : Shape (n + 1) x
  | dT {n : Nat} (d : DD) (l : d.length ≤ 90000) : Shape (n + 4) (.dT (ddP d))
def F_same (d : Nat) (zs : List P) (y : P) : Prop := ∃ x, zs = [x, x] ∧ Shape d x ∧ y = .bl true
theorem shape_items (d : DD) (l : d.length ≤ 90000) (n : Nat) : Shape (n + 3) (.lst ((ddP d).map fun q => .tup [keyP q.1, q.2])) := by
  refine .sq (.inl rfl) (by unfold ddP; rw [List.length_map, List.length_map]; exact l) fun a ha => ?_
  obtain ⟨q, hq, rfl⟩ := List.mem_map.mp ha
  unfold ddP at hq
  obtain ⟨r, _, rfl⟩ := List.mem_map.mp hq
  refine .sq (.inr rfl) (Nat.le_of_ble_eq_true rfl) fun b hb => ?_
  simp only [List.mem_cons, List.not_mem_nil, or_false] at hb
  rcases hb with rfl | rfl
  · refine .sq (xs := [.int (r.1.1 : Nat), .int (r.1.2 : Nat)]) (.inr rfl) (Nat.le_of_ble_eq_true rfl) fun c hc => ?_
    simp only [List.mem_cons, List.not_mem_nil, or_false] at hc
    rcases hc with rfl | rfl <;> exact .int _ _
  · exact .int _ _
section
variable {g : Bool} {Pr : Program} {w : World} {K : PySem.W.Frag} {mg : Str → Option Value} {base : Heap} {f : Addr} {fd : FuncData} {C : Addr}
theorem sc_law_same : FnScope ["_law_found", "_law_due", "_law_x", "_law_y"] ["_law_found", "_law_due"] (defScope s_law_same) := ⟨rfl, rfl, rfl, by decide +kernel, rfl, by decide +kernel, by decide +kernel⟩
theorem same_main (F : FnP K "_law_same" "_law_same" s_law_same f fd) (hm : mg "_law_same" = some (.ref f)) (B : Bl mg) (d : Nat) (ih : ∀ n, d = n + 1 → Ct g Pr w K mg base (n + 1) "_law_same" (SF (F_same n))) : Ct g Pr w K mg base (d + 1) "_law_same" (SF (F_same d)) := by
  refine ct_pure F hm sc_law_same (fun _ _ _ _ _ _ us hl => match us, hl with | [_, _], _ => rfl) (by rintro _ _ ⟨x, rfl, _⟩; rfl) fun cdv A outer s H E hr zs y hF => ?_
  obtain ⟨x, rfl, hD, rfl⟩ := hF
  have nd := sc_law_same.nd
  -- isinstance of the one or the other
  have isT : ∀ {X : Cx} {e : Expr} {ρ : Rho} {pos p2 pa pb pc p3 : Pos} {k : Nat} {x : P} {T : String} {r : Bool}, X.mg = mg → X.calm = true → EV X e ρ [] (.sh x) → tyP x = some T → True := fun _ _ _ _ => trivial
  cases hD with
  | non n =>
    refine tss_cons (tsp_ifE (d := false) (et_val (ev_isiT (T := "NoneType") (cs := ["list", "tuple"]) (r := false) B.isinstance (ev_name 1) (ev_tup (ys := [.ty "list", .ty "tuple"]) (eas_cons (ev_ty B.list bo_list) (eas_cons (ev_ty B.tuple bo_tuple) eas_nil))) rfl rfl)) (fun h => nomatch h) fun _ => tss_nil ?_)
    refine tss_cons (tsp_ifE (d := false) (et_val (ev_isi (T := "NoneType") (r := false) B.isinstance (ev_name 1) (ev_ty B.dict bo_dict) rfl rfl)) (fun h => nomatch h) fun _ => tss_nil ?_)
    refine tss_cons (tsp_ifE (d := false) (et_val (ev_isi (T := "NoneType") (r := false) B.isinstance (ev_name 1) (ev_ty B.int bo_int) rfl rfl)) (fun h => nomatch h) fun _ => tss_nil ?_)
    exact tss_one (tsp_retV (ev_and (p := true) (r := true) (ev_not (p := false) (ev_isiT (T := "NoneType") (cs := ["int", "list", "tuple", "dict"]) (r := false) B.isinstance (ev_name 0) (ev_tup (ys := [.ty "int", .ty "list", .ty "tuple", .ty "dict"]) (eas_cons (ev_ty B.int bo_int) (eas_cons (ev_ty B.list bo_list) (eas_cons (ev_ty B.tuple bo_tuple) (eas_cons (ev_ty B.dict bo_dict) eas_nil))))) rfl rfl)) fun _ => ev_one (ev_eqNN (ev_name 0) (ev_name 1))) (.sh _))
  | bl n b =>
    refine tss_cons (tsp_ifE (d := false) (et_val (ev_isiT (T := "bool") (cs := ["list", "tuple"]) (r := false) B.isinstance (ev_name 1) (ev_tup (ys := [.ty "list", .ty "tuple"]) (eas_cons (ev_ty B.list bo_list) (eas_cons (ev_ty B.tuple bo_tuple) eas_nil))) rfl rfl)) (fun h => nomatch h) fun _ => tss_nil ?_)
    refine tss_cons (tsp_ifE (d := false) (et_val (ev_isi (T := "bool") (r := false) B.isinstance (ev_name 1) (ev_ty B.dict bo_dict) rfl rfl)) (fun h => nomatch h) fun _ => tss_nil ?_)
    refine tss_cons (tsp_ifE (d := true) (et_val (ev_isi (T := "bool") (r := true) B.isinstance (ev_name 1) (ev_ty B.int bo_int) rfl rfl)) (fun _ => ?_) fun h => nomatch h)
    exact tss_one (tsp_retV (ev_and (p := true) (r := true) (ev_isi (T := "bool") (r := true) B.isinstance (ev_name 0) (ev_ty B.int bo_int) rfl rfl) fun _ => ev_and (p := true) (r := true) ((ev_eqB (i := true) (j := true) (ev_isi (T := "bool") (r := true) B.isinstance (ev_name 0) (ev_ty B.bool bo_bool) rfl rfl) (ev_isi (T := "bool") (r := true) B.isinstance (ev_name 1) (ev_ty B.bool bo_bool) rfl rfl))) fun _ => ev_one ((ev_eqB (ev_name 0) (ev_name 1)).is (by simp))) (.sh _))
  | int n i =>
    refine tss_cons (tsp_ifE (d := false) (et_val (ev_isiT (T := "int") (cs := ["list", "tuple"]) (r := false) B.isinstance (ev_name 1) (ev_tup (ys := [.ty "list", .ty "tuple"]) (eas_cons (ev_ty B.list bo_list) (eas_cons (ev_ty B.tuple bo_tuple) eas_nil))) rfl rfl)) (fun h => nomatch h) fun _ => tss_nil ?_)
    refine tss_cons (tsp_ifE (d := false) (et_val (ev_isi (T := "int") (r := false) B.isinstance (ev_name 1) (ev_ty B.dict bo_dict) rfl rfl)) (fun h => nomatch h) fun _ => tss_nil ?_)
    refine tss_cons (tsp_ifE (d := true) (et_val (ev_isi (T := "int") (r := true) B.isinstance (ev_name 1) (ev_ty B.int bo_int) rfl rfl)) (fun _ => ?_) fun h => nomatch h)
    exact tss_one (tsp_retV (ev_and (p := true) (r := true) (ev_isi (T := "int") (r := true) B.isinstance (ev_name 0) (ev_ty B.int bo_int) rfl rfl) fun _ => ev_and (p := true) (r := true) ((ev_eqB (i := false) (j := false) (ev_isi (T := "int") (r := false) B.isinstance (ev_name 0) (ev_ty B.bool bo_bool) rfl rfl) (ev_isi (T := "int") (r := false) B.isinstance (ev_name 1) (ev_ty B.bool bo_bool) rfl rfl))) fun _ => ev_one ((ev_eqI (ev_name 0) (ev_name 1)).is (by simp))) (.sh _))
  | @sq n _ xs hx l e =>
    have hrec := ih n rfl
    obtain ⟨T, hT, hk, r1, r2, hk1, hk2⟩ : ∃ T, tyP x = some T ∧ PySem.W.kitAny K (.type T) [.type "list", .type "tuple"] = some true ∧ ∃ r1 r2, PySem.W.kitOne K (.type T) (.type "list") = some r1 ∧ PySem.W.kitOne K (.type T) (.type "tuple") = some r2 := by
      rcases hx with rfl | rfl
      · exact ⟨"list", rfl, rfl, true, false, rfl, rfl⟩
      · exact ⟨"tuple", rfl, rfl, false, true, rfl, rfl⟩
    refine tss_cons (tsp_ifE (d := true) (et_val (ev_isiT (T := T) (cs := ["list", "tuple"]) (r := true) B.isinstance (ev_name 1) (ev_tup (ys := [.ty "list", .ty "tuple"]) (eas_cons (ev_ty B.list bo_list) (eas_cons (ev_ty B.tuple bo_tuple) eas_nil))) hT hk)) (fun _ => ?_) fun h => nomatch h)
    refine tss_cons (tsp_ifE (d := false) (et_w (ew_or (p := false) (r := false) ((et_neB (ev_isi (T := T) B.isinstance (ev_name 0) (ev_ty B.list bo_list) hT hk1) (ev_isi (T := T) B.isinstance (ev_name 1) (ev_ty B.list bo_list) hT hk1)).is (by simp)) fun _ => ew_or1 ((et_neB (ev_isi (T := T) B.isinstance (ev_name 0) (ev_ty B.tuple bo_tuple) hT hk2) (ev_isi (T := T) B.isinstance (ev_name 1) (ev_ty B.tuple bo_tuple) hT hk2)).is (by simp)))) (fun h => nomatch h) fun _ => tss_nil ?_)
    refine tss_one (tsp_retV (ev_and (p := true) (r := true) ((ev_eqI (ev_lenS hx B.len (ev_name 0)) (ev_lenS hx B.len (ev_name 1))).is (by simp)) fun _ => ev_one ((ev_all (bs := xs.map fun _ => true) rfl B.all ((ev_lc0 xs (fun a => .tup [a, a]) (fun a => [some (.sh x), some (.sh x), some (.sh a), some (.sh a)]) (fun _ => .bl true) [2, 3] [("_law_x", 2), ("_law_y", 3)] rfl nd (blkOk_by (by kernel_rfl)) (ei_zipS hx B.zip (ev_name 0) (ev_name 1)) (Nat.le_trans l (by decide)) (fun a _ => tgb_tup ["_law_x", "_law_y"] [2, 3] nd (.inr rfl))
      (fun a ha s H C cl fp => ev_call hrec hr (eas_cons (ev_name 2) (eas_cons (ev_name 3) eas_nil)) ⟨a, rfl, e a ha, rfl⟩)).is (by rw [List.map_map]; rfl))).is (by simp))) (.sh _))
  | @dT n dd l =>
    have hrec := ih (n + 3) rfl
    refine tss_cons (tsp_ifE (d := false) (et_val (ev_isiT (T := "dict") (cs := ["list", "tuple"]) (r := false) B.isinstance (ev_name 1) (ev_tup (ys := [.ty "list", .ty "tuple"]) (eas_cons (ev_ty B.list bo_list) (eas_cons (ev_ty B.tuple bo_tuple) eas_nil))) rfl rfl)) (fun h => nomatch h) fun _ => tss_nil ?_)
    refine tss_cons (tsp_ifE (d := true) (et_val (ev_isi (T := "dict") (r := true) B.isinstance (ev_name 1) (ev_ty B.dict bo_dict) rfl rfl)) (fun _ => ?_) fun h => nomatch h)
    exact tss_one (tsp_retV (ev_and (p := true) (r := true) (ev_isi (T := "dict") (r := true) B.isinstance (ev_name 0) (ev_ty B.dict bo_dict) rfl rfl) fun _ => ev_one (ev_call hrec hr (eas_cons (ev_listItems B.list (ev_name 0)) (eas_cons (ev_listItems B.list (ev_name 1)) eas_nil)) ⟨_, rfl, shape_items dd l n, rfl⟩)) (.sh _))
theorem c_law_same (F : FnP K "_law_same" "_law_same" s_law_same f fd) (hm : mg "_law_same" = some (.ref f)) (B : Bl mg) : ∀ d, Ct g Pr w K mg base (d + 1) "_law_same" (SF (F_same d))
  | 0 => same_main F hm B 0 fun n h => nomatch h
  | d + 1 => same_main F hm B (d + 1) fun n h => by cases h; exact c_law_same F hm B d
end
end PV

namespace PV
open PySem PySem.Spec PyProof.Rows L2
theorem sumR_congr {f g : Nat → Int} : ∀ {n : Nat}, (∀ i, i < n → f i = g i) → sumR n f = sumR n g
  | 0, _ => rfl
  | n + 1, h => by
    rw [sumR_succ, sumR_succ, sumR_congr (n := n) fun i hi => h i (by omega), h n (by omega)]
theorem sumR_tel (g : Nat → Int) : ∀ m : Nat, sumR m (fun i => g (i + 1) - g i) = g m - g 0
  | 0 => by simp [sumR]
  | m + 1 => by
    rw [sumR_succ, sumR_tel g m]
    omega
theorem asked_eq {n : Nat} {as ls : List Arc} {S : Nat → Nat → Int} (hp : ls.Perm (as ++ selfArcs n)) (hin : InN n ls) (hS : IsSol n ls S) {p q : PR} (h : Leads ls S p q) : askedL n as p q = S q.1 q.2 - S p.1 p.2 := by
  obtain ⟨a, ha, h1, h2, h3, h4, h5⟩ := h
  unfold askedL
  refine (maxL_uniq (m := S q.1 q.2 - S p.1 p.2) (List.mem_append_left _ (List.mem_map.mpr ⟨a, List.mem_filter.mpr ⟨hp.mem_iff.mp ha, ?_⟩, by omega⟩)) fun y hy => ?_).symm
  · simp only [Bool.and_eq_true, decide_eq_true_eq]
    exact ⟨⟨h1, h2⟩, by omega⟩
  · rcases List.mem_append.mp hy with z | z
    · obtain ⟨b, hb, rfl⟩ := List.mem_map.mp z
      obtain ⟨h6, h7⟩ := List.mem_filter.mp hb
      simp only [Bool.and_eq_true, decide_eq_true_eq] at h7
      have h8 := sol_arc hin hS (hp.mem_iff.mpr h6) (k := q.2) (by omega)
      rw [h7.1.1, h7.1.2, show q.2 - b.2.2.1 = p.2 by omega] at h8
      omega
    · rw [List.mem_singleton.mp z]
      omega
theorem chain_len {n : Nat} {as ls : List Arc} {S : Nat → Nat → Int} (hp : ls.Perm (as ++ selfArcs n)) (hin : InN n ls) (hS : IsSol n ls S) {e : PR} {ch : List PR} (C : ChainOk n ls S e ch) : chainLen n as ch = S e.1 e.2 := by
  have hne : ch ≠ [] := fun z => by have := C.last; rw [z] at this; cases this
  have hpos : 1 ≤ ch.length := List.length_pos_iff.mpr hne
  let G : Nat → Int := fun i => S (ch.getD i (0, 0)).1 (ch.getD i (0, 0)).2
  have at_ : ∀ i, i < ch.length → ch[i]? = some (ch.getD i (0, 0)) := fun i hi => by rw [List.getD_eq_getElem?_getD, List.getElem?_eq_getElem hi]; rfl
  have ask : ∀ i, i < ch.length - 1 → askedL n as (ch.getD i (0, 0)) (ch.getD (i + 1) (0, 0)) = G (i + 1) - G i := fun i hi => asked_eq hp hin hS (C.step i _ _ (at_ i (by omega)) (at_ (i + 1) (by omega)))
  have mono : ∀ i, i < ch.length - 1 → G i ≤ G (i + 1) := fun i hi => by
    obtain ⟨a, _, _, _, _, _, h5⟩ := C.step i _ _ (at_ i (by omega)) (at_ (i + 1) (by omega))
    show S _ _ ≤ S _ _
    omega
  have hsum : (askS n as ch).sum = G (ch.length - 1) - G 0 := by
    have : (askS n as ch).sum = sumR (ch.length - 1) fun i => G (i + 1) - G i := sumR_congr ask
    rw [this, sumR_tel]
  have hlast : G (ch.length - 1) = S e.1 e.2 := by
    have h1 := C.last
    rw [List.getLast?_eq_getElem?, at_ _ (by omega)] at h1
    show S (ch.getD (ch.length - 1) (0, 0)).1 (ch.getD (ch.length - 1) (0, 0)).2 = _
    rw [Option.some.inj h1]
  have hfirst : G 0 = 0 := by
    have h0 := at_ 0 (by omega)
    have h1 := C.first (ch.getD 0 (0, 0)) (by rw [List.head?_eq_getElem?]; exact h0)
    have h2 := sol_nonneg hS (C.inn _ (List.mem_of_getElem? h0)).1 (ch.getD 0 (0, 0)).2
    show S _ _ = 0
    omega
  have hmin : 0 ≤ minL (askS n as ch ++ [0]) := by
    have h1 := minL_mem (ns := askS n as ch ++ [0]) (by simp)
    rcases List.mem_append.mp h1 with z | z
    · obtain ⟨i, hi, e1⟩ := List.mem_map.mp z
      have hi := List.mem_range.mp hi
      have h2 := mono i hi
      rw [ask i hi] at e1
      omega
    · rw [List.mem_singleton.mp z]
      exact Int.le_refl _
  unfold chainLen
  rw [if_pos hmin, hsum, hlast, hfirst]
  omega
theorem eqv2 (a b : Nat) (i j : Nat) : PyData.eqv (.tuple [.int (a : Int), .int (b : Int)]) (.tuple [.int (i : Int), .int (j : Int)]) = decide (((a, b) : PR) = (i, j)) := by
  have h1 : ((a : Int) == (i : Int)) = decide (a = i) := by
    by_cases h : a = i
    · simp [h]
    · have : ¬ ((a : Int) = i) := by omega
      simp [h, this]
  have h2 : ((b : Int) == (j : Int)) = decide (b = j) := by
    by_cases h : b = j
    · simp [h]
    · have : ¬ ((b : Int) = j) := by omega
      simp [h, this]
  simp only [PyData.eqv, PyData.eqvAll, h1, h2, Bool.and_true, Prod.mk.injEq]
  by_cases h : a = i <;> simp [h]
section
variable {g : Bool} {Pr : Program} {w : World} {K : PySem.W.Frag} {mg : Str → Option Value} {base : Heap} {f : Addr} {fd : FuncData} {C : Addr}
theorem sc_law_is_late : FnScope ["_law_net", "_law_dues", "_law_chain", "_law_long", "_law_event", "_law_k", "_law_tick"] ["_law_net", "_law_dues", "_law_chain"] (defScope s_law_is_late) := ⟨rfl, rfl, rfl, by decide +kernel, rfl, by decide +kernel, by decide +kernel⟩
def F_law_is_late (zs : List P) (y : P) : Prop := ∃ (n : Nat) (as : List Arc) (ds : List Due) (ch : List PR) (p : PR) (l : Int), zs = [lnetP n as, .lst (ds.map dueP), .lst (ch.map prP)] ∧ n ≤ 20 ∧ as.length ≤ 1000 ∧ ds.length ≤ 1000 ∧ ch.length ≤ 90000 ∧ (∀ p ∈ ch, p.1 < n) ∧ ch.getLast? = some p ∧ chainLen n as ch = l ∧ 0 ≤ l ∧ (∃ d ∈ ds, ((d.1, d.2.1) : PR) = p ∧ (d.2.2 : Int) < l) ∧ y = .bl true
theorem c_law_is_late (F : FnP K "_law_is_late" "_law_is_late" s_law_is_late f fd) (hm : mg "_law_is_late" = some (.ref f)) (B : Bl mg) (c1 : Ct g Pr w K mg base 3 "_law_n_chain" (SF F_law_n_chain)) : Ct g Pr w K mg base 4 "_law_is_late" (SF F_law_is_late) := by
  refine ct_pure F hm sc_law_is_late (fun _ _ _ _ _ _ us hl => match us, hl with | [_, _, _], _ => rfl) (by rintro _ _ ⟨n, as, ds, ch, p, l, rfl, _⟩; rfl) fun cdv A outer s H E hr zs y hF => ?_
  obtain ⟨n, as, ds, ch, p, l, rfl, hn, hal, hdl, hcl, hin, hlast, hlen, hl0, ⟨d0, hd0, hd1, hd2⟩, rfl⟩ := hF
  have nd := sc_law_is_late.nd
  have hu := hr.u64
  have hne : ch ≠ [] := fun z => by rw [z] at hlast; cases hlast
  refine tss_cons (tsp_setV 3 nd ((ev_call c1 hr (eas_cons (ev_name 0) (eas_cons (ev_name 2) eas_nil)) ⟨n, as, ch, rfl, hn, hal, hne, hcl, hin, rfl⟩).is (y := .sh (.int l)) (by rw [hlen])) ?_)
  have hat : atI (ch.map prP) (-1) = some (prP p) := atI_last (by simpa using hne) (by rw [List.getLast?_map, hlast]; rfl)
  refine tss_one (tsp_retV (ev_and (p := true) (r := true) ((ev_ge (ev_name 3) ev_int).is (by simp; exact hl0)) fun _ => ev_one ((ev_any (bs := ds.map fun d => decide (p = ((d.1, d.2.1) : PR)) && decide ((d.2.2 : Int) < l)) rfl B.any ((ev_lc0 ds dueP (fun d => [some (.sh (lnetP n as)), some (.sh (.lst (ds.map dueP))), some (.sh (.lst (ch.map prP))), some (.sh (.int l)), some (.sh (.int (d.1 : Nat))), some (.sh (.int (d.2.1 : Nat))), some (.sh (.int (d.2.2 : Nat)))])
    (fun d => .bl (decide (p = ((d.1, d.2.1) : PR)) && decide ((d.2.2 : Int) < l))) [4, 5, 6] [("_law_event", 4), ("_law_k", 5), ("_law_tick", 6)] rfl nd (blkOk_by (by kernel_rfl)) (ei_list (ev_name 1)) (Nat.le_trans hdl (by decide)) (fun d _ => tgb_tup ["_law_event", "_law_k", "_law_tick"] [4, 5, 6] nd (xs := dueL d) (.inr rfl))
    (fun d _ s H C cl fp => ev_and ((ev_eqD hu (ev_ixL (ev_name 2) (ev_neg ev_int) hat) (ev_tup (ys := [.int (d.1 : Nat), .int (d.2.1 : Nat)]) (eas_cons (ev_name 4) (eas_cons (ev_name 5) eas_nil))) (DE.sh (n := 1) (pd_tupI [(p.1 : Int), (p.2 : Int)]) (by decide)) (DE.sh (n := 1) (pd_tupI [(d.1 : Int), (d.2.1 : Int)]) (by decide))).is (by rw [show p = (p.1, p.2) from rfl]; exact congrArg (fun b => PV.E.sh (.bl b)) (eqv2 _ _ _ _))) fun _ => ev_one (ev_gt (ev_name 3) (ev_name 6)))).is (by rw [List.map_map]; rfl))).is ?_)) (.sh _))
  have : ((ds.map fun d => decide (p = ((d.1, d.2.1) : PR)) && decide ((d.2.2 : Int) < l)).any id) = true := List.any_eq_true.mpr ⟨true, List.mem_map.mpr ⟨d0, hd0, by simp [hd1, hd2]⟩, rfl⟩
  exact congrArg (fun b => PV.E.sh (.bl b)) this
end
end PV

/-! repr of rows of small numbers; a new instance from drawn values. -/
namespace PV
open PySem PySem.Spec PyProof.Rows L2
theorem textFrom_ub {B : Nat} : ∀ (ts : List Str) (k : Nat) (acc : Str), (∀ t ∈ ts, t.length ≤ B) → (textFrom k acc ts).length ≤ acc.length + ts.length * (B + 2)
  | [], k, acc, _ => by show acc.length ≤ _; omega
  | t :: r, k, acc, h => by
    have h1 := textFrom_ub (B := B) r (k + 1) (acc ++ (if k > 0 then ", " else "" : String) ++ t) fun u hu => h u (List.mem_cons_of_mem _ hu)
    have e : (acc ++ (if k > 0 then ", " else "" : String) ++ t).length = acc.length + (if k > 0 then 2 else 0) + t.length := by
      rw [strLen_append, strLen_append]
      split <;> rfl
    rw [e] at h1
    have h2 := h t (List.mem_cons_self ..)
    have h3 : (if k > 0 then 2 else 0 : Nat) ≤ 2 := by split <;> omega
    show (textFrom (k + 1) (acc ++ (if k > 0 then ", " else "" : String) ++ t) r).length ≤ acc.length + (r.length + 1) * (B + 2)
    rw [Nat.succ_mul]
    generalize (if k > 0 then 2 else 0 : Nat) = z at h1 h3
    omega
theorem listText_ub {B : Nat} {ts : List Str} (h : ∀ t ∈ ts, t.length ≤ B) : (listText ts).length ≤ 2 + ts.length * (B + 2) := by
  have h1 := textFrom_ub ts 0 "[" h
  have h2 : (listText ts).length = (textFrom 0 "[" ts).length + 1 := by
    show (textFrom 0 "[" ts ++ "]").length = _
    rw [strLen_append]; rfl
  have h3 : ("[" : Str).length = 1 := rfl
  omega
theorem join_ub {B : Nat} : ∀ (ts : List Str), (∀ t ∈ ts, t.length ≤ B) → (Str.join ", " ts).length ≤ ts.length * (B + 2)
  | [], _ => by show 0 ≤ _; omega
  | [x], h => by
    have := h x (List.mem_cons_self ..)
    show x.length ≤ 1 * (B + 2)
    omega
  | x :: y :: r, h => by
    have h1 := join_ub (B := B) (y :: r) fun u hu => h u (List.mem_cons_of_mem _ hu)
    have h2 := h x (List.mem_cons_self ..)
    show (x ++ ", " ++ Str.join ", " (y :: r)).length ≤ (r.length + 1 + 1) * (B + 2)
    rw [strLen_append, strLen_append, Nat.succ_mul]
    have h3 : ((", " : String) : Str).length = 2 := rfl
    have h4 : (y :: r).length = r.length + 1 := rfl
    rw [h4] at h1
    omega
theorem tupleText_ub {B : Nat} {ts : List Str} (h : ∀ t ∈ ts, t.length ≤ B) : (tupleText ts).length ≤ 3 + ts.length * (B + 2) := by
  have h1 := join_ub ts h
  unfold tupleText
  rw [strLen_append, strLen_append]
  have h2 : ("(" : Str).length = 1 := rfl
  have h3 : ((if ts.length == 1 then ",)" else ")" : String) : Str).length ≤ 2 := by split <;> decide
  omega
theorem shownAll_map : ∀ ds : List PyData, PyData.shownAll ds = ds.map PyData.shown
  | [] => by simp [PyData.shownAll]
  | d :: ds => by simp only [PyData.shownAll, List.map_cons, shownAll_map ds]
theorem showableAll_of : ∀ {ds : List PyData}, (∀ d ∈ ds, d.showable = true) → PyData.showableAll ds = true
  | [], _ => by simp [PyData.showableAll]
  | d :: ds, h => by
    simp only [PyData.showableAll, h d (List.mem_cons_self ..), Bool.true_and]
    exact showableAll_of fun e he => h e (List.mem_cons_of_mem _ he)
theorem num_shown : ∀ n, n < 1000 → (PyData.int ((n : Nat) : Int)).shown.length ≤ 3 := by
  simp only [PyData.shown]
  decide +kernel
theorem num_showable {n : Nat} (h : n < 1000) : (PyData.int (n : Int)).showable = true := by
  simp only [PyData.showable, decide_eq_true_eq]
  refine Nat.lt_of_le_of_lt (Nat.log2_le_self _) ?_
  show n < 1920
  omega
/-- data that may be shown -/
structure Shw (n B : Nat) (x : P) (d : PyData) : Prop where
  pd : PD n x d
  ok : d.showable = true
  len : d.shown.length ≤ B
theorem shw_list {n B : Nat} {x : P} {ps : List P} {ds : List PyData} (hx : Sq x ps) (r : Paired (Shw n B) ps ds) : ∃ d, Shw (n + 1) (3 + ps.length * (B + 2)) x d := by
  have hs : ∀ d ∈ ds, d.showable = true := fun d hd => by
    obtain ⟨i, hi⟩ := List.mem_iff_getElem?.mp hd
    obtain ⟨p, _, h⟩ := pd_left r i d hi
    exact h.ok
  have hl : ∀ t ∈ PyData.shownAll ds, t.length ≤ B := fun t ht => by
    rw [shownAll_map] at ht
    obtain ⟨d, hd, rfl⟩ := List.mem_map.mp ht
    obtain ⟨i, hi⟩ := List.mem_iff_getElem?.mp hd
    obtain ⟨p, _, h⟩ := pd_left r i d hi
    exact h.len
  have hn : (PyData.shownAll ds).length = ps.length := by rw [shownAll_map, List.length_map, r.length]
  rcases hx with rfl | rfl
  · refine ⟨.list ds, .lst r.length fun i x d h1 h2 => (pd_get r i x d h1 h2).pd, by simp only [PyData.showable]; exact showableAll_of hs, ?_⟩
    simp only [PyData.shown]
    have := listText_ub hl
    rw [hn] at this
    omega
  · refine ⟨.tuple ds, .tup r.length fun i x d h1 h2 => (pd_get r i x d h1 h2).pd, by simp only [PyData.showable]; exact showableAll_of hs, ?_⟩
    simp only [PyData.shown]
    have := tupleText_ub hl
    rw [hn] at this
    omega
theorem shw_nums {n : Nat} : ∀ {ns : List Nat}, (∀ m ∈ ns, m < 1000) → Paired (Shw n 3) (ns.map fun m => P.int (m : Nat)) (ns.map fun m => PyData.int (m : Nat))
  | [], _ => .nil
  | m :: ns, h => .cons ⟨.int n _, num_showable (h m (List.mem_cons_self ..)), num_shown m (h m (List.mem_cons_self ..))⟩ (shw_nums fun k hk => h k (List.mem_cons_of_mem _ hk))
theorem shw_pick {n B : Nat} : ∀ {ps : List P}, (∀ p ∈ ps, ∃ d, Shw n B p d) → ∃ ds, Paired (Shw n B) ps ds
  | [], _ => ⟨[], .nil⟩
  | p :: ps, h => by
    obtain ⟨d, hd⟩ := h p (List.mem_cons_self ..)
    obtain ⟨ds, r⟩ := shw_pick fun q hq => h q (List.mem_cons_of_mem _ hq)
    exact ⟨d :: ds, .cons hd r⟩
/-- rows of so many small numbers -/
theorem shw_rows {α : Type} {f : α → List Nat} {w : Nat} {x : P} {ps : List P} {l : List α} (hx : Sq x ps) (r : Paired (fun p a => Sq p ((f a).map fun m => P.int (m : Nat))) ps l) (hf : ∀ a ∈ l, (f a).length ≤ w ∧ ∀ m ∈ f a, m < 1000) : ∃ d, Shw 2 (3 + ps.length * (3 + w * 5 + 2)) x d := by
  obtain ⟨ds, r2⟩ := shw_pick (n := 1) (B := 3 + w * 5) (ps := ps) fun p hp => by
    obtain ⟨i, hi⟩ := List.mem_iff_getElem?.mp hp
    obtain ⟨a, ha, hs⟩ := pd_right r i p hi
    obtain ⟨h1, h2⟩ := hf a (List.mem_of_getElem? ha)
    obtain ⟨d, hd⟩ := shw_list hs (shw_nums (n := 0) h2)
    refine ⟨d, hd.pd, hd.ok, Nat.le_trans hd.len ?_⟩
    rw [List.length_map]
    have : (f a).length * (3 + 2) ≤ w * 5 := Nat.mul_le_mul_right _ h1
    omega
  exact shw_list hx r2
theorem Shw.noDict {n B : Nat} {x : P} {d : PyData} (h : Shw n B x d) : d.hasDict = false := PyData.hasDict_of_canLay d h.pd.lay.1
section
variable {X : Cx} {a b e : Expr} {es : List Expr} {ρ : Rho} {μ : Mu} {Q : E → Mu → Prop} {pos p2 : Pos}
theorem tep_repr {k : Nat} (hr : RoomG true k X.A) (hm : X.mg "repr" = none) (h : TEP X e ρ μ fun x μ1 => ∃ d, DE μ1 x d ∧ d.showable = true ∧ d.hasDict = false ∧ d.depth ≤ 60 ∧ d.shown.length ≤ sizeLine ∧ Q (.sh (.str d.shown)) μ1) (hg : Gl X "repr" := by rfl) (hst : starEach [e] X.env = (false, eval e X.env) :: starEach [] X.env := by rfl) :
    TEP X (.Call (.Name "repr" p2) [e] [] pos) ρ μ Q :=
  tep_callB (call_reprD (hr.gd rfl) hr.u64) hg hm bo_repr (tap_cons (fun ad Hb H σ W N Q' g => h ad Hb H σ W N Q' fun v x μ1 ad1 Hb1 H1 ⟨d, hd, hs, hn, hdp, hz, q⟩ s1 W1 r1 => g v x μ1 ad1 Hb1 H1 (tap_nil fun ad Hb H vs W r0 Q' g => by
    obtain ⟨v, rfl, r⟩ := vals1 r0
    exact ⟨v, d, rfl, (hd.dp W r).1, hs, hn, hdp, hz, g.now W (x := .sh (.str _)) (.str _) q⟩) s1 W1 r1) hst) (by decide) (by decide) hst rfl
theorem tep_eqS {y : Str} (h : TEP X a ρ μ fun x μ1 => EV X b ρ μ1 (.sh (.str y)) ∧ ∃ z, x = .sh (.str z) ∧ Q (.sh (.bl (decide (z = y)))) μ1) : TEP X (.Compare a [.Eq] [b] pos) ρ μ Q :=
  tep_cmp op_eq (nomark _) (fun ad Hb H σ W N Q' g => h ad Hb H σ W N Q' fun v x μ1 ad1 Hb1 H1 ⟨hb, z, ex, q⟩ s1 W1 r1 => g v x μ1 ad1 Hb1 H1 (hb _ fun ad Hb H v w W r1 r2 Q' k => by
    subst ex
    obtain rfl := Rep.str_inv r1
    obtain rfl := Rep.str_inv r2
    refine ⟨rfl, ?_⟩
    have e : (decide (V.str z = V.str y)) = decide (z = y) := decide_eq_decide.mpr ⟨fun w => by cases w; rfl, fun w => by rw [w]⟩
    rw [e]
    exact k.now W (x := .sh (.bl (decide (z = y)))) (.bl _) q) s1 W1 r1)
theorem tep_makeT {k : Nat} {x : Str} {C : Addr} {Pre : List P → Prop} {Post : List P → P → Prop} (M : Mkr X.prog X.w X.K X.mg X.base k x C Pre Post) (hr : Room (k + 1) X.A) (h : TAP X (e :: es) ρ μ fun zs μ1 => ∃ ps : List P, zs = ps.map .sh ∧ Pre ps ∧ ∀ y, Post ps y → Q (.sh y) μ1) (hg : Gl X x := by rfl) (hdb : (x == ("__debug__" : Str)) = false := by decide)
    (he : starEach (e :: es) X.env = (false, eval e X.env) :: starEach es X.env := by rfl) (hpl : (backTo pos (starEach es X.env)).any (·.1) = false := by rfl) : TEP X (.Call (.Name x p2) (e :: es) [] pos) ρ μ Q := fun ad Hb H σ W N Q' g => by
  obtain ⟨f, fd, ps, hm, mk, hb, F⟩ := M.ok
  refine pe_go (pe_make (E := E0) mk F.plain hr hg hm hb .nil pass0 pa_self hdb he hpl) (h ad Hb H σ W N _ ?_)
  rintro vs ys μ1 ad1 Hb1 H1 ⟨zs, rfl, pre, q⟩ s1 W1 r1 a dx ha hd ne
  rw [List.append_nil]
  exact ⟨a, dx, vs, zs, H1, ad1, Hb1, μ1, rfl, ha, hd, ne, rfl, W1, repEs_sh r1, pre, fun y Hb2 H2 post s2 W2 r2 => ⟨rfl, g _ (.sh y) _ _ _ _ (q y post) (s1.trans s2) W2 r2⟩⟩
end
section
variable {κ α : Type} [DecidableEq κ]
theorem dput_new {d : List (κ × α)} {k : κ} {v : α} (h : dget d k = none) : (dput d k v).length = d.length + 1 := by
  have h1 := congrArg List.length (dput_keys d k v)
  rw [List.length_map] at h1
  rw [h1]
  split
  · rename_i h2
    obtain ⟨q, hq, h3⟩ := List.any_eq_true.mp h2
    have h3 := of_decide_eq_true h3
    have := dget_key.mpr (List.mem_map.mpr ⟨q, hq, h3⟩)
    rw [h] at this
    cases this
  · rw [List.length_append, List.length_map, List.length_singleton]
end
end PV

namespace PV
open PySem PySem.Spec PyProof.Rows L2
theorem et_neS {X : Cx} {a b : Expr} {ρ : Rho} {μ : Mu} {pos : Pos} {x y : Str} (ha : EV X a ρ μ (.sh (.str x))) (hb : EV X b ρ μ (.sh (.str y))) : ET X (.Compare a [.NotEq] [b] pos) ρ μ (!decide (x = y)) := et_cmp op_ne (nomark _) ha hb fun Q q ad Hb H v w W r1 r2 Q' k => by
  obtain rfl := Rep.str_inv r1
  obtain rfl := Rep.str_inv r2
  refine ⟨rfl, ?_⟩
  have e : (decide (V.str x = V.str y)) = decide (x = y) := decide_eq_decide.mpr ⟨fun z => by cases z; rfl, fun z => by rw [z]⟩
  rw [e]
  exact k.now W (x := .sh (.bl (!decide (x = y)))) (.bl _) q
theorem relock {μ : Mu} {j : Nat} {c d : Option Cell} (h : μ[j]? = some c) (l : Mu) : (μ.set j d ++ l).set j c = μ ++ l := by
  have hl := (List.getElem?_eq_some_iff.mp h).1
  rw [List.set_append_left _ _ (by rw [List.length_set]; exact hl), List.set_set]
  congr 1
  refine List.ext_getElem? fun i => ?_
  by_cases e : j = i
  · subst e
    rw [List.getElem?_set_self hl, h]
  · rw [List.getElem?_set_ne e]
theorem relock0 {μ : Mu} {j : Nat} {c d : Option Cell} (h : μ[j]? = some c) : (μ.set j d).set j c = μ := by
  have := relock (d := d) h []
  rw [List.append_nil, List.append_nil] at this
  exact this
def dueI (d : Due) : List Int := [(d.1 : Int), (d.2.1 : Int), (d.2.2 : Int)]
def dueN (d : Due) : List Nat := [d.1, d.2.1, d.2.2]
def S_dues_right : PSpec := fun xs μ Q => ∃ (js jc N n : Nat) (as : List Arc) (or : List Nat) (ds : List Due), xs = [.pt js, .sh (lnetP n as), .sh (.lst (ds.map dueP))] ∧ Drawn 7 n as or ∧ (∀ d ∈ ds, d.1 < n ∧ d.2.1 < 26 ∧ d.2.2 ≤ 400) ∧ ds.length ≤ 100 ∧ StrAt js jc N μ ∧ N < 70000000 ∧ ∀ μ', Ext2 js jc μ μ' → StrAt js jc (N + 100000) μ' → Q (.sh (.bl true)) μ'
theorem mins_neg {tb : DD} (h : tb.any (fun q => decide (q.2 < 0)) = true) : ¬ 0 ≤ minL (tb.map (·.2) ++ [0]) := fun z => by
  obtain ⟨q, hq, h1⟩ := List.any_eq_true.mp h
  have h1 := of_decide_eq_true h1
  have := minL_le (ns := tb.map (·.2) ++ [0]) (List.mem_append_left _ (List.mem_map.mpr ⟨q, hq, rfl⟩))
  omega
theorem mins_pos {tb : DD} (h : ¬ tb.any (fun q => decide (q.2 < 0)) = true) : 0 ≤ minL (tb.map (·.2) ++ [0]) := by
  have h1 := minL_mem (ns := tb.map (·.2) ++ [0]) (by simp)
  rcases List.mem_append.mp h1 with z | z
  · obtain ⟨q, hq, e⟩ := List.mem_map.mp z
    by_cases c : q.2 < 0
    · exact absurd (List.any_eq_true.mpr ⟨q, hq, decide_eq_true c⟩) h
    · omega
  · rw [List.mem_singleton.mp z]
    exact Int.le_refl _
theorem drawn_netI {n : Nat} {as : List Arc} {or ord : List Nat} {S : Nat → Nat → Int} (D : Drawn 7 n as or) (ho : OrdOk n (as ++ selfArcs n) ord) (hS : IsSol n (as ++ selfArcs n) S) : NetI n as ord S := ⟨D.n1, Nat.le_trans D.n5 (by decide), Nat.le_trans D.len (by decide), fun a ha => by
  rcases List.mem_append.mp ha with z | z
  · have := (D.small a z).1
    omega
  · obtain ⟨x, _, rfl⟩ := List.mem_map.mp z
    show 1 ≤ 1000
    decide, drawn_inn D, ho, hS⟩
section
variable {Pr : Program} {w : World} {K : PySem.W.Frag} {mg : Str → Option Value} {base : Heap} {f : Addr} {fd : FuncData} {C : Addr}
theorem sc_law_dues_right : FnScope ["_law_stream", "_law_net", "_law_dues", "_law_told", "_law_table", "_law_found", "_law_given", "_law_was", "_law_due", "_law_some", "_law_chain", "_law_left", "_law_kept", "_law_pair"] ["_law_stream", "_law_net", "_law_dues"] (defScope s_law_dues_right) := ⟨rfl, rfl, rfl, by decide +kernel, rfl, by decide +kernel, by decide +kernel⟩
theorem c_law_dues_right (F : FnP K "_law_dues_right" "_law_dues_right" s_law_dues_right f fd) (hm : mg "_law_dues_right" = some (.ref f)) (B : Bl mg) (NC : NetC K C) (cN : Mkr Pr w K mg base 6 "Net" C PreNet (PostNet C)) (cLo : ∀ d, Ct true Pr w K mg base (d + 2) "_law_loose" (S_loose d))
    (cTab : Ct true Pr w K mg base 2 "_law_n_table" (SF F_law_n_table)) (cNL : Ct true Pr w K mg base 2 "_law_n_latest" (SF F_law_n_latest)) (cLat : Ct true Pr w K mg base 5 "latest" (SO (F_latest K))) (cSame : ∀ d, Ct true Pr w K mg base (d + 1) "_law_same" (SF (F_same d)))
    (cLate : Ct true Pr w K mg base 5 "late_chain" (SOi (P_late K) Q_late)) (cIs : Ct true Pr w K mg base 4 "_law_is_late" (SF F_law_is_late)) (cSl : Ct true Pr w K mg base 6 "slack" (SO (F_slack K))) : Ct true Pr w K mg base 8 "_law_dues_right" S_dues_right := by
  refine ct_of F hm sc_law_dues_right (fun _ _ _ _ _ _ us hl => match us, hl with | [_, _, _], _ => rfl) (by rintro _ _ _ ⟨js, jc, N, n, as, or, ds, rfl, _⟩; rfl) fun cdv A outer s H E hr xs μ Q hQ => ?_
  obtain ⟨js, jc, N, n, as, or, ds, rfl, D, hds, hdl, hA, hN, q⟩ := hQ
  have nd := sc_law_dues_right.nd
  have hu := hr.un
  have hu64 := hr.u64
  obtain ⟨ord, ho1, ho⟩ := drawn_ord D
  have hin := drawn_inn D
  obtain ⟨S, hS⟩ := sol_ex ho hin
  obtain ⟨L, hL⟩ := lat_ex ho hin D.n1 (knownOf ds)
  have NI := drawn_netI D ho hS
  have hn5 := D.n5
  have hn1 := D.n1
  have hsl : (selfArcs n).length = n := by simp [selfArcs]
  have hal := D.len
  have c2 : lcost 2 = 201 := rfl
  refine tss_cons (tsp_parN ["_law_told", "_law_table"] [3, 4] nd (tap_cons (tep_makeT cN hr.room (tap_consV (ev_ixT (xs := [.int (n : Nat), .lst (as.map arcP)]) (ev_name 1) ev_int rfl) (tap_cons (tep_call (cLo 2) (hr.mono (by decide)) (tap_consV (ev_name 0) (tap_consV (ev_ixT (xs := [.int (n : Nat), .lst (as.map arcP)]) (ev_name 1) ev_int rfl) (tap_nil ⟨js, jc, N, _, rfl, deep_rows (f := arcI) (by omega) (fun a _ => by show 4 ≤ 200; decide), hA, by omega, fun x1 μ1 hx1 b1 s1 => tap_nil ?_⟩)))))))))
  have hLA : LArcs x1 as := loose_rows (f := arcI) hx1
  refine ⟨[.int (n : Nat), x1], rfl, ⟨x1, as, n, ord, rfl, hLA, D.inn, by omega, fun a ha m hm => ?_, hn1, ho1⟩, fun told htold => ?_⟩
  · have h1 := D.inn a ha
    have h2 := D.small a ha
    simp only [arcI, List.mem_cons, List.not_mem_nil, or_false] at hm
    rcases hm with rfl | rfl | rfl | rfl <;> omega
  obtain ⟨ls, pm, rfl⟩ := post_net htold hLA ho1
  have hinL := inn_perm pm.symm hin
  have hoL := ord_perm pm.symm ho
  have hSL := sol_perm pm.symm hS
  have hLL := lat_perm pm.symm hL
  have NO : NetOk K C n ord ls := ⟨NC, by omega, by rw [pm.length_eq, List.length_append, hsl]; omega, hinL, hoL⟩
  refine tap_consV (ev_call cTab (hr.mono (by decide)) (eas_cons (ev_name 1) (eas_cons ev_int eas_nil)) ⟨n, as, 26, ord, S, rfl, by omega, by decide, by omega, NI.tk, hin, ho, hS, rfl⟩) (tap_nil ⟨rfl, ?_⟩)
  -- what is found by the law's own way back, what is passed
  refine tss_cons (tsp_par2A 5 6 nd (tap_consV (ev_call cNL (hr.mono (by decide)) (eas_cons (ev_name 1) (eas_cons (ev_name 2) eas_nil)) ⟨n, as, ord, ds, L, rfl, hn1, hn5, by omega, fun a ha => ?_, hin, ho, hds, hdl, hL, rfl⟩) (tap_cons (tep_call (cLo 2) (hr.mono (by decide)) (tap_consV (ev_name 0) (tap_consV (ev_name 2) (tap_nil ⟨js, jc, N + lcost 2, _, rfl, deep_rows (f := dueI) (by omega) (fun a _ => by show 3 ≤ 200; decide), s1, by omega, fun x2 μ2 hx2 b2 s2 => tap_nil ⟨_, _, rfl, ?_⟩⟩)))))))
  · rcases List.mem_append.mp ha with z | z
    · exact (D.small a z).2
    · obtain ⟨x, _, rfl⟩ := List.mem_map.mp z
      show 0 ≤ 9
      decide
  have b12 := b1.trans b2
  have hX2 : Ext2 js jc μ μ2 := b12.ext
  have hl2 := s2.lt
  obtain ⟨ps2, hps2, hpr2⟩ : LDues x2 ds := loose_rows (f := dueI) hx2
  have DO2 : DuesOk n x2 ds := ⟨⟨ps2, hps2, hpr2⟩, fun d hd => (hds d hd).1, fun d hd => Nat.lt_trans (hds d hd).2.1 (by decide), by omega⟩
  have DO0 : DuesOk n (.lst (ds.map dueP)) ds := ⟨⟨ds.map dueP, .inl rfl, by
    clear hds hdl q hL hpr2 DO2 hLL hps2 hx2
    induction ds with
    | nil => exact .nil
    | cons d ds ih => exact .cons (.inr rfl) ih⟩, fun d hd => (hds d hd).1, fun d hd => Nat.lt_trans (hds d hd).2.1 (by decide), by omega⟩
  obtain ⟨d2, hd2⟩ := shw_rows (f := dueN) (w := 3) hps2 hpr2 fun d hd => ⟨Nat.le_refl _, fun m hm => by
    have := hds d hd
    simp only [dueN, List.mem_cons, List.not_mem_nil, or_false] at hm
    rcases hm with rfl | rfl | rfl <;> omega⟩
  have hz2 : d2.shown.length ≤ sizeLine := by
    have h1 := hd2.len
    have h2 := hpr2.length
    have h3 : sizeLine = 16777216 := rfl
    omega
  have dep2 : d2.depth ≤ 60 := Nat.le_trans hd2.pd.lay.2 (by decide)
  have hkn := known_nd ds
  have hkd : ∀ r ∈ knownOf ds, r.1.1 < n := fun r hr => (DO0.kk r hr).1
  have hKK : KKof (knownOf ds) ≤ 26 := kk_le fun r hr => by
    obtain ⟨d, hd, e⟩ := knownOf_spec ds r hr
    rw [e]
    exact (hds d hd).2.1
  have hiff := late_iff hoL hinL hn1 hLL hSL hkd hkn
  have htl := tbl_len n (KKof (knownOf ds)) L
  have hnk : n * KKof (knownOf ds) ≤ 5 * 26 := Nat.mul_le_mul hn5 hKK
  have htm : ∀ r ∈ tblOf n (KKof (knownOf ds)) L, r.1.1 < n ∧ r.1.2 < 26 ∧ L r.1.1 r.1.2 = some r.2 := fun r hr => by
    obtain ⟨h1, h2, h3⟩ := tbl_mem.mp (show (r.1, r.2) ∈ _ from hr)
    exact ⟨h1, by omega, h3⟩
  have htn : dnd (tblOf n (KKof (knownOf ds)) L) := tbl_nd _ _ _
  -- whether a needed start lies ahead of tick 0
  have hlt : (tblOf n (KKof (knownOf ds)) L).any (fun r => decide (r.2 < 0)) = true ↔ ¬ lateOf S (knownOf ds) = none := by
    rw [hiff]
    constructor
    · intro h1 h2
      obtain ⟨r, hr, h3⟩ := List.any_eq_true.mp h1
      have h3 := of_decide_eq_true h3
      obtain ⟨h4, _, h5⟩ := htm r hr
      have := h2 _ _ _ h4 h5
      omega
    · intro h1
      refine Classical.byContradiction fun h2 => h1 fun e k l he hl => ?_
      by_cases c : l < 0
      · exact absurd (List.any_eq_true.mpr ⟨((e, k), l), tbl_mem.mpr ⟨he, lat_lt hL hl, hl⟩, decide_eq_true c⟩) h2
      · omega
  have hlc : latestC n (knownOf ds) L = if (tblOf n (KKof (knownOf ds)) L).any (fun r => decide (r.2 < 0)) = true then none else some (tblOf n (KKof (knownOf ds)) L) := rfl
  have lv : ∀ {tb : DD}, ((ddP tb).map fun r : List Key × P => r.2) ++ [P.int 0] = ((tb.map fun r : PR × Int => r.2) ++ [0]).map P.int := fun {tb} => by
    unfold ddP
    rw [List.map_map, List.map_append, List.map_map]
    rfl
  generalize hT : tblOf n (KKof (knownOf ds)) L = tb at *
  have tbl : tb.length ≤ 130 := by omega
  by_cases hneg : tb.any (fun r => decide (r.2 < 0)) = true
  · rw [if_pos hneg] at hlc
    refine tss_cons (tsp_parN ["_law_was", "_law_due"] [7, 8] nd (tap_consV (ev_repr hr B.repr (ev_name 6) (DE.sh hd2.pd (by decide)) hd2.ok hd2.noDict dep2 hz2) (tap_consV (ev_if (x := .sh .non) (d := decide (0 ≤ minL (tb.map (·.2) ++ [0]))) (et_ge (ev_min rfl B.min (ns := tb.map (·.2) ++ [0]) ((ev_cat (xs := (ddP tb).map (·.2)) (ys := [.int 0]) (fun Q q => tep_listVals (ps := (ddP tb).map (·.2)) B.list ((ev_name 5) _ ⟨(ddP tb).map fun q => (q.1, .sh q.2), .inl ⟨ddP tb, rfl, rfl⟩, by rw [List.map_map, List.map_map]; rfl, q⟩)) (ev_lst (eas_cons ev_int eas_nil)) (by unfold ddP; simp; omega)).is (by rw [lv])) (by simp)) ev_int)
      (fun h => absurd (of_decide_eq_true h) (mins_neg hneg)) fun _ => ev_non) (tap_nil ⟨rfl, ?_⟩))))
    refine tss_cons (tsp_setP 9 nd (tep_callO (d := none) cLat (hr.mono (by decide)) (eas_cons (ev_name 3) (eas_cons (ev_name 6) eas_nil)) ⟨C, n, as, ord, ls, x2, ds, L, rfl, NO, DO2, hLL, by rw [hlc]; rfl⟩ (fun _ => ?_) fun c hc => nomatch hc))
    refine tss_cons (tsp_ifE (d := false) (et_w (ew_or (p := false) (r := false) (et_not (p := true) (et_val (ev_call (cSame 1) (hr.mono (by decide)) (eas_cons (ev_lst (ys := [.non]) (eas_cons (ev_name 9) eas_nil)) (eas_cons (ev_lst (ys := [.non]) (eas_cons (ev_name 8) eas_nil)) eas_nil)) ⟨.lst [.non], rfl, .sq (.inl rfl) (by decide) (fun a ha => by rw [List.mem_singleton.mp ha]; exact .non _), rfl⟩))) fun _ => ew_or1 ((et_neS (ev_repr hr B.repr (ev_name 6) (DE.sh hd2.pd (by decide)) hd2.ok hd2.noDict dep2 hz2) (ev_name 7)).is (by simp)))) (fun h => nomatch h) fun _ => tss_nil ?_)
    obtain ⟨p, hp⟩ : ∃ p, lateOf S (knownOf ds) = some p := by
      cases h : lateOf S (knownOf ds) with
      | none => exact absurd h (hlt.mp hneg)
      | some p => exact ⟨p, rfl⟩
    -- the chain
    refine tss_cons (tsp_setP 10 nd (tep_callI cLate (hr.mono (by decide)) ⟨C, n, as, ord, ls, S, x2, ds⟩ (eas_cons (ev_name 3) (eas_cons (ev_name 6) eas_nil)) ⟨rfl, NO, hSL, DO2⟩ (fun h0 => ?_) fun c hc => ?_))
    · rcases h0 with ⟨_, h1⟩ | ⟨_, _, _, h1, _⟩
      · rw [hp] at h1; cases h1
      · cases h1
    obtain ⟨ch, rfl, CO⟩ : ∃ ch, c = .lst (ch.map fun p => .sh (prP p)) ∧ ChainOk n ls S p ch := by
      rcases hc with ⟨h1, _⟩ | ⟨p2, h2, ch, h1, CO⟩
      · cases h1
      · have h2 : lateOf S (knownOf ds) = some p2 := h2
        rw [hp] at h2
        cases h2
        exact ⟨ch, Option.some.inj h1, CO⟩
    have ece : (ch.map fun p => PV.E.sh (prP p)) = (ch.map prP).map .sh := by rw [List.map_map]; rfl
    rw [ece]
    have hcj : (μ2 ++ [some (Cell.lst ((ch.map prP).map .sh))])[μ2.length]? = some (some (.lst ((ch.map prP).map .sh))) := by rw [List.getElem?_append_right (Nat.le_refl _), Nat.sub_self]; rfl
    have hpn : p.1 < n ∧ p.2 < 26 ∧ ∃ v, dget (knownOf ds) p = some v ∧ v < S p.1 p.2 := by
      unfold lateOf at hp
      have h1 := List.mem_of_find?_eq_some hp
      have h2 := List.find?_some hp
      obtain ⟨r, hr, rfl⟩ := List.mem_map.mp ((sortP_perm _).mem_iff.mp h1)
      have h3 := dget_of_mem hkn hr
      rw [h3] at h2
      refine ⟨hkd r hr, ?_, r.2, h3, of_decide_eq_true h2⟩
      obtain ⟨d, hd, e⟩ := knownOf_spec ds r hr
      rw [e]
      exact (hds d hd).2.1
    obtain ⟨hpn1, hpn2, v, hv, hvS⟩ := hpn
    obtain ⟨d0, hd0, hd1, hdv⟩ := known_get hv
    have hcl := chain_len (as := as) pm hinL hSL CO
    have hlateEV : ∀ {X : Cx} {ρ : Rho} {μ : Mu}, True := fun {_ _ _} => trivial
    refine tss_cons (tsp_ifE (d := false) (et_w (ew_or (p := false) (r := false) ((et_neB (i := false) (j := false) (ev_isN (x := .pt μ2.length) (ev_name 10)) (ev_notN (x := .sh .non) (ev_name 8))).is (by simp)) fun _ => ew_or1 (et_w (ew_and (p := true) (r := false) (et_notN (x := .pt μ2.length) (ev_name 10)) fun _ => ew_and1 (et_not (p := true) (et_val (fun Q q => tep_lend cIs (hr.mono (by decide)) (tap_consV (ev_name 1) (tap_consV (ev_name 2) (tap_consV (ev_name 10) (tap_nil ⟨[lnetP n as, .lst (ds.map dueP), .lst (ch.map prP)], .bl true, .cons (.sh _) (.cons (.sh _) (.cons (Lend.lstS hcj) .nil)),
      ⟨n, as, ds, ch, p, S p.1 p.2, rfl, by omega, by omega, by omega, CO.len, fun q hq => (CO.inn q hq).1, CO.last, hcl, sol_nonneg hSL hpn1 _, ⟨d0, hd0, hd1, by rw [← hdv]; exact hvS⟩, rfl⟩, rfl, q⟩))))))))))) (fun h => nomatch h) fun _ => tss_nil ?_)
    -- what is shown of it
    obtain ⟨dc, hdc⟩ : ∃ d, Shw 2 (3 + ch.length * (3 + 2 * 5 + 2)) (.lst (ch.map prP)) d := by
      have := shw_rows (f := fun p : PR => [p.1, p.2]) (w := 2) (x := .lst (ch.map prP)) (l := ch) (.inl rfl) (by
        clear hcl ece hcj CO hc
        induction ch with
        | nil => exact .nil
        | cons a l ih => exact .cons (.inr rfl) ih) fun a ha => ⟨Nat.le_refl _, fun m hm => by
          have h1 := CO.inn a ha
          simp only [List.mem_cons, List.not_mem_nil, or_false] at hm
          rcases hm with rfl | rfl <;> omega⟩
      rw [List.length_map] at this
      exact this
    have hzc : dc.shown.length ≤ sizeLine := by
      have h1 := hdc.len
      have h2 := CO.len
      have h3 : sizeLine = 16777216 := rfl
      omega
    have depc : dc.depth ≤ 60 := Nat.le_trans hdc.pd.lay.2 (by decide)
    refine tss_cons (tsp_par2A 11 12 nd (tap_cons (tep_callO (d := none) cSl (hr.mono (by decide)) (eas_cons (ev_name 3) (eas_cons (ev_name 2) eas_nil)) ⟨C, n, as, ord, ls, _, ds, L, S, rfl, NO, DO0, hLL, hSL, by rw [hlc]; rfl⟩ (fun _ => tap_consV (ev_repr hr B.repr (ev_name 10) (DE.pt hcj hdc.pd (by decide)) hdc.ok hdc.noDict depc hzc) (tap_nil ⟨_, _, rfl, ?_⟩)) fun c hc => nomatch hc)))
    refine tss_cons (tsp_ifE (d := true) (et_isN (x := .sh .non) (ev_name 8)) (fun _ => ?_) fun h => nomatch h)
    refine tss_cons (tsp_expr (tep_append ((ev_name 10) _ ⟨μ2.length, _, rfl, hcj, (ev_str) _ ⟨_, hcj, by simp; have := CO.len; omega, ?_⟩⟩)))
    refine tss_one (tsp_ret (tep_and ((ev_isN (x := .sh .non) (ev_name 11)) _ ⟨true, rfl, ?_⟩)))
    rw [if_pos rfl]
    refine tep_one (tep_eqS (y := dc.shown) (tep_repr hr B.repr (tep_callI cLate (hr.mono (by decide)) ⟨C, n, as, ord, ls, S, _, ds⟩ (eas_cons (ev_name 3) (eas_cons (ev_name 2) eas_nil)) ⟨rfl, NO, hSL, DO0⟩ (fun h0 => ?_) fun c hc => ?_)))
    · rcases h0 with ⟨_, h1⟩ | ⟨_, _, _, h1, _⟩
      · have h1 : lateOf S (knownOf ds) = none := h1
        rw [hp] at h1; cases h1
      · cases h1
    have hc2 : c = .lst ((ch.map prP).map .sh) := by
      rcases hc with ⟨h1, _⟩ | ⟨p2, h2, ch2, h1, CO2⟩
      · cases h1
      · have h2 : lateOf S (knownOf ds) = some p2 := h2
        rw [hp] at h2
        cases h2
        have h4 : ch2 = ch := CO2.det.trans CO.det.symm
        rw [Option.some.inj h1, h4, ece]
    subst hc2
    refine ⟨dc, DE.pt (xs := ch.map prP) (by rw [List.getElem?_append_right (Nat.le_refl _), Nat.sub_self]; rfl) hdc.pd (by decide), hdc.ok, hdc.noDict, depc, hzc, ev_name 12, _, rfl, ?_⟩
    rw [decide_eq_true rfl]
    refine q _ ?_ ?_
    · refine hX2.trans ⟨by simp, fun i h1 h2 h3 => ?_⟩
      rw [List.getElem?_append_left (by simp; omega), List.getElem?_set_ne (by omega), List.getElem?_append_left h1]
    · exact ((((s2.app _).set (by omega) (by omega) _).app _).mono (by omega))
  · rw [if_neg hneg] at hlc
    have hlate : lateOf S (knownOf ds) = none := Classical.byContradiction fun z => hneg (hlt.mpr z)
    refine tss_cons (tsp_parN ["_law_was", "_law_due"] [7, 8] nd (tap_consV (ev_repr hr B.repr (ev_name 6) (DE.sh hd2.pd (by decide)) hd2.ok hd2.noDict dep2 hz2) (tap_consV (ev_if (x := .sh (.dT (ddP tb))) (d := decide (0 ≤ minL (tb.map (·.2) ++ [0]))) (et_ge (ev_min rfl B.min (ns := tb.map (·.2) ++ [0]) ((ev_cat (xs := (ddP tb).map (·.2)) (ys := [.int 0]) (fun Q q => tep_listVals (ps := (ddP tb).map (·.2)) B.list ((ev_name 5) _ ⟨(ddP tb).map fun q => (q.1, .sh q.2), .inl ⟨ddP tb, rfl, rfl⟩, by rw [List.map_map, List.map_map]; rfl, q⟩)) (ev_lst (eas_cons ev_int eas_nil)) (by unfold ddP; simp; omega)).is (by rw [lv])) (by simp)) ev_int)
      (fun _ => ev_name 5) fun h => absurd (mins_pos hneg) (of_decide_eq_false h)) (tap_nil ⟨rfl, ?_⟩))))
    -- the latest starts as they are told: a dict that changes later
    let j1 := μ2.length
    refine tss_cons (tsp_setP 9 nd (tep_callO (d := some (.dT (ddE tb))) cLat (hr.mono (by decide)) (eas_cons (ev_name 3) (eas_cons (ev_name 6) eas_nil)) ⟨C, n, as, ord, ls, x2, ds, L, rfl, NO, DO2, hLL, by rw [hlc]; rfl⟩ (fun h => nomatch h) fun c hc => ?_))
    cases hc
    have hj1 : (μ2 ++ [some (Cell.dT (ddE tb))])[j1]? = some (some (.dT (ddE tb))) := by rw [List.getElem?_append_right (Nat.le_refl _), Nat.sub_self]; rfl
    have shp5 : Shape 5 (.lst [.dT (ddP tb)]) := .sq (.inl rfl) (by show 1 ≤ 90000; decide) fun a ha => by rw [List.mem_singleton.mp ha]; exact .dT (n := 0) tb (by omega)
    refine tss_cons (tsp_if (TWP.t (twp_or (ttp_not (ttp_val (tep_lock hj1 fun o ks => tep_lend (cSame 5) (hr.mono (by decide)) (tap_cons (tep_lstC (tap_consV (ev_name 9) (tap_nil ⟨by show 1 ≤ 100000; decide, tap_consV (ev_lst (ys := [.dT (ddP tb)]) (eas_cons (ev_name 8) eas_nil)) (tap_nil ⟨[.lst [.dT (ddP tb)], .lst [.dT (ddP tb)]], .bl true, ?_, ⟨_, rfl, shp5, rfl⟩, rfl, ?_, true, rfl, ?_⟩)⟩))))))))))
    · refine .cons (Lend.lst (zs := [.pt j1]) (by rw [List.getElem?_append_right (Nat.le_refl _), Nat.sub_self]; rfl) rfl fun i z x h1 h2 => ?_) (.cons (.sh _) .nil)
      cases i with
      | zero =>
        simp at h1 h2
        subst h1
        subst h2
        refine Lend.lkS (o := o) (ks := ks) ?_
        rw [List.getElem?_append_left (by rw [List.length_set]; exact (List.getElem?_eq_some_iff.mp hj1).1), List.getElem?_set_self (List.getElem?_eq_some_iff.mp hj1).1, ← ddE_P]
      | succ i => simp at h1
    · rw [List.getElem?_append_left (by rw [List.length_set]; exact (List.getElem?_eq_some_iff.mp hj1).1), List.getElem?_set_self (List.getElem?_eq_some_iff.mp hj1).1]
    rw [relock hj1, if_neg (by decide)]
    refine twp_or1 ((et_neS (ev_repr hr B.repr (ev_name 6) (DE.sh hd2.pd (by decide)) hd2.ok hd2.noDict dep2 hz2) (ev_name 7)) _ ?_)
    rw [if_neg (by simp)]
    refine tss_nil ?_
    -- no chain
    refine tss_cons (tsp_setP 10 nd (tep_callI cLate (hr.mono (by decide)) ⟨C, n, as, ord, ls, S, x2, ds⟩ (eas_cons (ev_name 3) (eas_cons (ev_name 6) eas_nil)) ⟨rfl, NO, hSL, DO2⟩ (fun _ => ?_) fun c hc => ?_))
    case refine_2 =>
      rcases hc with ⟨h1, _⟩ | ⟨p2, h2, _⟩
      · cases h1
      · have h2 : lateOf S (knownOf ds) = some p2 := h2
        rw [hlate] at h2
        cases h2
    refine tss_cons (tsp_ifE (d := false) (et_w (ew_or (p := false) (r := false) ((et_neB (i := true) (j := true) (ev_isN (x := .sh .non) (ev_name 10)) (ev_notN (x := .sh (.dT (ddP tb))) (ev_name 8))).is (by simp)) fun _ => ew_or1 (et_w (ew_and (p := false) (r := false) (et_notN (x := .sh .non) (ev_name 10)) fun h => nomatch h)))) (fun h => nomatch h) fun _ => tss_nil ?_)
    let sl : DD := tb.map fun r => (r.1, r.2 - S r.1.1 r.1.2)
    generalize hμ4 : μ2 ++ [some (Cell.dT (ddE tb))] ++ [some (Cell.lst [PV.E.pt j1])] = μ4
    have hj14 : μ4[j1]? = some (some (.dT (ddE tb))) := by
      rw [← hμ4, List.getElem?_append_left (by simp; exact Nat.lt_succ_self _)]
      exact hj1
    have hl4 : μ4.length = μ2.length + 2 := by rw [← hμ4]; simp
    have hX4 : Ext2 js jc μ2 μ4 := by
      rw [← hμ4, List.append_assoc]
      exact Ext2.app _ _ _ _
    have s4 : StrAt js jc (N + lcost 2 + lcost 2) μ4 := by
      rw [← hμ4, List.append_assoc]
      exact s2.app _
    refine tss_cons (tsp_par2A 11 12 nd (tap_cons (tep_callO (d := some (.dT (ddE sl))) cSl (hr.mono (by decide)) (eas_cons (ev_name 3) (eas_cons (ev_name 2) eas_nil)) ⟨C, n, as, ord, ls, _, ds, L, S, rfl, NO, DO0, hLL, hSL, by rw [hlc]; rfl⟩ (fun h => nomatch h) fun c hc => tap_consV (ev_repr hr B.repr (ev_name 10) (DE.sh (n := 0) (d := .none) (.non 0) (by decide)) rfl rfl (by decide) (by decide)) (tap_nil ⟨_, _, rfl, ?_⟩))))
    cases hc
    have hj2 : (μ4 ++ [some (Cell.dT (ddE sl))])[μ4.length]? = some (some (.dT (ddE sl))) := by rw [List.getElem?_append_right (Nat.le_refl _), Nat.sub_self]; rfl
    have hj15 : (μ4 ++ [some (Cell.dT (ddE sl))])[j1]? = some (some (.dT (ddE tb))) := by rw [List.getElem?_append_left (by omega)]; exact hj14
    refine tss_cons (tsp_ifE (d := false) (et_isN (x := .sh (.dT (ddP tb))) (ev_name 8)) (fun h => nomatch h) fun _ => tss_nil ?_)
    have ndsl : ((ddP sl).map (·.1)).Nodup := by
      rw [ddP_keys]
      refine List.pairwise_map.mpr ?_
      show (List.map _ (tb.map _)).Pairwise _
      rw [List.map_map]
      exact htn.imp fun {a b} h z => h (prK_inj a b z)
    refine tss_cons (tsp_if (ttp_not (ttp_val (tep_lock hj2 fun o ks => tep_lend (cSame 4) (hr.mono (by decide)) (tap_consV (ev_name 11) (tap_consV (ev_dictT (kvs := ddP sl) hu64 B.dict ((ev_lc0 tb (fun r => prP r.1) (fun r => [some (.pt js), some (.sh (lnetP n as)), some (.sh (.lst (ds.map dueP))), some (.sh (netP C n as ord ls)), some (.sh (tabP n S 26)), some (.sh (.dT (ddP tb))), some (.sh x2), some (.sh (.str d2.shown)), some (.sh (.dT (ddP tb))), some (.pt j1), some (.sh .non), some (.pt μ4.length), some (.sh (.str (PyData.shown .none))), some (.sh (prP r.1))])
      (fun r => .tup [prP r.1, .int (r.2 - S r.1.1 r.1.2)]) [13] [("_law_pair", 13)] rfl nd (blkOk_by (by kernel_rfl)) (ei_keysT (ev_name 8)) (by omega) (fun a _ => tgb_name 13 nd (by decide) rfl rfl) (fun r hr2 s H C cl fp => ?_) ?_).is ?_) ndsl) (tap_nil ⟨[.dT (ddP sl), .dT (ddP sl)], .bl true, .cons (Lend.lkS (o := o) (ks := ks) ?_) (.cons (.sh _) .nil), ⟨_, rfl, .dT (n := 0) sl ?_, rfl⟩, rfl, ?_, true, rfl, ?_⟩)))))))
    · obtain ⟨h1, h2, _⟩ := htm r hr2
      exact ev_tup (ys := [prP r.1, .int (r.2 - S r.1.1 r.1.2)]) (eas_cons (ev_name 13) (eas_cons (ev_sub (ev_dgetT (k := prK r.1) (y := .int r.2) hu (ev_name 8) (ev_name 13) (by rw [ddP_get, dget_of_mem htn hr2]; rfl)) (ev_tab h1 h2 (ev_name 4) (ev_ixT (xs := [.int (r.1.1 : Nat), .int (r.1.2 : Nat)]) (ev_name 13) ev_int rfl) (ev_ixT (xs := [.int (r.1.1 : Nat), .int (r.1.2 : Nat)]) (ev_name 13) ev_int rfl))) eas_nil)) (Nat.le_of_ble_eq_true rfl)
    · unfold ddP
      rw [List.map_map]
      rfl
    · show _ = PV.E.sh (.lst ((ddP (tb.map _)).map _))
      unfold ddP
      rw [List.map_map, List.map_map]
      rfl
    · rw [List.getElem?_set_self (List.getElem?_eq_some_iff.mp hj2).1, ← ddE_P]
    · show (tb.map _).length ≤ 90000
      rw [List.length_map]
      omega
    · rw [List.getElem?_set_self (List.getElem?_eq_some_iff.mp hj2).1]
    rw [relock0 hj2, if_neg (by decide)]
    refine tss_nil ?_
    -- what was told is new: it may be changed
    refine tss_cons (tsp_dputT hu (ev_int _ ((ev_name 9) _ ((ev_tup (ys := [.str "late", .int 0]) (eas_cons ev_str (eas_cons ev_int eas_nil))) _ ⟨j1, ddE tb, [.inr "late", .inl 0], rfl, rfl, hj15, by rw [ddE_len]; omega, ?_⟩))))
    refine tss_cons (tsp_dputT hu (ev_int _ ((ev_name 11) _ ((ev_tup (ys := [.str "late", .int 0]) (eas_cons ev_str (eas_cons ev_int eas_nil))) _ ⟨μ4.length, ddE sl, [.inr "late", .inl 0], rfl, rfl, ?_, ?_, ?_⟩))))
    · rw [List.getElem?_set_ne (by show μ2.length ≠ μ4.length; omega)]
      exact hj2
    · rw [ddE_len]
      show (tb.map _).length < 100000
      rw [List.length_map]
      omega
    generalize hμ6 : ((μ4 ++ [some (Cell.dT (ddE sl))]).set j1 (some (Cell.dT (dput (ddE tb) [.inr "late", .inl 0] (.sh (.int 1)))))).set μ4.length (some (Cell.dT (dput (ddE sl) [.inr "late", .inl 0] (.sh (.int 1))))) = μ6
    have hl6 : μ6.length = μ4.length + 1 := by rw [← hμ6]; simp
    have hj6 : μ6[μ4.length]? = some (some (.dT (dput (ddE sl) [.inr "late", .inl 0] (.sh (.int 1))))) := by
      rw [← hμ6, List.getElem?_set_self (by simp)]
    have s6 : StrAt js jc (N + lcost 2 + lcost 2) μ6 := by
      rw [← hμ6]
      exact ((s4.app _).set (by show μ2.length ≠ js; omega) (by show μ2.length ≠ jc; omega) _).set (by omega) (by omega) _
    have hX6 : Ext2 js jc μ2 μ6 := ⟨by omega, fun i h1 h2 h3 => by
      rw [← hμ6, List.getElem?_set_ne (by omega), List.getElem?_set_ne (by show μ2.length ≠ i; omega), List.getElem?_append_left (by omega)]
      exact hX4.at_ i h1 h2 h3⟩
    have hnew : (dput (ddE sl) [.inr "late", .inl 0] (PV.E.sh (.int 1))).length = tb.length + 1 := by
      rw [dput_new, ddE_len]
      · show (tb.map _).length + 1 = _
        rw [List.length_map]
      · cases h : dget (ddE sl) [.inr "late", .inl 0] with
        | none => rfl
        | some v =>
          have h1 := dget_mem h
          unfold ddE at h1
          obtain ⟨r, _, h2⟩ := List.mem_map.mp h1
          cases (Prod.mk.inj h2).1
    refine tss_one (tsp_ret (tep_call (cSame 5) (hr.mono (by decide)) (tap_cons (tep_lst (tap_cons (tep_shareT (tep_callO (d := some (.dT (ddE tb))) cLat (hr.mono (by decide)) (eas_cons (ev_name 3) (eas_cons (ev_name 2) eas_nil)) ⟨C, n, as, ord, ls, _, ds, L, rfl, NO, DO0, hLL, by rw [hlc]; rfl⟩ (fun h => nomatch h) fun c hc => .inr ?_)))))))
    cases hc
    refine ⟨μ6.length, ddP tb, rfl, by rw [List.getElem?_append_right (Nat.le_refl _), Nat.sub_self, ← ddE_P]; rfl, ?_⟩
    refine tap_cons (tep_eqDn hu (tep_callO (d := some (.dT (ddE sl))) cSl (hr.mono (by decide)) (eas_cons (ev_name 3) (eas_cons (ev_name 2) eas_nil)) ⟨C, n, as, ord, ls, _, ds, L, S, rfl, NO, DO0, hLL, hSL, by rw [hlc]; rfl⟩ (fun h => nomatch h) fun c hc => (ev_name 11) _ ?_))
    cases hc
    refine ⟨ddE sl, dput (ddE sl) [.inr "late", .inl 0] (.sh (.int 1)), .inr ⟨_, rfl, by rw [List.getElem?_append_right (Nat.le_refl _), Nat.sub_self]; rfl⟩, .inr ⟨μ4.length, rfl, ?_⟩, ?_, ?_⟩
    · rw [List.getElem?_append_left (by rw [List.length_set]; simp <;> omega), List.getElem?_set_ne (by omega), List.getElem?_append_left (by omega)]
      exact hj6
    · rw [hnew, ddE_len]
      show (tb.map _).length ≠ _
      rw [List.length_map]
      omega
    refine tap_nil ⟨[.dT (ddP tb), .bl false], rfl, by show 2 ≤ 100000; decide, tap_consV (ev_lst (ys := [.dT (ddP tb), .bl false]) (eas_cons (ev_name 8) (eas_cons ev_bl eas_nil))) (tap_nil ⟨[.lst [.dT (ddP tb), .bl false], .lst [.dT (ddP tb), .bl false]], .bl true, rfl, ⟨_, rfl, .sq (.inl rfl) (by show 2 ≤ 90000; decide) (fun a ha => ?_), rfl⟩, q _ ?_ ?_⟩)⟩
    · simp only [List.mem_cons, List.not_mem_nil, or_false] at ha
      rcases ha with rfl | rfl
      · exact .dT (n := 0) tb (by omega)
      · exact .bl _ _
    · refine (hX2.trans hX6).trans ⟨by simp <;> omega, fun i h1 h2 h3 => ?_⟩
      rw [List.getElem?_append_left (by rw [List.length_set]; simp <;> omega), List.getElem?_set_ne (by omega), List.getElem?_append_left h1]
    · exact (((s6.app _).set (by omega) (by omega) _).app _).mono (by omega)
end
end PV

namespace PV
open PySem PySem.Spec PyProof.Rows L2
def S_law : PSpec := fun xs μ Q => ∃ ns : List Int, xs = [.sh (.scr (ns.map .int))] ∧ ns.length ≤ 1000 ∧ ∀ μ', Q (.sh (.bl true)) μ'
section
variable {Pr : Program} {w : World} {K : PySem.W.Frag} {mg : Str → Option Value} {base : Heap} {f : Addr} {fd : FuncData} {C : Addr}
theorem sc_law : FnScope ["_law_script", "_law_stream", "_law_turn", "_law_net", "_law_dues", "_law_twice", "_law_event", "_law_k", "_law_tick"] ["_law_script"] (defScope s_law) := ⟨rfl, rfl, rfl, by decide +kernel, rfl, by decide +kernel, by decide +kernel⟩
theorem c_law (F : FnP K "law" "law" s_law f fd) (hm : mg "law" = some (.ref f)) (B : Bl mg) (cSt : Ct true Pr w K mg base 1 "_law_start" S_start) (cNet : Ct true Pr w K mg base 3 "_law_n_net" S_net) (cPick : Ct true Pr w K mg base 2 "_law_pick" S_pick) (cDues : Ct true Pr w K mg base 3 "_law_n_dues" S_ndues)
    (cR : Ct true Pr w K mg base 8 "_law_dues_right" S_dues_right) : Ct true Pr w K mg base 9 "law" S_law := by
  refine ct_of F hm sc_law (fun _ _ _ _ _ _ us hl => match us, hl with | [_], _ => rfl) (by rintro _ _ _ ⟨ns, rfl, _⟩; rfl) fun cdv A outer s H E hr xs μ Q hQ => ?_
  obtain ⟨ns, rfl, hns, q⟩ := hQ
  have nd := sc_law.nd
  refine tss_cons (tsp_setP 1 nd (tep_call cSt (hr.mono (by decide)) (tap_consV (ev_name 0) (tap_nil ⟨ns, rfl, hns, fun μ0 s0 _ _ => ?_⟩))))
  let js := μ.length + 1
  let jc := μ.length
  let R : Option PV.E → Option PV.E → Option PV.E → Option PV.E → Rho := fun a b c d => [some (.sh (.scr (ns.map .int))), some (.pt js), a, b, c, d, none, none, none]
  refine tss_cons (tsp_forL (List.range 6) (fun i => .int (i : Nat)) [2] (fun i ρ2 μ2 => (∃ a b c d, ρ2 = R a b c d) ∧ StrAt js jc (i * 300000) μ2) (ei_range1 (n := 6) B.range ev_int (by decide)) ⟨⟨none, none, none, none, rfl⟩, s0⟩ ?_ ?_)
  · rintro i i' ρ2 μ2 hi ⟨⟨a, b, c, tw0, rfl⟩, s2⟩
    obtain ⟨hi6, rfl⟩ := List.getElem?_eq_some_iff.mp hi
    rw [List.getElem_range]
    simp only [List.length_range] at hi6
    refine tgp_name 2 ?_ (by decide) nd rfl (.inl rfl) (.inl rfl)
    refine tss_cons (tsp_setP 3 nd (tep_call cNet (hr.mono (by decide)) (tap_consV (ev_name 1) (tap_consV ev_int (tap_nil ⟨js, jc, _, 7, rfl, s2, by omega, by decide, fun n as or μ3 D x3 s3 => ?_⟩)))))
    have hpick : ∀ {y : P}, y ∈ [9, 9, 9, 26].map P.int → ∃ m : Nat, 1 ≤ m ∧ m ≤ 26 ∧ y = .int (m : Nat) := fun {y} hy => by
      simp only [List.map_cons, List.map_nil, List.mem_cons, List.not_mem_nil, or_false] at hy
      rcases hy with rfl | rfl | rfl | rfl
      · exact ⟨9, by decide, by decide, rfl⟩
      · exact ⟨9, by decide, by decide, rfl⟩
      · exact ⟨9, by decide, by decide, rfl⟩
      · exact ⟨26, by decide, by decide, rfl⟩
    obtain ⟨ord, ho1, ho⟩ := drawn_ord D
    obtain ⟨S, hS⟩ := sol_ex ho (drawn_inn D)
    have NI := drawn_netI D ho hS
    refine tss_cons (tsp_setP 4 nd (tep_call cDues (hr.mono (by decide)) (tap_consV (ev_name 1) (tap_consV (ev_name 3) (tap_cons (tep_pick cPick (hr.mono (by decide)) (ys := [9, 9, 9, 26].map P.int) (ev_name 1) (ev_lst (eas_cons ev_int (eas_cons ev_int (eas_cons ev_int (eas_cons ev_int eas_nil))))) s3 (by omega) (by decide) (by decide) fun y μ4 hy b4 s4 => tap_nil ?_))))))
    obtain ⟨m, hm1, hm2, rfl⟩ := hpick hy
    refine ⟨js, jc, _, n, as, m, ord, S, rfl, NI, hm1, by omega, s4, by omega, fun ds μ5 hds hdl x5 s5 => ?_⟩
    have hcut : cutP (ds.map dueP) none (some 1) = (ds.take (min 1 (ds.map dueP).length)).map dueP := by rw [show (some 1 : Option Int) = some ((1 : Nat) : Int) from rfl, cut_hi, List.map_take]
    generalize hd1 : ds.take (min 1 (ds.map dueP).length) = d1 at hcut
    have hd1m : ∀ d ∈ d1, d ∈ ds := fun d hd => List.mem_of_mem_take (by rw [hd1]; exact hd)
    have hd1l : d1.length ≤ 40 := by
      have := List.length_take_le' (min 1 (ds.map dueP).length) ds
      rw [hd1] at this
      omega
    let up : Due → Due := fun d => (d.1, d.2.1, d.2.2 + 3)
    refine tss_cons (tsp_setL0 5 d1 dueP (fun d => [some (.sh (.scr (ns.map .int))), some (.pt js), some (.sh (.int (i : Nat))), some (.sh (lnetP n as)), some (.sh (.lst (ds.map dueP))), tw0, some (.sh (.int (d.1 : Nat))), some (.sh (.int (d.2.1 : Nat))), some (.sh (.int (d.2.2 : Nat)))]) (fun x => dueP (up x)) [6, 7, 8] [("_law_event", 6), ("_law_k", 7), ("_law_tick", 8)] nd (blkOk_by (by kernel_rfl))
      ((ei_list ((ev_slice (lo := none) (hi := some _) (i := none) (j := some 1) (ev_name 4) trivial ev_int).is (by rw [hcut])))) (by omega) (fun x _ => tgb_tup ["_law_event", "_law_k", "_law_tick"] [6, 7, 8] nd (xs := dueL x) (.inr rfl)) (fun x _ s H C cl fp => ev_tup (ys := dueL (up x)) (eas_cons (ev_name 6) (eas_cons (ev_name 7) (eas_cons ((ev_addN (j := 3) (ev_name 8) ev_int)) eas_nil))) (Nat.le_of_ble_eq_true rfl)) ?_)
    have htw : d1.map (fun x => dueP (up x)) = (d1.map up).map dueP := by rw [List.map_map]; rfl
    rw [htw]
    have hall : ∀ d, d ∈ ds ∨ d ∈ d1.map up → d.1 < n ∧ d.2.1 < 26 ∧ d.2.2 ≤ 400 := fun d hd => by
      rcases hd with hd | hd
      · obtain ⟨h1, h2, h3⟩ := hds d hd
        exact ⟨h1, by omega, by omega⟩
      · obtain ⟨e, he, rfl⟩ := List.mem_map.mp hd
        obtain ⟨h1, h2, h3⟩ := hds e (hd1m e he)
        exact ⟨h1, by show e.2.1 < 26; omega, by show e.2.2 + 3 ≤ 400; omega⟩
    refine tss_cons (tsp_if (ttp_not (ttp_val (tep_call cR hr (tap_consV (ev_name 1) (tap_consV (ev_name 3) (tap_cons (tep_pick cPick (hr.mono (by decide)) (ys := [.lst ((ds ++ d1.map up).map dueP), .lst ((d1.map up ++ ds).map dueP)]) (ev_name 1) (ev_lst (eas_cons ((ev_cat (ev_name 4) (ev_name 5) (by simp; omega)).is (by rw [List.map_append])) (eas_cons ((ev_cat (ev_name 5) (ev_name 4) (by simp; omega)).is (by rw [List.map_append])) eas_nil))) s5 (by omega) (by show 0 < 2; decide) (by show 2 < 1000; decide) fun y μ6 hy b6 s6 => tap_nil ?_))))))))
    obtain ⟨dd, hdd, hddl, rfl⟩ : ∃ dd : List Due, (∀ d ∈ dd, d.1 < n ∧ d.2.1 < 26 ∧ d.2.2 ≤ 400) ∧ dd.length ≤ 100 ∧ y = .lst (dd.map dueP) := by
      simp only [List.mem_cons, List.not_mem_nil, or_false] at hy
      rcases hy with rfl | rfl
      · exact ⟨ds ++ d1.map up, fun d hd => hall d (List.mem_append.mp hd), by simp; omega, rfl⟩
      · exact ⟨d1.map up ++ ds, fun d hd => hall d (List.mem_append.mp hd).symm, by simp; omega, rfl⟩
    refine ⟨js, jc, _, n, as, or, dd, rfl, D, hdd, hddl, s6, by omega, fun μ7 x7 s7 => ⟨true, rfl, ?_⟩⟩
    rw [if_neg (by decide)]
    refine tss_nil ?_
    refine tss_one (tsp_if (TWP.t (twp_and ((et_eqI (ev_name 2) ev_int) _ ?_))))
    by_cases h0 : decide ((i : Int) = 0) = true
    · rw [if_pos h0]
      refine twp_and1 (ttp_not (ttp_val (tep_call cR hr (tap_consV (ev_name 1) (tap_consV (ev_name 3) (tap_consV (ev_lst (ys := []) eas_nil) (tap_nil ⟨js, jc, _, n, as, or, [], rfl, D, fun d hd => (by cases hd), by decide, s7, by omega, fun μ8 x8 s8 => ⟨true, rfl, ?_⟩⟩)))))))
      rw [if_neg (by decide)]
      exact tss_nil ⟨⟨_, _, _, _, rfl⟩, s8.mono (by omega)⟩
    · rw [if_neg h0, if_neg (by decide)]
      exact tss_nil ⟨⟨_, _, _, _, rfl⟩, s7.mono (by omega)⟩
  · rintro ρ2 μ2 ⟨⟨a, b, c, d, rfl⟩, s2⟩
    exact tss_one (tsp_retV ev_bl (q _))
end
end PV

namespace HB
open PySem PySem.Spec PyProof.Rows L2
abbrev RL : PySem.W.OpenLaw := PySem.Challenge.rw_anyload_k81_whole_latest_plans
def fn0 : List He.DefD := [
  ⟨("is_list", none), "is_list", "is_list", defArgs (PV.top 4), defBody (PV.top 4), defScope (PV.top 4), [], []⟩,
  ⟨("is_whole", none), "is_whole", "is_whole", defArgs (PV.top 5), defBody (PV.top 5), defScope (PV.top 5), [], []⟩,
  ⟨("is_number", none), "is_number", "is_number", defArgs (PV.top 6), defBody (PV.top 6), defScope (PV.top 6), [], []⟩,
  ⟨("is_positive", none), "is_positive", "is_positive", defArgs (PV.top 7), defBody (PV.top 7), defScope (PV.top 7), [], []⟩,
  ⟨("check_number", none), "check_number", "check_number", defArgs (PV.top 8), defBody (PV.top 8), defScope (PV.top 8), [], []⟩,
  ⟨("are_numbers", none), "are_numbers", "are_numbers", defArgs (PV.top 16), defBody (PV.top 16), defScope (PV.top 16), [], []⟩,
  ⟨("is_arc", none), "is_arc", "is_arc", defArgs (PV.top 17), defBody (PV.top 17), defScope (PV.top 17), [], []⟩,
  ⟨("checked_arcs", none), "checked_arcs", "checked_arcs", defArgs (PV.top 18), defBody (PV.top 18), defScope (PV.top 18), [], []⟩,
  ⟨("longer_ways", none), "longer_ways", "longer_ways", defArgs (PV.top 19), defBody (PV.top 19), defScope (PV.top 19), [], []⟩,
  ⟨("rings_of", none), "rings_of", "rings_of", defArgs (PV.top 20), defBody (PV.top 20), defScope (PV.top 20), [], []⟩,
  ⟨("order_of", none), "order_of", "order_of", defArgs (PV.top 21), defBody (PV.top 21), defScope (PV.top 21), [], []⟩,
  ⟨("Net", some "__init__"), "__init__", "Net.__init__", defArgs (inClass (PV.top 22) 0), defBody (inClass (PV.top 22) 0), defScope (inClass (PV.top 22) 0), [], []⟩,
  ⟨("Net", some "events"), "events", "Net.events", defArgs (inClass (PV.top 22) 1), defBody (inClass (PV.top 22) 1), defScope (inClass (PV.top 22) 1), [], []⟩,
  ⟨("Net", some "arcs"), "arcs", "Net.arcs", defArgs (inClass (PV.top 22) 2), defBody (inClass (PV.top 22) 2), defScope (inClass (PV.top 22) 2), [], []⟩,
  ⟨("Net", some "__eq__"), "__eq__", "Net.__eq__", defArgs (inClass (PV.top 22) 3), defBody (inClass (PV.top 22) 3), defScope (inClass (PV.top 22) 3), [], []⟩,
  ⟨("check_event", none), "check_event", "check_event", defArgs (PV.top 24), defBody (PV.top 24), defScope (PV.top 24), [], []⟩,
  ⟨("table_of", none), "table_of", "table_of", defArgs (PV.top 25), defBody (PV.top 25), defScope (PV.top 25), [], []⟩,
  ⟨("chain_of", none), "chain_of", "chain_of", defArgs (PV.top 27), defBody (PV.top 27), defScope (PV.top 27), [], []⟩,
  ⟨("checked_dues", none), "checked_dues", "checked_dues", defArgs (PV.top 29), defBody (PV.top 29), defScope (PV.top 29), [], []⟩,
  ⟨("latest_of", none), "latest_of", "latest_of", defArgs (PV.top 30), defBody (PV.top 30), defScope (PV.top 30), [], []⟩]
def fn1 : List He.DefD := [
  ⟨("latest", none), "latest", "latest", defArgs (PV.top 31), defBody (PV.top 31), defScope (PV.top 31), [], []⟩,
  ⟨("starts_for", none), "starts_for", "starts_for", defArgs (PV.top 32), defBody (PV.top 32), defScope (PV.top 32), [], []⟩,
  ⟨("late_chain", none), "late_chain", "late_chain", defArgs (PV.top 33), defBody (PV.top 33), defScope (PV.top 33), [], []⟩,
  ⟨("slack", none), "slack", "slack", defArgs (PV.top 34), defBody (PV.top 34), defScope (PV.top 34), [], []⟩,
  ⟨("_law_start", none), "_law_start", "_law_start", defArgs (PV.top 36), defBody (PV.top 36), defScope (PV.top 36), [], []⟩,
  ⟨("_law_draw", none), "_law_draw", "_law_draw", defArgs (PV.top 37), defBody (PV.top 37), defScope (PV.top 37), [], []⟩,
  ⟨("_law_pick", none), "_law_pick", "_law_pick", defArgs (PV.top 38), defBody (PV.top 38), defScope (PV.top 38), [], []⟩,
  ⟨("_law_mixed", none), "_law_mixed", "_law_mixed", defArgs (PV.top 39), defBody (PV.top 39), defScope (PV.top 39), [], []⟩,
  ⟨("_law_same", none), "_law_same", "_law_same", defArgs (PV.top 40), defBody (PV.top 40), defScope (PV.top 40), [], []⟩,
  ⟨("_law_loose", none), "_law_loose", "_law_loose", defArgs (PV.top 41), defBody (PV.top 41), defScope (PV.top 41), [], []⟩,
  ⟨("_law_n_net", none), "_law_n_net", "_law_n_net", defArgs (PV.top 42), defBody (PV.top 42), defScope (PV.top 42), [], []⟩,
  ⟨("_law_n_links", none), "_law_n_links", "_law_n_links", defArgs (PV.top 43), defBody (PV.top 43), defScope (PV.top 43), [], []⟩,
  ⟨("_law_n_table", none), "_law_n_table", "_law_n_table", defArgs (PV.top 44), defBody (PV.top 44), defScope (PV.top 44), [], []⟩,
  ⟨("_law_n_asked", none), "_law_n_asked", "_law_n_asked", defArgs (PV.top 45), defBody (PV.top 45), defScope (PV.top 45), [], []⟩,
  ⟨("_law_n_chain", none), "_law_n_chain", "_law_n_chain", defArgs (PV.top 46), defBody (PV.top 46), defScope (PV.top 46), [], []⟩,
  ⟨("_law_n_dues", none), "_law_n_dues", "_law_n_dues", defArgs (PV.top 47), defBody (PV.top 47), defScope (PV.top 47), [], []⟩,
  ⟨("_law_n_latest", none), "_law_n_latest", "_law_n_latest", defArgs (PV.top 48), defBody (PV.top 48), defScope (PV.top 48), [], []⟩,
  ⟨("_law_is_late", none), "_law_is_late", "_law_is_late", defArgs (PV.top 49), defBody (PV.top 49), defScope (PV.top 49), [], []⟩,
  ⟨("_law_dues_right", none), "_law_dues_right", "_law_dues_right", defArgs (PV.top 50), defBody (PV.top 50), defScope (PV.top 50), [], []⟩,
  ⟨("law", none), "law", "law", defArgs (PV.top 51), defBody (PV.top 51), defScope (PV.top 51), [], []⟩]
def fn : List He.DefD := fn0 ++ fn1
def fa0 : List He.Fa := [.glo "LoadError", .glo "BadNumber", .glo "is_list", .glo "is_whole", .glo "is_number", .glo "is_positive", .glo "check_number", .glo "BadDues", .glo "BadMany", .glo "BadArc", .glo "Stuck", .glo "NoEvent", .glo "are_numbers", .glo "is_arc", .glo "checked_arcs", .glo "longer_ways", .glo "rings_of", .glo "order_of", .glo "Net", .glo "check_event", .glo "table_of", .glo "chain_of", .glo "checked_dues", .glo "latest_of", .glo "latest", .glo "starts_for", .glo "late_chain", .glo "slack", .glo "_law_start", .glo "_law_draw"]
def fa1 : List He.Fa := [.glo "_law_pick", .glo "_law_mixed", .glo "_law_same", .glo "_law_loose", .glo "_law_n_net", .glo "_law_n_links", .glo "_law_n_table", .glo "_law_n_asked", .glo "_law_n_chain", .glo "_law_n_dues", .glo "_law_n_latest", .glo "_law_is_late", .glo "_law_dues_right", .glo "law", .free "ValueError", .free "all", .free "any", .free "bool", .free "dict", .free "enumerate", .free "int", .free "isinstance", .free "len", .free "list", .free "max", .free "min", .free "range", .free "repr", .free "sorted", .free "sum"]
def fa2 : List He.Fa := [.free "super", .free "tuple", .free "zip", .cls "Net", .mkr "Net", .meth "Net" "events", .meth "Net" "arcs", .meth "Net" "__eq__", .noat "Net" "many", .noat "Net" "own_arcs", .noat "Net" "order", .noat "Net" "links", .noat "Net" "kept"]
def fa : List He.Fa := fa0 ++ fa1 ++ fa2
def lo0 : List PySem.Str := ["LoadError", "BadNumber", "is_list", "is_whole", "is_number", "is_positive", "check_number", "BadDues", "BadMany", "BadArc", "Stuck", "NoEvent", "are_numbers", "is_arc", "checked_arcs", "longer_ways", "rings_of", "order_of", "Net", "check_event", "table_of", "chain_of", "checked_dues", "latest_of", "latest", "starts_for", "late_chain", "slack", "_law_start", "_law_draw"]
def lo1 : List PySem.Str := ["_law_pick", "_law_mixed", "_law_same", "_law_loose", "_law_n_net", "_law_n_links", "_law_n_table", "_law_n_asked", "_law_n_chain", "_law_n_dues", "_law_n_latest", "_law_is_late", "_law_dues_right"]
def lo : List PySem.Str := lo0 ++ lo1
abbrev R : PySem.W.OpenRow := PySem.W.OpenLaw.row RL
abbrev hk : PySem.W.Hook := He.hookD 6 fa fn
def ob (s : PySem.W.SharedT) : He.AlD := He.obsDG 6 fa fn (HandSHeadRun.getT s)
theorem ob_eq (s : PySem.W.SharedT) : ob s = hk.obs s.abs := He.obsDG_eq (HandSHeadRun.getT_eq s)
theorem run (w : World) : HandSHeadRun.RunEq R (PySem.W.view R.prog [51]) hk ob 3400 lo w := by
  intro os
  kernel_rfl
end HB


namespace PV
open PySem PySem.Spec PyProof.Rows L2
theorem facts81 {P : Program} {w : World} {K : PySem.W.Frag} {h : Heap} {mg : Str → Option Value} (X : K.In h) (G : h.Ns mainGlobals mg) (c : He.SaysD HB.fa HB.fn K) (base : Heap) : Ct true P w K mg base 9 "law" S_law := by
  have g_is_list := He.glo_ok X G (c.fact 2 (f := .glo "is_list") rfl)
  obtain ⟨d_is_list, F_is_list_⟩ := c.def_ 0 rfl
  have g_is_whole := He.glo_ok X G (c.fact 3 (f := .glo "is_whole") rfl)
  obtain ⟨d_is_whole, F_is_whole_⟩ := c.def_ 1 rfl
  have g_is_number := He.glo_ok X G (c.fact 4 (f := .glo "is_number") rfl)
  obtain ⟨d_is_number, F_is_number_⟩ := c.def_ 2 rfl
  have g_is_positive := He.glo_ok X G (c.fact 5 (f := .glo "is_positive") rfl)
  obtain ⟨d_is_positive, F_is_positive_⟩ := c.def_ 3 rfl
  have g_check_number := He.glo_ok X G (c.fact 6 (f := .glo "check_number") rfl)
  obtain ⟨d_check_number, F_check_number_⟩ := c.def_ 4 rfl
  have g_are_numbers := He.glo_ok X G (c.fact 12 (f := .glo "are_numbers") rfl)
  obtain ⟨d_are_numbers, F_are_numbers_⟩ := c.def_ 5 rfl
  have g_is_arc := He.glo_ok X G (c.fact 13 (f := .glo "is_arc") rfl)
  obtain ⟨d_is_arc, F_is_arc_⟩ := c.def_ 6 rfl
  have g_checked_arcs := He.glo_ok X G (c.fact 14 (f := .glo "checked_arcs") rfl)
  obtain ⟨d_checked_arcs, F_checked_arcs_⟩ := c.def_ 7 rfl
  have g_order_of := He.glo_ok X G (c.fact 17 (f := .glo "order_of") rfl)
  obtain ⟨d_order_of, F_order_of_⟩ := c.def_ 10 rfl
  obtain ⟨d_Net___init__, F_Net___init__⟩ := c.def_ 11 rfl
  have g_check_event := He.glo_ok X G (c.fact 19 (f := .glo "check_event") rfl)
  obtain ⟨d_check_event, F_check_event_⟩ := c.def_ 15 rfl
  have g_table_of := He.glo_ok X G (c.fact 20 (f := .glo "table_of") rfl)
  obtain ⟨d_table_of, F_table_of_⟩ := c.def_ 16 rfl
  have g_chain_of := He.glo_ok X G (c.fact 21 (f := .glo "chain_of") rfl)
  obtain ⟨d_chain_of, F_chain_of⟩ := c.def_ 17 rfl
  have g_checked_dues := He.glo_ok X G (c.fact 22 (f := .glo "checked_dues") rfl)
  obtain ⟨d_checked_dues, F_checked_dues_⟩ := c.def_ 18 rfl
  have g_latest_of := He.glo_ok X G (c.fact 23 (f := .glo "latest_of") rfl)
  obtain ⟨d_latest_of, F_latest_of_⟩ := c.def_ 19 rfl
  have g_latest := He.glo_ok X G (c.fact 24 (f := .glo "latest") rfl)
  obtain ⟨d_latest, F_latest_⟩ := c.def_ 20 rfl
  have g_starts_for := He.glo_ok X G (c.fact 25 (f := .glo "starts_for") rfl)
  obtain ⟨d_starts_for, F_starts_for_⟩ := c.def_ 21 rfl
  have g_late_chain := He.glo_ok X G (c.fact 26 (f := .glo "late_chain") rfl)
  obtain ⟨d_late_chain, F_late_chain⟩ := c.def_ 22 rfl
  have g_slack := He.glo_ok X G (c.fact 27 (f := .glo "slack") rfl)
  obtain ⟨d_slack, F_slack_⟩ := c.def_ 23 rfl
  have g__law_start := He.glo_ok X G (c.fact 28 (f := .glo "_law_start") rfl)
  obtain ⟨d__law_start, F__law_start⟩ := c.def_ 24 rfl
  have g__law_draw := He.glo_ok X G (c.fact 29 (f := .glo "_law_draw") rfl)
  obtain ⟨d__law_draw, F__law_draw⟩ := c.def_ 25 rfl
  have g__law_pick := He.glo_ok X G (c.fact 30 (f := .glo "_law_pick") rfl)
  obtain ⟨d__law_pick, F__law_pick⟩ := c.def_ 26 rfl
  have g__law_mixed := He.glo_ok X G (c.fact 31 (f := .glo "_law_mixed") rfl)
  obtain ⟨d__law_mixed, F__law_mixed⟩ := c.def_ 27 rfl
  have g__law_same := He.glo_ok X G (c.fact 32 (f := .glo "_law_same") rfl)
  obtain ⟨d__law_same, F__law_same⟩ := c.def_ 28 rfl
  have g__law_loose := He.glo_ok X G (c.fact 33 (f := .glo "_law_loose") rfl)
  obtain ⟨d__law_loose, F__law_loose⟩ := c.def_ 29 rfl
  have g__law_n_net := He.glo_ok X G (c.fact 34 (f := .glo "_law_n_net") rfl)
  obtain ⟨d__law_n_net, F__law_n_net⟩ := c.def_ 30 rfl
  have g__law_n_links := He.glo_ok X G (c.fact 35 (f := .glo "_law_n_links") rfl)
  obtain ⟨d__law_n_links, F__law_n_links⟩ := c.def_ 31 rfl
  have g__law_n_table := He.glo_ok X G (c.fact 36 (f := .glo "_law_n_table") rfl)
  obtain ⟨d__law_n_table, F__law_n_table⟩ := c.def_ 32 rfl
  have g__law_n_asked := He.glo_ok X G (c.fact 37 (f := .glo "_law_n_asked") rfl)
  obtain ⟨d__law_n_asked, F__law_n_asked⟩ := c.def_ 33 rfl
  have g__law_n_chain := He.glo_ok X G (c.fact 38 (f := .glo "_law_n_chain") rfl)
  obtain ⟨d__law_n_chain, F__law_n_chain⟩ := c.def_ 34 rfl
  have g__law_n_dues := He.glo_ok X G (c.fact 39 (f := .glo "_law_n_dues") rfl)
  obtain ⟨d__law_n_dues, F__law_n_dues⟩ := c.def_ 35 rfl
  have g__law_n_latest := He.glo_ok X G (c.fact 40 (f := .glo "_law_n_latest") rfl)
  obtain ⟨d__law_n_latest, F__law_n_latest⟩ := c.def_ 36 rfl
  have g__law_is_late := He.glo_ok X G (c.fact 41 (f := .glo "_law_is_late") rfl)
  obtain ⟨d__law_is_late, F__law_is_late⟩ := c.def_ 37 rfl
  have g__law_dues_right := He.glo_ok X G (c.fact 42 (f := .glo "_law_dues_right") rfl)
  obtain ⟨d__law_dues_right, F__law_dues_right⟩ := c.def_ 38 rfl
  have g_law := He.glo_ok X G (c.fact 43 (f := .glo "law") rfl)
  obtain ⟨d_law, F_law⟩ := c.def_ 39 rfl
  have B : Bl mg := ⟨He.free_ok X G (c.fact 52 (f := .free "len") rfl), He.free_ok X G (c.fact 53 (f := .free "list") rfl), He.free_ok X G (c.fact 61 (f := .free "tuple") rfl), He.free_ok X G (c.fact 56 (f := .free "range") rfl), He.free_ok X G (c.fact 49 (f := .free "enumerate") rfl), He.free_ok X G (c.fact 62 (f := .free "zip") rfl), He.free_ok X G (c.fact 58 (f := .free "sorted") rfl), He.free_ok X G (c.fact 54 (f := .free "max") rfl), He.free_ok X G (c.fact 55 (f := .free "min") rfl), He.free_ok X G (c.fact 59 (f := .free "sum") rfl), He.free_ok X G (c.fact 45 (f := .free "all") rfl), He.free_ok X G (c.fact 46 (f := .free "any") rfl), He.free_ok X G (c.fact 51 (f := .free "isinstance") rfl), He.free_ok X G (c.fact 50 (f := .free "int") rfl), He.free_ok X G (c.fact 47 (f := .free "bool") rfl), He.free_ok X G (c.fact 48 (f := .free "dict") rfl), He.free_ok X G (c.fact 57 (f := .free "repr") rfl)⟩
  have gNet := He.glo_ok X G (c.fact 18 (f := .glo "Net") rfl)
  have NC : NetC K (He.ga K "Net") := ⟨He.cls_ok (c.fact 63 (f := .cls "Net") rfl), He.noat_ok (c.fact 68 (f := .noat "Net" "many") rfl), He.noat_ok (c.fact 69 (f := .noat "Net" "own_arcs") rfl), He.noat_ok (c.fact 70 (f := .noat "Net" "order") rfl), He.noat_ok (c.fact 71 (f := .noat "Net" "links") rfl), He.noat_ok (c.fact 72 (f := .noat "Net" "kept") rfl)⟩
  have MN := He.mkr_ok (c.fact 64 (f := .mkr "Net") rfl)
  -- the program's defs
  have c_il : ∀ g, Ct g P w K mg base 1 "is_list" (SF F_is_list) := fun g => c_is_list F_is_list_ g_is_list B
  have c_iw : ∀ g, Ct g P w K mg base 1 "is_whole" (SF F_is_whole) := fun g => c_is_whole F_is_whole_ g_is_whole B
  have c_in : ∀ g, Ct g P w K mg base 2 "is_number" (SF F_is_number) := fun g => c_is_number F_is_number_ g_is_number (c_iw g)
  have c_ip : ∀ g, Ct g P w K mg base 2 "is_positive" (SF F_is_positive) := fun g => c_is_positive F_is_positive_ g_is_positive (c_iw g)
  have c_cn : ∀ g, Ct g P w K mg base 3 "check_number" (SF F_check_number) := fun g => c_check_number F_check_number_ g_check_number (c_in g)
  have c_an : ∀ g, Ct g P w K mg base 3 "are_numbers" (SF F_are_numbers) := fun g => c_are_numbers F_are_numbers_ g_are_numbers B (c_il g) (c_in g)
  have c_ia : ∀ g, Ct g P w K mg base 4 "is_arc" (SF F_is_arc) := fun g => c_is_arc F_is_arc_ g_is_arc (c_an g)
  have c_ca : ∀ g, Ct g P w K mg base 5 "checked_arcs" (SF F_checked_arcs) := fun g => c_checked_arcs F_checked_arcs_ g_checked_arcs B (c_il g) (c_ia g)
  have c_oo : ∀ g, Ct g P w K mg base 1 "order_of" (SF F_order_of) := fun g => c_order_of F_order_of_ g_order_of B
  have cN := c_net (Pr := P) (w := w) (base := base) MN F_Net___init__ gNet B NC (c_ip false) (c_ca false) (c_oo false)
  have c_ce : ∀ g, Ct g P w K mg base 3 "check_event" (SF (F_check_event K)) := fun g => c_check_event F_check_event_ g_check_event (c_in g)
  have c_to : ∀ g, Ct g P w K mg base 1 "table_of" (SF (F_table_of K)) := fun g => c_table_of F_table_of_ g_table_of B
  have c_co : ∀ g, Ct g P w K mg base 4 "chain_of" (SOi (P_chain K) Q_chain) := fun g => c_chain_of F_chain_of g_chain_of B (c_ce g) (c_cn g) (c_to g)
  have c_cd : ∀ g, Ct g P w K mg base 4 "checked_dues" (SF (F_checked_dues K)) := fun g => c_checked_dues F_checked_dues_ g_checked_dues B (c_il g) (c_an g)
  have c_lo : ∀ g, Ct g P w K mg base 1 "latest_of" (SO (F_latest_of K)) := fun g => c_latest_of F_latest_of_ g_latest_of B
  have c_la : ∀ g, Ct g P w K mg base 5 "latest" (SO (F_latest K)) := fun g => c_latest F_latest_ g_latest B (c_cd g) (c_lo g)
  have c_sf : ∀ g, Ct g P w K mg base 2 "starts_for" (SF (F_starts_for K)) := fun g => c_starts_for F_starts_for_ g_starts_for B (c_to g)
  have c_lc : ∀ g, Ct g P w K mg base 5 "late_chain" (SOi (P_late K) Q_late) := fun g => c_late_chain F_late_chain g_late_chain B (c_cd g) (c_sf g) (c_co g)
  have c_sl : ∀ g, Ct g P w K mg base 6 "slack" (SO (F_slack K)) := fun g => c_slack F_slack_ g_slack B (c_la g) (c_sf g)
  -- the law's own
  have l_st : Ct true P w K mg base 1 "_law_start" S_start := c_law_start F__law_start g__law_start B
  have l_dr : Ct true P w K mg base 1 "_law_draw" S_draw := c_law_draw F__law_draw g__law_draw B
  have l_pi : Ct true P w K mg base 2 "_law_pick" S_pick := c_law_pick F__law_pick g__law_pick B l_dr
  have l_mi : Ct true P w K mg base 2 "_law_mixed" S_mixed := c_law_mixed F__law_mixed g__law_mixed B l_dr
  have l_nn : Ct true P w K mg base 3 "_law_n_net" S_net := c_law_n_net F__law_n_net g__law_n_net B l_dr l_pi l_mi
  have l_nl : Ct true P w K mg base 1 "_law_n_links" (SF F_law_n_links) := c_law_n_links F__law_n_links g__law_n_links B
  have l_na : Ct true P w K mg base 2 "_law_n_asked" (SF F_law_n_asked) := c_law_n_asked F__law_n_asked g__law_n_asked B l_nl
  have l_nc : Ct true P w K mg base 3 "_law_n_chain" (SF F_law_n_chain) := c_law_n_chain F__law_n_chain g__law_n_chain B l_na
  have l_lo : ∀ d, Ct true P w K mg base (d + 2) "_law_loose" (S_loose d) := c_law_loose F__law_loose g__law_loose B l_dr
  have l_nt : Ct true P w K mg base 2 "_law_n_table" (SF F_law_n_table) := c_law_n_table F__law_n_table g__law_n_table B l_nl
  have l_nd : Ct true P w K mg base 3 "_law_n_dues" S_ndues := c_law_n_dues F__law_n_dues g__law_n_dues B l_dr l_pi l_nt
  have l_ll : Ct true P w K mg base 2 "_law_n_latest" (SF F_law_n_latest) := c_law_n_latest F__law_n_latest g__law_n_latest B l_nl
  have l_sa : ∀ d, Ct true P w K mg base (d + 1) "_law_same" (SF (F_same d)) := c_law_same F__law_same g__law_same B
  have l_il : Ct true P w K mg base 4 "_law_is_late" (SF F_law_is_late) := c_law_is_late F__law_is_late g__law_is_late B l_nc
  have l_dd : Ct true P w K mg base 8 "_law_dues_right" S_dues_right := c_law_dues_right F__law_dues_right g__law_dues_right B NC cN l_lo l_nt l_ll (c_la true) l_sa (c_lc true) l_il (c_sl true)
  exact c_law F_law g_law B l_st l_nn l_pi l_nd l_dd
end PV
open PySem PySem.W PySem.Calls PyProof.Rows
theorem PySem.Challenge.cw_anyload_k81_whole_latest_plans_holds : PySem.Challenge.rw_anyload_k81_whole_latest_plans.Holds := by
  w_on; o_law
  refine HandSHeadRun.head_any (r := HB.R) (q := view HB.R.prog [51]) (H := HB.hk) (ob := HB.ob) (M := 3400) (loose := HB.lo) (d := HandSHeadRun.topDef HB.R.prog 51) (kwd := []) HB.ob_eq
    (by kernel_rfl) (fun s => by kernel_rfl) HB.run (by kernel_rfl) (by kernel_rfl) (by kernel_rfl) (by rfl) (by first | assumption | decide +kernel) (by decide +kernel) ⟨rfl, rfl, rfl, rfl, rfl, by decide +kernel⟩ ?hw ?hc
  case hw => w_witness2
  case hc =>
    refine PV.walk_ofG (l := HB.RL) (n := 63) (k := 9) (S := PV.S_law) rfl (by decide) (by kernel_rfl) ⟨rfl, by decide, by decide⟩ (fun w mg fa h Y G hmg => ?_) fun ns hl => ⟨ns, rfl, Nat.le_trans hl (by decide), fun _ => rfl⟩
    obtain ⟨K, KX, c⟩ := Y
    have en : (HandSHeadRun.topDef HB.R.prog 51).name = ("law" : PySem.Str) := by kernel_rfl
    rw [en]
    exact ⟨K, KX, fun base _ _ => PV.facts81 KX G c base⟩
