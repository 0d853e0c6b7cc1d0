import PyProof.Rows.All
import HandS.ForMost
import HandS.ForExc
import HandS.TupAny
import HandS.TupMul
import HandS.Zip
import HandS.SetFor
import HandS.Flow
import HandS.Conv
import HandS.SortInts
import HandS.Strs
import HandS.Style
import KE.DataEq
import HandS.IsInst
import HandS.Codes
import KE.KTupSum
import HandS.WordsExc
import HandS.Ends
import PyProof.P3Eq
import PySem.Challenge.RW_lastsecret_k53_whole_known_early
set_option Elab.async false
set_option linter.all false
set_option maxRecDepth 100000
set_option maxHeartbeats 16000000
set_option autoImplicit false
/-! Dx0: data as trees, a heap of lists by number, how they lie in the abstract heap of HandS. -/
namespace Dx
open PySem PySem.Spec PyProof.Rows L2

inductive D where
  | non
  | bl (b : Bool)
  | int (i : Int)
  | str (x : Str)
  | tup (xs : List D)
  | loc (l : Nat)
  | ty (n : String)

inductive O where
  | lst (xs : List D)
  | ro (xs : List D)

abbrev HA := List O

inductive R (α : Type) where
  | ok (a : α) (h : HA)
  | ex (c : Nat) (w : D) (h : HA)
  | bad

abbrev M (α : Type) := HA → R α
def M.pure {α : Type} (a : α) : M α := fun h => .ok a h
def M.bind {α β : Type} (x : M α) (f : α → M β) : M β := fun h =>
  match x h with
  | .ok a h' => f a h'
  | .ex c w h' => .ex c w h'
  | .bad => .bad
def M.bad {α : Type} : M α := fun _ => .bad

/-! ### trees in the abstract heap -/
mutual
inductive RV (K : PySem.W.Frag) (m : List Addr) (H : Hp) : D → V → Prop
  | non : RV K m H .non .non
  | bl (b : Bool) : RV K m H (.bl b) (.bl b)
  | int (i : Int) : RV K m H (.int i) (.int i)
  | str (x : Str) : RV K m H (.str x) (.str x)
  | tup {a : Addr} {xs : List D} {vs : List V} : SqT K H a vs → RVs K m H xs vs → RV K m H (.tup xs) (.ref a)
  | loc {l : Nat} {a : Addr} : m[l]? = some a → RV K m H (.loc l) (.ref a)
  | ty (n : String) : RV K m H (.ty n) (.ty n)
inductive RVs (K : PySem.W.Frag) (m : List Addr) (H : Hp) : List D → List V → Prop
  | nil : RVs K m H [] []
  | cons {d : D} {ds : List D} {v : V} {vs : List V} : RV K m H d v → RVs K m H ds vs → RVs K m H (d :: ds) (v :: vs)
end

/-- a list of the text itself -/
def Sta (K : PySem.W.Frag) (a : Addr) (xs : List V) : Prop :=
  ∃ (o : Obj) (its : Array Value) (n : Nat), K.lookup a = some o ∧ o.cls = .type "list" ∧ o.dict = none ∧ o.data = .seq its n ∧ its.size ≤ sizeLine ∧ Vals xs its.toList

structure Ext (K : PySem.W.Frag) (m : List Addr) (H : Hp) (m' : List Addr) (H' : Hp) : Prop where
  pre : ∀ (l : Nat) (a : Addr), m[l]? = some a → m'[l]? = some a
  tup : ∀ (a : Addr) (vs : List V), SqT K H a vs → SqT K H' a vs

section
variable {K : PySem.W.Frag} {m m' m2 : List Addr} {H H' H2 : Hp}
theorem Ext.refl : Ext K m H m H := ⟨fun _ _ e => e, fun _ _ e => e⟩
theorem Ext.trans (a : Ext K m H m' H') (b : Ext K m' H' m2 H2) : Ext K m H m2 H2 :=
  ⟨fun l x e => b.pre l x (a.pre l x e), fun x vs e => b.tup x vs (a.tup x vs e)⟩
mutual
theorem RV.ext (x : Ext K m H m' H') : ∀ {d : D} {v : V}, RV K m H d v → RV K m' H' d v
  | _, _, .non => .non
  | _, _, .bl b => .bl b
  | _, _, .int i => .int i
  | _, _, .str z => .str z
  | _, _, .tup s r => .tup (x.tup _ _ s) (RVs.ext x r)
  | _, _, .loc e => .loc (x.pre _ _ e)
  | _, _, .ty n => .ty n
theorem RVs.ext (x : Ext K m H m' H') : ∀ {d : List D} {v : List V}, RVs K m H d v → RVs K m' H' d v
  | _, _, .nil => .nil
  | _, _, .cons a b => .cons (RV.ext x a) (RVs.ext x b)
end
theorem RVs.len : ∀ {ds : List D} {vs : List V}, RVs K m H ds vs → vs.length = ds.length
  | _, _, .nil => rfl
  | _, _, .cons _ r => by
    show _ + 1 = _ + 1
    rw [RVs.len r]
theorem RVs.get : ∀ {ds : List D} {vs : List V} (i : Nat) {d : D}, RVs K m H ds vs → ds[i]? = some d → ∃ v, vs[i]? = some v ∧ RV K m H d v
  | _, _, _, _, .nil, e => nomatch e
  | _, _, 0, _, .cons r _, e => ⟨_, rfl, (Option.some.inj e) ▸ r⟩
  | _, _, i + 1, _, .cons _ r, e => RVs.get i r e
theorem RVs.get' : ∀ {ds : List D} {vs : List V} (i : Nat) {v : V}, RVs K m H ds vs → vs[i]? = some v → ∃ d, ds[i]? = some d ∧ RV K m H d v
  | _, _, _, _, .nil, e => nomatch e
  | _, _, 0, _, .cons r _, e => ⟨_, rfl, (Option.some.inj e) ▸ r⟩
  | _, _, i + 1, _, .cons _ r, e => RVs.get' i r e
theorem RVs.app : ∀ {ds : List D} {vs : List V} {es : List D} {ws : List V}, RVs K m H ds vs → RVs K m H es ws → RVs K m H (ds ++ es) (vs ++ ws)
  | _, _, _, _, .nil, s => s
  | _, _, _, _, .cons r t, s => .cons r (RVs.app t s)
theorem RVs.take : ∀ {ds : List D} {vs : List V} (n : Nat), RVs K m H ds vs → RVs K m H (ds.take n) (vs.take n)
  | _, _, 0, _ => .nil
  | _, _, _ + 1, .nil => .nil
  | _, _, n + 1, .cons r t => .cons r (RVs.take n t)
theorem RVs.drop : ∀ {ds : List D} {vs : List V} (n : Nat), RVs K m H ds vs → RVs K m H (ds.drop n) (vs.drop n)
  | _, _, 0, s => s
  | _, _, _ + 1, .nil => .nil
  | _, _, n + 1, .cons _ t => RVs.drop n t
theorem RVs.set {d : D} {v : V} (q : RV K m H d v) : ∀ {ds : List D} {vs : List V} (n : Nat), RVs K m H ds vs → RVs K m H (ds.set n d) (vs.set n v)
  | _, _, _, .nil => .nil
  | _, _, 0, .cons _ t => .cons q t
  | _, _, n + 1, .cons r t => .cons r (RVs.set q n t)
theorem RVs.erase : ∀ {ds : List D} {vs : List V} (n : Nat), RVs K m H ds vs → RVs K m H (ds.eraseIdx n) (vs.eraseIdx n)
  | _, _, _, .nil => .nil
  | _, _, 0, .cons _ t => t
  | _, _, n + 1, .cons r t => .cons r (RVs.erase n t)
theorem RVs.rep : ∀ {ds : List D} {vs : List V} (n : Nat), RVs K m H ds vs → RVs K m H (List.replicate n ds).flatten (List.replicate n vs).flatten
  | _, _, 0, _ => .nil
  | _, _, n + 1, r => by
    rw [List.replicate_succ, List.replicate_succ, List.flatten_cons, List.flatten_cons]
    exact RVs.app r (RVs.rep n r)
theorem RVs.dropLast : ∀ {ds : List D} {vs : List V}, RVs K m H ds vs → RVs K m H ds.dropLast vs.dropLast := fun {ds vs} r => by
  rw [List.dropLast_eq_take, List.dropLast_eq_take, r.len]
  exact r.take _
theorem RVs.rev : ∀ {ds : List D} {vs : List V}, RVs K m H ds vs → RVs K m H ds.reverse vs.reverse
  | _, _, .nil => .nil
  | _, _, .cons r t => by
    rw [List.reverse_cons, List.reverse_cons]
    exact RVs.app (RVs.rev t) (.cons r .nil)
theorem RVs.ints : ∀ {ns : List Int} {vs : List V}, RVs K m H (ns.map D.int) vs → vs = ns.map V.int
  | [], _, .nil => rfl
  | n :: ns, _, .cons (.int _) r => by
    rw [RVs.ints r]
    rfl
theorem RVs.ofInts : ∀ (ns : List Int), RVs K m H (ns.map D.int) (ns.map V.int)
  | [] => .nil
  | n :: ns => .cons (.int n) (RVs.ofInts ns)

/-! ### the lists -/
def RO (K : PySem.W.Frag) (m : List Addr) (H : Hp) (a : Addr) : O → Prop
  | .lst xs => ∃ vs, H a = some (.lst vs) ∧ RVs K m H xs vs
  | .ro xs => ∃ vs, SqL K H a vs ∧ RVs K m H xs vs

/-- a list of the text itself, as it lies there -/
def RoS (K : PySem.W.Frag) (m : List Addr) (H : Hp) (a : Addr) (o : Option O) : Prop := ∃ xs vs, o = some (.ro xs) ∧ Sta K a vs ∧ RVs K m H xs vs
structure Rel (K : PySem.W.Frag) (m : List Addr) (H : Hp) (h : HA) : Prop where
  len : m.length = h.length
  dist : ∀ (l l' : Nat) (a : Addr), m[l]? = some a → m[l']? = some a → l ≠ l' → RoS K m H a h[l]? ∨ RoS K m H a h[l']?
  at_ : ∀ (l : Nat) (a : Addr) (o : O), m[l]? = some a → h[l]? = some o → RO K m H a o

theorem RoS.ext {a : Addr} {o : Option O} (x : Ext K m H m' H') (s : RoS K m H a o) : RoS K m' H' a o :=
  let ⟨xs, vs, e, q, r⟩ := s
  ⟨xs, vs, e, q, r.ext x⟩
theorem sqL_upd {p a : Addr} {o : HO} {vs : List V} (hp : H p = none ∨ a ≠ p) (s : SqL K H a vs) : SqL K (upd H p o) a vs := by
  rcases s with (e | ⟨x, e⟩) | s
  · have ne : a ≠ p := hp.elim (fun z => ne_of_none e z) id
    exact .inl (.inl (by rw [upd_ne ne]; exact e))
  · have ne : a ≠ p := hp.elim (fun z => ne_of_none e z) id
    exact .inl (.inr ⟨x, by rw [upd_ne ne]; exact e⟩)
  · exact .inr s
theorem sqT_upd {p a : Addr} {o : HO} {vs : List V} (hp : H p = none ∨ ∃ xs, H p = some (.lst xs)) (s : SqT K H a vs) : SqT K (upd H p o) a vs := by
  rcases s with (e | ⟨x, e⟩) | s
  · have ne : a ≠ p := hp.elim (fun z => ne_of_none e z) fun ⟨xs, z⟩ => ne_of e z (by intro q; cases q)
    exact .inl (.inl (by rw [upd_ne ne]; exact e))
  · have ne : a ≠ p := hp.elim (fun z => ne_of_none e z) fun ⟨xs, z⟩ => ne_of e z (by intro q; cases q)
    exact .inl (.inr ⟨x, by rw [upd_ne ne]; exact e⟩)
  · exact .inr s
theorem ext_upd {p : Addr} {o : HO} (hp : H p = none ∨ ∃ xs, H p = some (.lst xs)) : Ext K m H m (upd H p o) := ⟨fun _ _ e => e, fun _ _ s => sqT_upd hp s⟩
theorem ext_app {p : Addr} : Ext K m H (m ++ [p]) H := ⟨fun l a e => by
  have hl : l < m.length := (List.getElem?_eq_some_iff.mp e).1
  rw [List.getElem?_append_left hl]; exact e, fun _ _ s => s⟩

theorem RO.upd {p a : Addr} {o : HO} {x : O} (hp : H p = none ∨ (∃ xs, H p = some (.lst xs)) ∧ a ≠ p) (s : RO K m H a x) : RO K m (upd H p o) a x := by
  have hp' : H p = none ∨ ∃ xs, H p = some (.lst xs) := hp.imp id (·.1)
  have hp2 : H p = none ∨ a ≠ p := hp.imp id (·.2)
  cases x with
  | lst xs =>
    obtain ⟨vs, e, r⟩ := s
    have ne : a ≠ p := hp2.elim (fun z => ne_of_none e z) id
    exact ⟨vs, by rw [upd_ne ne]; exact e, r.ext (ext_upd hp')⟩
  | ro xs =>
    obtain ⟨vs, e, r⟩ := s
    exact ⟨vs, sqL_upd hp2 e, r.ext (ext_upd hp')⟩
theorem RO.ext_m {a : Addr} {x : O} (e : Ext K m H m' H) (s : RO K m H a x) : RO K m' H a x := by
  cases x with
  | lst xs => obtain ⟨vs, q, r⟩ := s; exact ⟨vs, q, r.ext e⟩
  | ro xs => obtain ⟨vs, q, r⟩ := s; exact ⟨vs, q, r.ext e⟩

/-- a new object that is no list of ours (a tuple) -/
theorem Rel.fresh {h : HA} {p : Addr} {o : HO} (r : Rel K m H h) (hp : H p = none) : Rel K m (upd H p o) h :=
  ⟨r.len, fun l l' a e1 e2 ne => (r.dist l l' a e1 e2 ne).imp (RoS.ext (ext_upd (.inl hp))) (RoS.ext (ext_upd (.inl hp))), fun l a x e1 e2 => (r.at_ l a x e1 e2).upd (.inl hp)⟩
theorem get_lt {α : Type} {l : List α} {i : Nat} {x : α} (e : l[i]? = some x) : i < l.length := (List.getElem?_eq_some_iff.mp e).1
theorem app_last {α : Type} {l : List α} {x y : α} {i : Nat} (c : ¬ i < l.length) (e : (l ++ [x])[i]? = some y) : i = l.length ∧ y = x := by
  have h1 : i < (l ++ [x]).length := get_lt e
  rw [List.length_append] at h1
  have : i = l.length := by simp at h1; omega
  subst this
  rw [List.getElem?_append_right (Nat.le_refl _)] at e
  simp at e
  exact ⟨rfl, e.symm⟩
/-- a new list -/
theorem Rel.alloc {h : HA} {p : Addr} {xs : List D} {vs : List V} (r : Rel K m H h) (hp : H p = none) (q : RVs K m H xs vs) : Rel K (m ++ [p]) (upd H p (.lst vs)) (h ++ [.lst xs]) := by
  have hx : Ext K m H (m ++ [p]) (upd H p (.lst vs)) := (ext_upd (.inl hp)).trans ext_app
  refine ⟨by rw [List.length_append, List.length_append, r.len]; rfl, ?_, ?_⟩
  · intro l l' a e1 e2 ne
    have old : ∀ {l : Nat}, m[l]? = some p → RoS K (m ++ [p]) (L2.upd H p (.lst vs)) p h[l]? := fun {l} e => by
      have hl : l < h.length := r.len ▸ get_lt e
      obtain ⟨o, eo⟩ : ∃ o, h[l]? = some o := ⟨h[l], List.getElem?_eq_getElem hl⟩
      have s := r.at_ l p o e eo
      cases o with
      | lst ys => obtain ⟨ws, q, _⟩ := s; rw [hp] at q; cases q
      | ro ys =>
        obtain ⟨ws, q, rr⟩ := s
        rcases q with (z | ⟨_, z⟩) | z
        · rw [hp] at z; cases z
        · rw [hp] at z; cases z
        · exact ⟨ys, ws, eo, z, rr.ext hx⟩
    by_cases c1 : l < m.length
    · rw [List.getElem?_append_left c1] at e1
      by_cases c2 : l' < m.length
      · rw [List.getElem?_append_left c2] at e2
        rw [List.getElem?_append_left (r.len ▸ c1), List.getElem?_append_left (r.len ▸ c2)]
        exact (r.dist l l' a e1 e2 ne).imp (RoS.ext hx) (RoS.ext hx)
      · obtain ⟨_, rfl⟩ := app_last c2 e2
        rw [List.getElem?_append_left (r.len ▸ c1)]
        exact .inl (old e1)
    · obtain ⟨el, rfl⟩ := app_last c1 e1
      by_cases c2 : l' < m.length
      · rw [List.getElem?_append_left c2] at e2
        refine .inr ?_
        rw [List.getElem?_append_left (r.len ▸ c2)]
        exact old e2
      · obtain ⟨el', _⟩ := app_last c2 e2
        exact absurd (el.trans el'.symm) ne
  · intro l a o e1 e2
    by_cases c1 : l < m.length
    · rw [List.getElem?_append_left c1] at e1
      rw [List.getElem?_append_left (r.len ▸ c1)] at e2
      exact ((r.at_ l a o e1 e2).upd (.inl hp)).ext_m ext_app
    · obtain ⟨el, rfl⟩ := app_last c1 e1
      obtain ⟨_, rfl⟩ := app_last (r.len ▸ c1) e2
      exact ⟨vs, upd_same, q.ext hx⟩
theorem Rel.get {h : HA} {l : Nat} {a : Addr} {xs : List D} (r : Rel K m H h) (e : m[l]? = some a) (e2 : h[l]? = some (.lst xs)) : ∃ vs, H a = some (.lst vs) ∧ RVs K m H xs vs := r.at_ l a _ e e2
/-- a list is changed -/
theorem Rel.write {h : HA} {l : Nat} {p : Addr} {xs ys : List D} {vs : List V} (r : Rel K m H h) (e : m[l]? = some p) (e2 : h[l]? = some (.lst xs)) (q : RVs K m H ys vs) : Rel K m (upd H p (.lst vs)) (h.set l (.lst ys)) := by
  obtain ⟨ws, hw, _⟩ := r.get e e2
  have hl : l < h.length := get_lt e2
  have hx : Ext K m H m (L2.upd H p (.lst vs)) := ext_upd (.inr ⟨ws, hw⟩)
  have key : ∀ {i : Nat} {a : Addr}, RoS K m H a h[i]? → RoS K m (L2.upd H p (.lst vs)) a (h.set l (.lst ys))[i]? := fun {i a} ⟨zs, us, q, s, t⟩ => by
    have : i ≠ l := fun z => by subst z; rw [e2] at q; cases q
    rw [List.getElem?_set_ne (Ne.symm this)]
    exact ⟨zs, us, q, s, t.ext hx⟩
  refine ⟨by rw [List.length_set]; exact r.len, fun i j a e1 e3 ne => (r.dist i j a e1 e3 ne).imp key key, ?_⟩
  intro i a o e1 e3
  by_cases c : i = l
  · subst c
    rw [e] at e1; cases e1
    rw [List.getElem?_set_self hl] at e3; cases e3
    exact ⟨vs, upd_same, q.ext hx⟩
  · rw [List.getElem?_set_ne (Ne.symm c)] at e3
    by_cases ha : a = p
    · subst ha
      rcases r.dist i l a e1 e c with ⟨zs, us, q', s, t⟩ | ⟨zs, us, q', s, t⟩
      · rw [e3] at q'; cases q'
        exact ⟨us, .inr s, t.ext hx⟩
      · rw [e2] at q'; cases q'
    · exact (r.at_ i a o e1 e3).upd (.inr ⟨⟨ws, hw⟩, ha⟩)
theorem Rel.ro {h : HA} {l : Nat} {a : Addr} {xs : List D} (r : Rel K m H h) (e : m[l]? = some a) (e2 : h[l]? = some (.lst xs) ∨ h[l]? = some (.ro xs)) : ∃ vs, SqL K H a vs ∧ RVs K m H xs vs := by
  rcases e2 with e2 | e2
  · obtain ⟨vs, q, s⟩ := r.get e e2
    exact ⟨vs, SqL.of q, s⟩
  · exact r.at_ l a _ e e2
end
end Dx

/-! Dx1: what a functional reading wants: Post; readings of expressions, tests, argument lists; how they are put together. -/
namespace Dx
open PySem PySem.Spec PyProof.Rows L2

abbrev Env' := List (Option D)
abbrev Wh := Value → Option Addr → Hp → Prop

section
variable (K : PySem.W.Frag) (cl : Nat → Value)
def Post {α β : Type} (ra : List Addr → Hp → α → β → Prop) (m : List Addr) (H : Hp) (r : R α) (Q : β → Hp → Prop) (W : Wh) : Prop :=
  match r with
  | .ok a h' => ∀ m' H' b, Ext K m H m' H' → Rel K m' H' h' → ra m' H' a b → Q b H'
  | .ex c w h' => ∀ m' H' e v, Ext K m H m' H' → Rel K m' H' h' → H' e = some (.xd [("what", v)]) → RV K m' H' w v → W (cl c) (some e) H'
  | .bad => False
structure REnv (m : List Addr) (H : Hp) (ρ : Env') (σ : L2.St) : Prop where
  len : ρ.length = σ.length
  at_ : ∀ (i : Nat) (d : D), ρ[i]? = some (some d) → ∃ v, σ[i]? = some (some v) ∧ RV K m H d v
/-- a reading by a function of the environment -/
def tG {α β : Type} (ra : List Addr → Hp → α → β → Prop) (W : Wh) (f : Env' → M α) : L2.St → Hp → (β → Hp → Prop) → Prop :=
  fun σ H Q => ∃ m ρ h, REnv K m H ρ σ ∧ Rel K m H h ∧ Post K cl ra m H (f ρ h) Q W
abbrev tE (W : Wh) (f : Env' → M D) : TE := tG K cl (RV K) W f
def RB : List Addr → Hp → Bool → Bool → Prop := fun _ _ a b => a = b
abbrev tT (W : Wh) (f : Env' → M Bool) : TT := tG K cl RB W f
abbrev tA (W : Wh) (f : Env' → M (List D)) : TA := tG K cl (RVs K) W f
end

section
variable {K : PySem.W.Frag} {cl : Nat → Value} {α β γ δ : Type} {ra : List Addr → Hp → α → β → Prop} {rc : List Addr → Hp → γ → δ → Prop} {m m1 : List Addr} {H H1 : Hp} {W : Wh}
theorem REnv.ext {ρ : Env'} {σ : L2.St} (x : Ext K m H m1 H1) (r : REnv K m H ρ σ) : REnv K m1 H1 ρ σ :=
  ⟨r.len, fun i d e => let ⟨v, a, b⟩ := r.at_ i d e; ⟨v, a, b.ext x⟩⟩
theorem REnv.set {ρ : Env'} {σ : L2.St} {i : Nat} {d : D} {v : V} (r : REnv K m H ρ σ) (q : RV K m H d v) : REnv K m H (ρ.set i (some d)) (σ.set i (some v)) := by
  refine ⟨by rw [List.length_set, List.length_set]; exact r.len, fun j e he => ?_⟩
  by_cases c : i = j
  · subst c
    have hl : i < ρ.length := by
      have := get_lt he
      rw [List.length_set] at this
      exact this
    rw [List.getElem?_set_self hl] at he
    cases he
    exact ⟨v, by rw [List.getElem?_set_self (r.len ▸ hl)], q⟩
  · rw [List.getElem?_set_ne c] at he
    obtain ⟨u, a, b⟩ := r.at_ j e he
    exact ⟨u, by rw [List.getElem?_set_ne c]; exact a, b⟩
theorem REnv.clear {ρ : Env'} {σ : L2.St} {i : Nat} (r : REnv K m H ρ σ) : REnv K m H (ρ.set i none) (σ.set i none) := by
  refine ⟨by rw [List.length_set, List.length_set]; exact r.len, fun j e he => ?_⟩
  by_cases c : i = j
  · subst c
    have hl : i < ρ.length := by
      have := get_lt he
      rw [List.length_set] at this
      exact this
    rw [List.getElem?_set_self hl] at he
    cases he
  · rw [List.getElem?_set_ne c] at he
    obtain ⟨u, a, b⟩ := r.at_ j e he
    exact ⟨u, by rw [List.getElem?_set_ne c]; exact a, b⟩
theorem Post.mono {r : R α} {Q Q' : β → Hp → Prop} (p : Post K cl ra m H r Q W) (i : ∀ b H, Q b H → Q' b H) : Post K cl ra m H r Q' W := by
  cases r with
  | ok a h => exact fun m' H' b x y z => i _ _ (p m' H' b x y z)
  | ex c w h => exact p
  | bad => exact p
theorem Post.ext {r : R α} {Q : β → Hp → Prop} (x : Ext K m H m1 H1) (p : Post K cl ra m H r Q W) : Post K cl ra m1 H1 r Q W := by
  cases r with
  | ok a h => exact fun m' H' b y z t => p m' H' b (x.trans y) z t
  | ex c w h => exact fun m' H' e v y z t u => p m' H' e v (x.trans y) z t u
  | bad => exact p
theorem Post.here {a : α} {h : HA} {b : β} {Q : β → Hp → Prop} (p : Post K cl ra m H (.ok a h) Q W) (r : Rel K m H h) (q : ra m H a b) : Q b H := p m H b .refl r q
theorem Post.at_ {a : α} {h : HA} {b : β} {Q : β → Hp → Prop} (p : Post K cl ra m H (.ok a h) Q W) (x : Ext K m H m1 H1) (r : Rel K m1 H1 h) (q : ra m1 H1 a b) : Q b H1 := p m1 H1 b x r q
/-- what comes first, then the rest -/
theorem Post.bind {x : M α} {f : α → M γ} {h : HA} {Q : δ → Hp → Prop} (p : Post K cl rc m H (M.bind x f h) Q W) :
    Post K cl ra m H (x h) (fun b H1 => ∃ m1 a h1, Ext K m H m1 H1 ∧ Rel K m1 H1 h1 ∧ ra m1 H1 a b ∧ Post K cl rc m1 H1 (f a h1) Q W) W := by
  have e : M.bind x f h = (match x h with | .ok a h' => f a h' | .ex c w h' => .ex c w h' | .bad => .bad) := rfl
  cases hx : x h with
  | ok a h1 =>
    rw [hx] at e
    rw [e] at p
    exact fun m' H' b y z t => ⟨m', a, h1, y, z, t, p.ext y⟩
  | ex c w h1 =>
    rw [hx] at e
    rw [e] at p
    exact p
  | bad =>
    rw [hx] at e
    rw [e] at p
    exact p
/-- a reading, then another one with what it gave -/
theorem tG.bind {f : Env' → M α} {g : Env' → α → M γ} {σ : L2.St} {H : Hp} {Q : δ → Hp → Prop} (p : tG K cl rc W (fun ρ => M.bind (f ρ) (g ρ)) σ H Q) :
    tG K cl ra W f σ H (fun b H1 => ∃ m1 ρ a h1, REnv K m1 H1 ρ σ ∧ Rel K m1 H1 h1 ∧ ra m1 H1 a b ∧ Post K cl rc m1 H1 (g ρ a h1) Q W) := by
  obtain ⟨m, ρ, h, e, r, p⟩ := p
  exact ⟨m, ρ, h, e, r, p.bind.mono fun b H1 ⟨m1, a, h1, x, r1, q, p1⟩ => ⟨m1, ρ, a, h1, e.ext x, r1, q, p1⟩⟩
end

section
variable {X : Cx} {K : PySem.W.Frag} {cl : Nat → Value} {W : Wh} {a b c e : Expr} {pos : Pos}
theorem PE.imp {t t' : TE} (h : PE X e t) (i : ∀ σ H Q, t' σ H Q → t σ H Q) : PE X e t' := ⟨fun pins s σ H Q I q => h.run pins s σ H Q I (i σ H Q q)⟩
theorem PT.imp {t t' : TT} (h : PT X e t) (i : ∀ σ H Q, t' σ H Q → t σ H Q) : PT X e t' := ⟨fun pins s σ H Q I q => h.run pins s σ H Q I (i σ H Q q)⟩
theorem PA.imp {es : List Expr} {t t' : TA} (h : PA X es t) (i : ∀ σ H Q, t' σ H Q → t σ H Q) : PA X es t' := ⟨fun po pins s σ H Q I q => h.run po pins s σ H Q I (i σ H Q q)⟩
theorem PS.imp {st : Stmt} {t t' : TS} (h : PS X st t) (i : ∀ D σ H, t' D σ H → t D σ H) : PS X st t' := ⟨fun pins s σ H D I q => h.run pins s σ H D I (i D σ H q)⟩
theorem PSs.imp {st : List Stmt} {t t' : TS} (h : PSs X st t) (i : ∀ D σ H, t' D σ H → t D σ H) : PSs X st t' := ⟨fun pins s σ H D I q => h.run pins s σ H D I (i D σ H q)⟩

/-! ### two values in, one out -/
def rF (K : PySem.W.Frag) (cl : Nat → Value) (W : Wh) (F : D → D → M D) : R2 := fun x y H Q => ∃ m h d e, RV K m H d x ∧ RV K m H e y ∧ Rel K m H h ∧ Post K cl (RV K) m H (F d e h) Q W
def bin2 (F : D → D → M D) (fa fb : Env' → M D) : Env' → M D := fun ρ => M.bind (fa ρ) fun d => M.bind (fb ρ) fun e => F d e
theorem tOp_of {F : D → D → M D} {fa fb : Env' → M D} {σ : L2.St} {H : Hp} {Q : VK} (p : tE K cl W (bin2 F fa fb) σ H Q) : tOp (rF K cl W F) (tE K cl W fa) (tE K cl W fb) σ H Q := by
  obtain ⟨m, ρ, h, e, r, p⟩ := p
  refine ⟨m, ρ, h, e, r, p.bind.mono fun x H1 ⟨m1, d, h1, x1, r1, q1, p1⟩ => ?_⟩
  exact ⟨m1, ρ, h1, e.ext x1, r1, p1.bind.mono fun y H2 ⟨m2, d2, h2, x2, r2, q2, p2⟩ => ⟨m2, h2, d, d2, q1.ext x2, q2, r2, p2⟩⟩
theorem de_bin {op : Operator} {F : D → D → M D} {fa fb : Env' → M D} (ho : OpR X (binaryOp op) (rF K cl W F)) (ha : PE X a (tE K cl W fa)) (hb : PE X b (tE K cl W fb)) : PE X (.BinOp a op b pos) (tE K cl W (bin2 F fa fb)) :=
  PE.imp (pe_op ho ha hb) fun _ _ _ p => tOp_of p
theorem de_cmp {op : CmpOp} {F : D → D → M D} {fa fb : Env' → M D} (ho : OpR X (compareOp op) (rF K cl W F)) (ha : PE X a (tE K cl W fa)) (hb : PE X b (tE K cl W fb)) (hm : behindInMarks op b = false) : PE X (.Compare a [op] [b] pos) (tE K cl W (bin2 F fa fb)) :=
  PE.imp (pe_cmpR ho ha hb hm) fun _ _ _ p => tOp_of p
/-! ### one value in -/
def rF1 (K : PySem.W.Frag) (cl : Nat → Value) (W : Wh) (F : D → M D) : V → Hp → VK → Prop := fun x H Q => ∃ m h d, RV K m H d x ∧ Rel K m H h ∧ Post K cl (RV K) m H (F d h) Q W
def un1 (F : D → M D) (fa : Env' → M D) : Env' → M D := fun ρ => M.bind (fa ρ) F
theorem tUn_of {F : D → M D} {fa : Env' → M D} {σ : L2.St} {H : Hp} {Q : VK} (p : tE K cl W (un1 F fa) σ H Q) : tUn (rF1 K cl W F) (tE K cl W fa) σ H Q := by
  obtain ⟨m, ρ, h, e, r, p⟩ := p
  exact ⟨m, ρ, h, e, r, p.bind.mono fun x H1 ⟨m1, d, h1, x1, r1, q1, p1⟩ => ⟨m1, h1, d, q1, r1, p1⟩⟩
theorem de_un {op : UnaryOp} {F : D → M D} {fa : Env' → M D} (ho : UnR X (unaryOp op) (rF1 K cl W F)) (ha : PE X a (tE K cl W fa)) : PE X (.UnaryOp op a pos) (tE K cl W (un1 F fa)) :=
  PE.imp (pe_un ho ha) fun _ _ _ p => tUn_of p

/-! ### names and constants -/
def varF (i : Nat) : Env' → M D := fun ρ h => match ρ[i]? with | some (some d) => .ok d h | _ => .bad
theorem de_var {i : Nat} {x : Str} (hN : X.N[i]? = some x) (hv : Vis X.env.scope x) (hd : (x == ("__debug__" : Str)) = false) (hcd : (x == ("__classdict__" : Str)) = false) : PE X (.Name x pos) (tE K cl W (varF i)) :=
  PE.imp (pe_var hN hv hd hcd) fun σ H Q ⟨m, ρ, h, e, r, p⟩ => by
    unfold varF at p
    split at p
    · next d hd => 
      obtain ⟨v, hv, q⟩ := e.at_ i d hd
      exact ⟨v, hv, p.here r q⟩
    · exact p.elim
def cstF (d : D) : Env' → M D := fun _ h => .ok d h
theorem de_cst {d : D} {v : V} (h : PE X e (tC v)) (r : ∀ m H, RV K m H d v) : PE X e (tE K cl W (cstF d)) :=
  PE.imp h fun σ H Q ⟨m, ρ, h, e, q, p⟩ => Post.here (a := d) p q (r m H)

/-! ### argument lists -/
def nilF : Env' → M (List D) := fun _ h => .ok [] h
def consF (f : Env' → M D) (g : Env' → M (List D)) : Env' → M (List D) := fun ρ => M.bind (f ρ) fun d => M.bind (g ρ) fun ds h => .ok (d :: ds) h
theorem da_nil : PA X [] (tA K cl W nilF) := PA.imp pa_nil fun σ H Q ⟨m, ρ, h, e, q, p⟩ => Post.here (a := []) p q .nil
theorem da_cons {es : List Expr} {f : Env' → M D} {g : Env' → M (List D)} (ha : PE X e (tE K cl W f)) (hr : PA X es (tA K cl W g)) (hs : starEach (e :: es) X.env = (false, eval e X.env) :: starEach es X.env) : PA X (e :: es) (tA K cl W (consF f g)) := by
  refine PA.imp (pa_cons ha hr hs) fun σ H Q ⟨m, ρ, h, e, r, p⟩ => ?_
  refine ⟨m, ρ, h, e, r, p.bind.mono fun x H1 ⟨m1, d, h1, x1, r1, q1, p1⟩ => ?_⟩
  exact ⟨m1, ρ, h1, e.ext x1, r1, p1.bind.mono fun y H2 ⟨m2, d2, h2, x2, r2, q2, p2⟩ => p2.here r2 (.cons (q1.ext x2) q2)⟩

/-! ### tests -/
def truth : D → M Bool
  | .non => fun h => .ok false h
  | .bl b => fun h => .ok b h
  | .int i => fun h => .ok (i != 0) h
  | .str x => fun h => if x.length ≤ sizeLine then .ok ((x.length : Int) != 0) h else .bad
  | .tup xs => fun h => .ok (!xs.isEmpty) h
  | .loc l => fun h => match h[l]? with | some (.lst xs) => .ok (!xs.isEmpty) h | some (.ro xs) => .ok (!xs.isEmpty) h | _ => .bad
  | .ty _ => M.bad
def testF (f : Env' → M D) : Env' → M Bool := fun ρ => M.bind (f ρ) truth
theorem RVs.emp {m : List Addr} {H : Hp} {ds : List D} {vs : List V} (r : RVs K m H ds vs) : vs.isEmpty = ds.isEmpty := by
  cases r <;> rfl
theorem truth_ok {m : List Addr} {H : Hp} {d : D} {v : V} {h : HA} {Q : Bool → Hp → Prop} (q : RV K m H d v) (r : Rel K m H h) (p : Post K cl RB m H (truth d h) Q W) : ∃ k, TruV K v H k ∧ Q k H := by
  cases q with
  | non => exact ⟨false, rfl, Post.here (a := false) p r rfl⟩
  | bl b => exact ⟨b, rfl, Post.here (a := b) p r rfl⟩
  | int i => exact ⟨i != 0, rfl, Post.here (a := i != 0) p r rfl⟩
  | str x =>
    unfold truth at p
    dsimp only at p
    split at p
    · next hl => exact ⟨_, ⟨hl, rfl⟩, p.here r rfl⟩
    · exact p.elim
  | tup s t => exact ⟨_, .inr (.inl ⟨_, s, rfl⟩), p.here r (by show _ = _; rw [t.emp])⟩
  | loc e =>
    unfold truth at p
    dsimp only at p
    split at p
    · next xs hx =>
      obtain ⟨vs, s, t⟩ := r.ro e (.inl hx)
      exact ⟨_, .inl ⟨_, s, rfl⟩, p.here r (by show _ = _; rw [t.emp])⟩
    · next xs hx =>
      obtain ⟨vs, s, t⟩ := r.ro e (.inr hx)
      exact ⟨_, .inl ⟨_, s, rfl⟩, p.here r (by show _ = _; rw [t.emp])⟩
    · exact p.elim
  | ty n => exact p.elim
theorem dt_any {f : Env' → M D} (ha : PE X a (tE K cl W f)) (hK : X.K = K) (he : ∀ whole, isTrue a X.env whole = (do let v ← whole; standAt a.pos; holding [v] (truthy v))) : PT X a (tT K cl W (testF f)) := by
  subst hK
  refine PT.imp (pt_truth ha he) fun σ H Q ⟨m, ρ, h, e, r, p⟩ => ?_
  exact ⟨m, ρ, h, e, r, p.bind.mono fun x H1 ⟨m1, d, h1, x1, r1, q1, p1⟩ => truth_ok q1 r1 p1⟩
theorem dt_cmp {op : CmpOp} {F : D → D → M D} {fa fb : Env' → M D} (ho : OpR X (compareOp op) (rF K cl W F)) (ha : PE X a (tE K cl W fa)) (hb : PE X b (tE K cl W fb)) (hm : behindInMarks op b = false)
    (hF : ∀ d e h r h', F d e h = .ok r h' → ∃ k, r = .bl k) : PT X (.Compare a [op] [b] pos) (tT K cl W (testF (bin2 F fa fb))) := by
  refine PT.imp (pt_cmpR ho ha hb hm) fun σ H Q p => ?_
  have p' : tE K cl W (bin2 F fa fb) σ H (fun x H1 => ∃ k, x = .bl k ∧ Q k H1) := by
    obtain ⟨m, ρ, h, e, r, p⟩ := p
    refine ⟨m, ρ, h, e, r, ?_⟩
    show Post K cl (RV K) m H (M.bind (fa ρ) (fun d => M.bind (fb ρ) fun e => F d e) h) _ W
    have p : Post K cl RB m H (M.bind (M.bind (fa ρ) (fun d => M.bind (fb ρ) fun e => F d e)) truth h) Q W := p
    have key : ∀ r' h', M.bind (fa ρ) (fun d => M.bind (fb ρ) fun e => F d e) h = .ok r' h' → ∃ k, r' = .bl k := by
      intro r' h' q
      unfold M.bind at q
      split at q
      · dsimp only at q
        split at q
        · exact hF _ _ _ _ _ q
        · cases q
        · cases q
      · cases q
      · cases q
    have p := p.bind (ra := RV K)
    cases hx : M.bind (fa ρ) (fun d => M.bind (fb ρ) fun e => F d e) h with
    | ok d' h' =>
      obtain ⟨k, rfl⟩ := key _ _ hx
      rw [hx] at p
      intro m' H' b x y z
      obtain ⟨m1, a, h1, x1, r1, q1, p1⟩ := p m' H' b x y z
      cases z
      cases q1
      exact ⟨k, rfl, Post.here (a := k) p1 r1 rfl⟩
    | ex c w h' =>
      rw [hx] at p
      exact p
    | bad =>
      rw [hx] at p
      exact p
  exact tOp_of p'
def notT (f : Env' → M Bool) : Env' → M Bool := fun ρ => M.bind (f ρ) fun b h => .ok (!b) h
theorem dt_not {f : Env' → M Bool} (ha : PT X a (tT K cl W f)) : PT X (.UnaryOp .Not a pos) (tT K cl W (notT f)) := by
  refine PT.imp (pt_not ha) fun σ H Q ⟨m, ρ, h, e, r, p⟩ => ?_
  exact ⟨m, ρ, h, e, r, p.bind.mono fun x H1 ⟨m1, d, h1, x1, r1, q1, p1⟩ => by
    cases q1
    exact Post.here (a := !x) p1 r1 rfl⟩
def andT (f g : Env' → M Bool) : Env' → M Bool := fun ρ => M.bind (f ρ) fun b => if b = true then g ρ else fun h => .ok false h
def orT (f g : Env' → M Bool) : Env' → M Bool := fun ρ => M.bind (f ρ) fun b => if b = true then (fun h => .ok true h) else g ρ
theorem dw_and {rest : List Expr} {f g : Env' → M Bool} (ha : PT X a (tT K cl W f)) (hb : PW X (.BoolOp .And (b :: rest) pos) (tT K cl W g)) : PW X (.BoolOp .And (a :: b :: rest) pos) (tT K cl W (andT f g)) := by
  refine ⟨fun wh pins s σ H Q I q => (pw_and ha hb).run wh pins s σ H Q I ?_⟩
  obtain ⟨m, ρ, h, e, r, p⟩ := q
  refine ⟨m, ρ, h, e, r, p.bind.mono fun x H1 ⟨m1, d, h1, x1, r1, q1, p1⟩ => ?_⟩
  cases q1
  cases x with
  | true => exact ⟨m1, ρ, h1, e.ext x1, r1, p1⟩
  | false => exact Post.here (a := false) p1 r1 rfl
theorem dw_or {rest : List Expr} {f g : Env' → M Bool} (ha : PT X a (tT K cl W f)) (hb : PW X (.BoolOp .Or (b :: rest) pos) (tT K cl W g)) : PW X (.BoolOp .Or (a :: b :: rest) pos) (tT K cl W (orT f g)) := by
  refine ⟨fun wh pins s σ H Q I q => (pw_or ha hb).run wh pins s σ H Q I ?_⟩
  obtain ⟨m, ρ, h, e, r, p⟩ := q
  refine ⟨m, ρ, h, e, r, p.bind.mono fun x H1 ⟨m1, d, h1, x1, r1, q1, p1⟩ => ?_⟩
  cases q1
  cases x with
  | true => exact Post.here (a := true) p1 r1 rfl
  | false => exact ⟨m1, ρ, h1, e.ext x1, r1, p1⟩
/-- a if c else b -/
def iteF {α : Type} (t : Env' → M Bool) (f g : Env' → M α) : Env' → M α := fun ρ => M.bind (t ρ) fun b => if b = true then f ρ else g ρ
theorem de_ife {t : Env' → M Bool} {f g : Env' → M D} (hc : PT X c (tT K cl W t)) (ha : PE X a (tE K cl W f)) (hb : PE X b (tE K cl W g)) : PE X (.IfExp c a b pos) (tE K cl W (iteF t f g)) := by
  refine PE.imp (pe_ifExp hc ha hb) fun σ H Q ⟨m, ρ, h, e, r, p⟩ => ?_
  refine ⟨m, ρ, h, e, r, p.bind.mono fun x H1 ⟨m1, d, h1, x1, r1, q1, p1⟩ => ?_⟩
  cases q1
  cases x with
  | true => exact ⟨m1, ρ, h1, e.ext x1, r1, p1⟩
  | false => exact ⟨m1, ρ, h1, e.ext x1, r1, p1⟩
/-- and, or as values -/
def andF (f g : Env' → M D) : Env' → M D := fun ρ => M.bind (f ρ) fun d => match d with | .bl true => g ρ | .bl false => fun h => .ok (.bl false) h | _ => M.bad
def orF (f g : Env' → M D) : Env' → M D := fun ρ => M.bind (f ρ) fun d => match d with | .bl false => g ρ | .bl true => fun h => .ok (.bl true) h | _ => M.bad
theorem de_and {rest : List Expr} {f g : Env' → M D} (ha : PE X a (tE K cl W f)) (hb : PE X (.BoolOp .And (b :: rest) pos) (tE K cl W g)) : PE X (.BoolOp .And (a :: b :: rest) pos) (tE K cl W (andF f g)) := by
  refine PE.imp (pe_and ha hb) fun σ H Q ⟨m, ρ, h, e, r, p⟩ => ?_
  refine ⟨m, ρ, h, e, r, p.bind.mono fun x H1 ⟨m1, d, h1, x1, r1, q1, p1⟩ => ?_⟩
  cases q1 with
  | bl b =>
    cases b with
    | true => exact ⟨true, rfl, m1, ρ, h1, e.ext x1, r1, p1⟩
    | false => exact ⟨false, rfl, Post.here (a := D.bl false) p1 r1 (.bl false)⟩
  | _ => exact p1.elim
theorem de_or {rest : List Expr} {f g : Env' → M D} (ha : PE X a (tE K cl W f)) (hb : PE X (.BoolOp .Or (b :: rest) pos) (tE K cl W g)) : PE X (.BoolOp .Or (a :: b :: rest) pos) (tE K cl W (orF f g)) := by
  refine PE.imp (pe_or ha hb) fun σ H Q ⟨m, ρ, h, e, r, p⟩ => ?_
  refine ⟨m, ρ, h, e, r, p.bind.mono fun x H1 ⟨m1, d, h1, x1, r1, q1, p1⟩ => ?_⟩
  cases q1 with
  | bl b =>
    cases b with
    | true => exact ⟨true, rfl, Post.here (a := D.bl true) p1 r1 (.bl true)⟩
    | false => exact ⟨false, rfl, m1, ρ, h1, e.ext x1, r1, p1⟩
  | _ => exact p1.elim
/-- not as a value (of a truth value) -/
def notF (f : Env' → M D) : Env' → M D := fun ρ => M.bind (f ρ) fun d => match d with | .bl k => fun h => .ok (.bl (!k)) h | _ => M.bad
theorem de_not {f : Env' → M D} (ha : PE X a (tE K cl W f)) : PE X (.UnaryOp .Not a pos) (tE K cl W (notF f)) := by
  refine PE.imp (pe_not ha) fun σ H Q ⟨m, ρ, h, e, r, p⟩ => ?_
  refine ⟨m, ρ, h, e, r, p.bind.mono fun x H1 ⟨m1, d, h1, x1, r1, q1, p1⟩ => ?_⟩
  cases q1 with
  | bl b => exact ⟨b, rfl, Post.here (a := D.bl (!b)) p1 r1 (.bl _)⟩
  | _ => exact p1.elim
/-! ### calls of built-ins, of a def -/
def rL (K : PySem.W.Frag) (cl : Nat → Value) (W : Wh) (F : List D → M D) : List V → Hp → VK → Prop := fun xs H Q => ∃ m h ds, RVs K m H ds xs ∧ Rel K m H h ∧ Post K cl (RV K) m H (F ds h) Q W
def appF (F : List D → M D) (g : Env' → M (List D)) : Env' → M D := fun ρ => M.bind (g ρ) F
theorem tCB_of {F : List D → M D} {g : Env' → M (List D)} {σ : L2.St} {H : Hp} {Q : VK} (p : tE K cl W (appF F g) σ H Q) : tCB (rL K cl W F) (tA K cl W g) σ H Q := by
  obtain ⟨m, ρ, h, e, r, p⟩ := p
  exact ⟨m, ρ, h, e, r, p.bind.mono fun x H1 ⟨m1, d, h1, x1, r1, q1, p1⟩ => ⟨m1, h1, d, q1, r1, p1⟩⟩
end
end Dx

/-! Dk: additions to the hand layer: tuple times any int, a tuple back to front, set(list of ints). -/
namespace Dx
open PySem PySem.Spec PyProof.Rows L2

/-! ### tuple * int, the same object and none of it -/
section
variable {prog : Program} {w : World} {A : Around} {E : Value → Shared → Prop} {s : Shared}
theorem tupMul_same (l : Addr) (items : Array Value) (n : Nat) (dd : Option Addr) (sl : Array (Option Value)) (x : Int) (u : Tok)
    (b0 : (decide (x < -(2 ^ 63)) || decide (x ≥ 2 ^ 63)) = false) (b1 : (items.isEmpty || x == 1) = true) :
    Meets (Builtin.«tuple.__mul__» ⟨[.ref l, .int x u], []⟩) (fun _ R s => s.heap.get? l = some { cls := .type "tuple", dict := dd, data := .seq items n, slots := sl } ∧ R (.ok (.ret (Value.ref l))) s) :=
  .of_wp fun prog w A R s h => by
    obtain ⟨hp, g, d, tk, os⟩ := s; obtain ⟨hl, h⟩ := h
    have f1 := AutoSeq1.idx_int; wp_walk using wpAny_loadPart' hl
    repeat (first
      | (refine wpAny_ite_false (decide_eq_false (by rw [b0]; exact Bool.false_ne_true)) ?_; wp_walk using wpAny_loadPart' hl)
      | (refine wpAny_ite_true (decide_eq_true b1) ?_; wp_walk using wpAny_loadPart' hl))
    exact ⟨_, rfl, h⟩
theorem tupMul_none (l : Addr) (items : Array Value) (n : Nat) (dd : Option Addr) (sl : Array (Option Value)) (x : Int) (u : Tok)
    (b0 : (decide (x < -(2 ^ 63)) || decide (x ≥ 2 ^ 63)) = false) (b1 : (items.isEmpty || x == 1) = false) (b2 : (decide (x ≤ 0) || items.isEmpty) = true) :
    Meets (Builtin.«tuple.__mul__» ⟨[.ref l, .int x u], []⟩) (fun _ R s => s.heap.get? l = some { cls := .type "tuple", dict := dd, data := .seq items n, slots := sl } ∧
      R (.ok (.ret (Value.ref s.heap.objs.size))) { s with heap := s.heap.push { cls := Value.type "tuple", data := Data.seq #[] }, toks := s.toks }) :=
  .of_wp fun prog w A R s h => by
    obtain ⟨hp, g, d, tk, os⟩ := s; obtain ⟨hl, h⟩ := h
    have hsz : (#[] : Array Value).size ≤ sizeLine := Nat.zero_le _
    have f1 := AutoSeq1.idx_int; wp_walk using wpAny_loadPart' hl
    repeat (first
      | (refine wpAny_ite_false (decide_eq_false (by rw [b0]; exact Bool.false_ne_true)) ?_; wp_walk using wpAny_loadPart' hl)
      | (refine wpAny_ite_false (decide_eq_false (by rw [b1]; exact Bool.false_ne_true)) ?_; wp_walk using wpAny_loadPart' hl)
      | (refine wpAny_ite_true (decide_eq_true b2) ?_; wp_walk using wpAny_loadPart' hl))
    exact ⟨_, rfl, h⟩
end
def rRep0 (K : PySem.W.Frag) : R2 := fun x y H Q => ∃ l k xs, x = .ref l ∧ y = .int k ∧ SqT K H l xs ∧ -(2 ^ 63) ≤ k ∧ k < 2 ^ 63 ∧ (xs = [] ∨ k = 1 → Q (.ref l) H) ∧ (xs ≠ [] → k ≤ 0 → ∀ p, H p = none → Q (.ref p) (upd H p (.tup []))) ∧ (xs = [] ∨ k ≤ 1)
section
variable {X : Cx}
theorem op_rep0 : OpR X (binaryOp .Mult) (rRep0 X.K) := by
  intro pins s σ H x y v u Q I rx ry h
  obtain ⟨l, k, xs, rfl, rfl, hT, h1, h2, q1, q2, hc0⟩ := h
  cases rx; obtain ⟨t, rfl⟩ := ry
  obtain ⟨its, r, ⟨⟨cls, dd, data, sl⟩, ho, hc, n, hd⟩, hs⟩ := I.tuple hT
  simp only at hc hd; subst hc hd
  have hle : its.length = xs.length := r.length.symm
  have b0 : (decide (k < -(2 ^ 63)) || decide (k ≥ 2 ^ 63)) = false := by
    rw [decide_eq_false (show ¬ k < -(2 ^ 63) by omega), decide_eq_false (show ¬ k ≥ 2 ^ 63 by omega)]; rfl
  by_cases hw : xs = [] ∨ k = 1
  · have b1 : (its.toArray.isEmpty || k == 1) = true := by
      rcases hw with e | e
      · subst e; rw [List.length_nil] at hle; rw [List.eq_nil_of_length_eq_zero hle]; rfl
      · subst e; rw [beq_self_eq_true, Bool.or_true]
    exact wpAny_binaryOp_repeat_ref (T := "tuple") (U := "int") (by decide) ⟨_, ho, rfl⟩ (fun s' => typeIs_int s' k t) noFill_tuple_mul F.fills_int_mul F.slot_int_rmul repeat_tuple F.slot_int_index.lookup
      (call_meets F.slot_int_rmul (typeIs_int s k t) F.entry_int_rmul (F.args_int_rmul_2 _ _) (int_rmul_tuple k t l its.toArray n dd sl)
        ⟨ho, rfl, ⟨_, ho, rfl⟩, call_meets F.slot_tuple_mul ⟨_, ho, rfl⟩ F.entry_tuple_mul (F.args_tuple_mul_2 _ _) (tupMul_same l its.toArray n dd sl k t b0 b1) ⟨ho, ⟨.ref l, H, I, rfl, q1 hw⟩⟩⟩)
  · have hx : xs ≠ [] := fun e => hw (.inl e)
    have k1 : k ≠ 1 := fun e => hw (.inr e)
    have k0 : k ≤ 0 := by
      rcases hc0 with e | e
      · exact absurd e hx
      · omega
    have hi : its.toArray.isEmpty = false := by
      cases its with
      | nil => exact absurd (List.eq_nil_of_length_eq_zero hle.symm) hx
      | cons a b => rfl
    have b1 : (its.toArray.isEmpty || k == 1) = false := by
      rw [hi, Bool.false_or]; exact beq_eq_false_iff_ne.mpr k1
    have b2 : (decide (k ≤ 0) || its.toArray.isEmpty) = true := by
      rw [decide_eq_true k0]; rfl
    refine wpAny_binaryOp_repeat_ref (T := "tuple") (U := "int") (by decide) ⟨_, ho, rfl⟩ (fun s' => typeIs_int s' k t) noFill_tuple_mul F.fills_int_mul F.slot_int_rmul repeat_tuple F.slot_int_index.lookup
      (call_meets F.slot_int_rmul (typeIs_int s k t) F.entry_int_rmul (F.args_int_rmul_2 _ _) (int_rmul_tuple k t l its.toArray n dd sl)
        ⟨ho, rfl, ⟨_, ho, rfl⟩, call_meets F.slot_tuple_mul ⟨_, ho, rfl⟩ F.entry_tuple_mul (F.args_tuple_mul_2 _ _) (tupMul_none l its.toArray n dd sl k t b0 b1 b2) ⟨ho, ?_⟩⟩)
    exact ⟨.ref s.heap.objs.size, _, I.laid (t' := s.toks) (o := .tup []) (fun b ob q => Heap.get?_push_of_some _ q) (Nat.le_refl _) ⟨Nat.zero_le _, _, .nil, IsTup.new _ _⟩, rfl, q2 hx k0 _ (I.hok.fresh (Nat.le_refl _))⟩
end

/-! ### t[::-1] of a tuple -/
section
variable {prog : Program} {w : World} {A : Around} {E : Value → Shared → Prop} {s : Shared}
theorem applied_back {sl : Addr} {vs : Value} {n : Nat} {Q : Int × Int × Nat → Shared → Prop} (hs : s.heap.IsSliceOf sl .none .none vs) (ps : IsPart vs (some (-1))) (h : Q ((n : Int) - 1, -1, n) s) :
    wpAny (model prog w) A (Builtin.Slice.sliceApplied (.ref sl) (pure (n : Int))) Q E s := by
  obtain ⟨os, hos, hcs, hds⟩ := id hs; unfold Builtin.Slice.sliceApplied Builtin.Slice.sliceFields
  refine wpAny_bind (wpAny_bind (wpAny_field hos hds (x := .none) rfl (wpAny_bind (wpAny_field hos hds (x := .none) rfl (wpAny_bind (wpAny_field hos hds (x := vs) rfl (wpAny_pure ?_)))))))
  refine wpAny_bind (HT.slicePart_ ps ?_)
  show wpAny _ _ (if ((-1 : Int) == 0) = true then _ else _) _ _ s
  rw [if_neg (by decide)]
  refine wpAny_bind (HT.slicePart_ .none (wpAny_bind (HT.slicePart_ .none (wpAny_bind (wpAny_pure ?_)))))
  show wpAny _ _ (pure ((n : Int) - 1, (-1 : Int), Builtin.Slice.slicePlaces ((n : Int) - 1) (-1) (-1))) _ _ s
  have e : Builtin.Slice.slicePlaces ((n : Int) - 1) (-1) (-1) = n := by
    unfold Builtin.Slice.slicePlaces
    rw [if_neg (show ¬ (-1 : Int) > 0 by decide)]
    by_cases c : (n : Int) - 1 > -1
    · rw [if_pos c, show (- -1 : Int) = 1 from rfl, Int.ediv_one]; omega
    · rw [if_neg c]; omega
  rw [e]; exact wpAny_pure h
theorem fmap_some {α β : Type} {f : α → Option β} {g : α → β} : ∀ {l : List α}, (∀ k ∈ l, f k = some (g k)) → l.filterMap f = l.map g
  | [], _ => rfl
  | x :: l, h => by
    rw [List.filterMap_cons, h x List.mem_cons_self, List.map_cons]
    exact congrArg _ (fmap_some fun k hk => h k (List.mem_cons_of_mem _ hk))
theorem pick_back (xs : List Value) : ((List.range xs.toArray.size).filterMap fun (k : Nat) => xs.toArray[(((xs.toArray.size : Nat) : Int) - 1 + (k : Int) * (-1)).toNat]?) = xs.reverse := by
  rw [List.size_toArray]
  have e : ∀ k ∈ List.range xs.length, (xs.toArray[(((xs.length : Nat) : Int) - 1 + (k : Int) * (-1)).toNat]?) = some (xs.reverse[k]?.getD .none) := fun k hk => by
    have hk' := List.mem_range.mp hk
    have e1 : (((xs.length : Nat) : Int) - 1 + (k : Int) * (-1)).toNat = xs.length - 1 - k := by omega
    rw [e1, List.getElem?_toArray, List.getElem?_reverse hk', List.getElem?_eq_getElem (show xs.length - 1 - k < xs.length by omega)]
    rfl
  rw [fmap_some e]
  refine List.ext_getElem? fun i => ?_
  rw [List.getElem?_map]
  by_cases hi : i < xs.length
  · rw [List.getElem?_range hi, Option.map_some, List.getElem?_eq_getElem (show i < xs.reverse.length by rw [List.length_reverse]; exact hi)]; rfl
  · rw [List.getElem?_eq_none (by rw [List.length_range]; omega), List.getElem?_eq_none (by rw [List.length_reverse]; omega)]; rfl
theorem getItem_back {t sl : Addr} {its : List Value} {vs : Value} {Q : Value → Shared → Prop} (ht : IsTup s.heap t its.toArray) (hs : s.heap.IsSliceOf sl .none .none vs) (ps : IsPart vs (some (-1)))
    (h : Q (.ref s.heap.objs.size) { s with heap := s.heap.push { cls := .type "tuple", data := .seq its.reverse.toArray } }) (hsz : its.length ≤ sizeLine) :
    wpAny (model prog w) A (getItem (.ref t) (.ref sl)) Q E s := by
  obtain ⟨os, hos, hcs, hds⟩ := id hs
  have hTs : s.TypeIs (.ref sl) "slice" := ⟨os, hos, hcs⟩
  have hgood : sizeOk (.seq its.reverse.toArray) := by
    show its.reverse.toArray.size ≤ sizeLine
    rw [List.size_toArray, List.length_reverse]; exact hsz
  unfold getItem; try with_reducible refine wpAny_holding ?_
  first | refine wpAny_bind (wpAny_pure ?_) | skip
  refine wpAny_bind (wpAny_sequenceKey ht.typeIs (by decide) ?_); refine wpAny_bind (wpAny_callSpecial?_slot (name := Str.ofString "__getitem__") ht.typeIs PyProof.Rows.slot_tuple_getitem (wpAny_call_entry PyProof.Rows.slot_tuple_getitem ht.typeIs entry_tuple_getitem ?_ (args_tuple_getitem _ _)))
  show wpAny _ _ (Builtin.Tuple.tupleItemsOf (.ref t) >>= _) _ _ s
  refine wpAny_bind (PyProof.Rows.tupleItemsOf_ ht ?_); refine wpAny_bind (wpAny_typeOf hTs ?_); rw [if_pos (by decide)]
  refine wpAny_bind (applied_back (n := its.toArray.size) hs ps ?_)
  have hno : ¬ (((((its.toArray.size : Nat) : Int) - 1) == 0 && (-1 : Int) == 1 && its.toArray.size == its.toArray.size) = true) := by
    intro q; rw [Bool.and_eq_true, Bool.and_eq_true] at q; exact absurd q.1.2 (by decide)
  show wpAny _ _ (if ((((its.toArray.size : Nat) : Int) - 1) == 0 && (-1 : Int) == 1 && its.toArray.size == its.toArray.size) = true then _ else _) _ _ s
  rw [if_neg hno, pick_back]
  first
    | exact wpAny_bind (m := Builtin.Tuple.tupleExact _) (wpAny_newObj_type (wpAny_pure ⟨_, rfl, wpAny_pure h⟩) hgood)
    | exact wpAny_bind (m := Builtin.Tuple.tupleExact _) (wpAny_newObj_type (wpAny_bind (wpAny_pure (wpAny_pure ⟨_, rfl, wpAny_pure h⟩))) hgood)
    | exact wpAny_bind (wpAny_bind (m := Builtin.Tuple.tupleExact _) (wpAny_newObj_type (wpAny_pure (wpAny_pure ⟨_, rfl, wpAny_pure h⟩)) hgood))
    | exact wpAny_bind (wpAny_bind (m := Builtin.Tuple.tupleExact _) (wpAny_newObj_type (wpAny_pure ⟨_, rfl, wpAny_pure h⟩) hgood))
end
/-! ### set(xs), xs a list of ints -/
section
variable {P : Program} {w : World} {A : Around} {E : Value → Shared → Prop} {s : Shared}
theorem set_of_ints {l : Addr} {items : Array Value} (ns : List Int) {Q : Value → Shared → Prop} (hh : A.handled = none) (hl : s.heap.IsList l items) (hit : IntsAre items.toList ns) (hb : ns.length + 1 < scanBound)
    (h : ∀ (h' : Heap) (tk c : Nat), SetR w h' s.heap.objs.size (fun j => decide (j ∈ ns)) c → c ≤ ns.length → (∀ b o, s.heap.get? b = some o → h'.get? b = some o) → Q (.ref s.heap.objs.size) { s with heap := h', toks := tk }) :
    wpAny (model P w) A (call (.type "set") [.ref l]) Q E s := by
  have hisz : items.size = ns.length := by
    have q := IntsAre.length hit
    rw [Array.length_toList] at q
    exact q
  obtain ⟨c, tl, hmro⟩ := F.called_set.mro
  have hmade := F.called_set.made
  have hsub := F.called_set.sub
  refine wpAny_call (codeAny_of_tree ?_)
  show wpAny _ _ (callAny (.type "set") _) _ _ _
  refine wpAny_pure ⟨Code.quiet_builtin _ (by decide +kernel), codeAny_builtin F.entry_type_call ?_⟩
  rw [Around.under_plain (weight_type_call_type "set" [.ref l] []) rfl]
  have h1 := F.called_set.notType
  have h2 := F.called_set.canCreate
  have hct := F.typeCall_set_1 (.ref l)
  repeat (any_goals (first | assumption | wp_step))

  refine codeAny_mono (code_set_led1 (.ref l) (E := E) (Q₁ := fun obj s₁ => obj = .ref s.heap.objs.size ∧ s₁ = { s with heap := s.heap.push { cls := .type "set", dict := none, data := .set #[] 0 (.fresh 0 0 (!w.params.followText "set-order")) } }) ⟨rfl, rfl⟩) fun r s₁ hr => ?_
  cases r with
  | error e => exact hr
  | ok fl =>
    cases fl with
    | ret obj =>
      obtain ⟨rfl, rfl⟩ := hr
      have hS : (s.heap.push { cls := .type "set", dict := none, data := .set #[] 0 (.fresh 0 0 (!w.params.followText "set-order")) }).get? s.heap.objs.size = some { cls := .type "set", dict := none, data := .set #[] 0 (.fresh 0 0 (!w.params.followText "set-order")) } := Heap.get?_push_size _ rfl
      have hT : Shared.TypeIs { s with heap := s.heap.push { cls := .type "set", dict := none, data := .set #[] 0 (.fresh 0 0 (!w.params.followText "set-order")) } } (.ref s.heap.objs.size) "set" := ⟨_, hS, rfl⟩
      have hli := F.called_set.init.lookup
      have hbi := F.called_set.init.bind (.ref s.heap.objs.size)
      repeat (any_goals (first | assumption | wp_step))

      refine codeAny_mono (codeAny_call_builtin (R := wants (fun r s₂ => r = .none ∧ ∃ h' tk c, s₂ = { s with heap := h', toks := tk } ∧ SetR w h' s.heap.objs.size (fun j => decide (j ∈ ns)) c ∧ c ≤ ns.length ∧
          (∀ b o, s.heap.get? b = some o → h'.get? b = some o)) E) F.called_set.init.plain F.entry_set_init (check_set_init_1 hT ?_)) fun r₂ s₂ hr₂ => ?_
      · obtain ⟨ol, hol, hcl, nl, hdl⟩ := hl
        obtain ⟨ocls, odict, odata, oslots⟩ := ol
        simp only at hcl hdl
        subst hcl; subst hdl
        have hol' : (s.heap.push { cls := .type "set", dict := none, data := .set #[] 0 (.fresh 0 0 (!w.params.followText "set-order")) }).get? l = some { cls := .type "list", dict := odict, data := .seq items nl, slots := oslots } := Heap.get?_push_of_some _ hol
        have hsls := F.sub_list_set
        have hslf := F.sub_list_frozenset
        have hne : (Value.type "tuple" == Value.type "dict") = false := by decide
        have hl1 : (s.heap.push { cls := .type "set", dict := none, data := .set #[] 0 (.fresh 0 0 (!w.params.followText "set-order")) }).IsList l items := ⟨_, hol', rfl, nl, rfl⟩
        unfold Builtin.«set.__init__» noKeywords Builtin.Frozenset.updateFrom
        generalize hPI : pyIter = PI
        wp_walk
        subst hPI

        refine wpAny_pyIter_list hl1 ?_
        refine wpAny_bind (wpAny_runValue ?_)
        have hlS : l < s.heap.objs.size := Heap.lt_size hol
        have hh3 : A.in1.in1.in1.handled = none := by simp [hh]
        have hz1 : (s.heap.push { cls := .type "set", dict := none, data := .set #[] 0 (.fresh 0 0 (!w.params.followText "set-order")) }).objs.size = s.heap.objs.size + 1 := Heap.size_push ..
        have hneI : l ≠ (s.heap.push { cls := .type "set", dict := none, data := .set #[] 0 (.fresh 0 0 (!w.params.followText "set-order")) }).objs.size := by
          rw [Heap.size_push]; exact Nat.ne_of_lt (Nat.lt_succ_of_lt hlS)
        have hSf : s.heap.objs.size ∉ [(s.heap.push { cls := .type "set", dict := none, data := .set #[] 0 (.fresh 0 0 (!w.params.followText "set-order")) }).objs.size, l] := by
          rw [Heap.size_push]; simp only [List.mem_cons, List.mem_singleton, List.not_mem_nil, or_false, not_or]
          exact ⟨Nat.ne_of_lt (Nat.lt_succ_self _), Nat.ne_of_gt hlS⟩
        have hval : ∀ (i : Nat) (v : Value), items[i]? = some v → ∃ k t, ns[i]? = some k ∧ v = .int k t := fun i v hv => by
          have hi : i < ns.length := by rw [← hisz]; exact (Array.getElem?_eq_some_iff.mp hv).1
          obtain ⟨t, e⟩ := PyProof.Rows.IntsAre.int_at hit i v (by rw [Array.getElem?_toList]; exact hv)
          refine ⟨ns[i], t, List.getElem?_eq_getElem hi, ?_⟩
          rw [e, List.getD_eq_getElem?_getD, List.getElem?_eq_getElem hi] <;> rfl
        refine set_update_ints ((Walks.list hh3 _ l hneI items).toS) s.heap.objs.size
          hSf ns hisz hb hval (items.size - 0) 0 _ (by omega) (Nat.zero_le _)
          ⟨⟨_, Heap.get?_push_size _ rfl, rfl, rfl⟩, (hl1.push _)⟩ ?hS0 ?hR
        case hS0 =>
          have hget : ((s.heap.push { cls := .type "set", dict := none, data := .set #[] 0 (.fresh 0 0 (!w.params.followText "set-order")) }).push { cls := .type "list_iterator", data := .fields #[.ref l, .int 0 0] }).get? s.heap.objs.size
              = some { cls := .type "set", dict := none, data := .set #[] 0 (.fresh 0 0 (!w.params.followText "set-order")) } := Heap.get?_push_of_some _ hS
          exact ⟨0, Nat.le_refl 0, setR_new_at hget⟩
        case hR =>
          intro s' c' hm hc' hS'
          obtain ⟨h', g2, d', tk', os'⟩ := s'
          have eg : g2 = s.gens := hm.gens
          have ed : d' = s.drawn := hm.drawn
          have eo : os' = s.os := hm.os
          subst eg; subst ed; subst eo
          show wpAny _ _ _ _ _ _
          refine wpAny_pure ?_
          show wpAny _ _ (ret Value.none) _ _ _
          rw [hisz] at hc'
          refine wpAny_pure ⟨rfl, h', tk', c', rfl, hS', hc', fun b o e => ?_⟩
          have hb0 : b < s.heap.objs.size := Heap.lt_size e
          have hb1 : b ≠ s.heap.objs.size := Nat.ne_of_lt hb0
          have hb2 : b ≠ (s.heap.push { cls := .type "set", dict := none, data := .set #[] 0 (.fresh 0 0 (!w.params.followText "set-order")) }).objs.size := by
            rw [Heap.size_push]; exact Nat.ne_of_lt (Nat.lt_succ_of_lt hb0)
          exact hm.heap b o (by simp only [List.mem_cons, List.mem_singleton, List.not_mem_nil, or_false, not_or]; exact ⟨hb1, hb2⟩) (Heap.get?_push_of_some _ (Heap.get?_push_of_some _ e))

      · cases r₂ with
        | error e => exact hr₂
        | ok fl₂ =>
          cases fl₂ with
          | ret r =>
            obtain ⟨rfl, h', tk, c', rfl, hS', hc', hk'⟩ := hr₂
            repeat (any_goals (first | assumption | wp_step))
            exact h _ _ _ hS' hc' hk'
          | _ => exact hr₂.elim
    | _ => exact hr.elim
end
end Dx

/-! Dx2: operators by values. -/
namespace Dx
open PySem PySem.Spec PyProof.Rows L2

section
variable {K : PySem.W.Frag} {cl : Nat → Value} {W : Wh} {m : List Addr} {H : Hp} {h : HA} {Q : VK}
theorem Post.newTup {ds : List D} {vs : List V} (p : Post K cl (RV K) m H (.ok (.tup ds) h) Q W) (r : Rel K m H h) (q : RVs K m H ds vs) : ∀ a, H a = none → Q (.ref a) (upd H a (.tup vs)) := fun a ha =>
  p.at_ (ext_upd (.inl ha)) (r.fresh ha) (.tup (SqT.of upd_same) (q.ext (ext_upd (.inl ha))))
theorem Post.newLst {ds : List D} {vs : List V} (p : Post K cl (RV K) m H (.ok (.loc h.length) (h ++ [.lst ds])) Q W) (r : Rel K m H h) (q : RVs K m H ds vs) : ∀ a, H a = none → Q (.ref a) (upd H a (.lst vs)) := fun a ha =>
  p.at_ ((ext_upd (.inl ha)).trans ext_app) (r.alloc ha q) (.loc (by rw [List.getElem?_append_right (by rw [r.len]; exact Nat.le_refl _), r.len]; simp))
theorem Post.wr {l : Nat} {a : Addr} {xs ys : List D} {vs : List V} {d : D} {v : V} (p : Post K cl (RV K) m H (.ok d (h.set l (.lst ys))) Q W) (r : Rel K m H h) (e : m[l]? = some a) (e2 : h[l]? = some (.lst xs)) (q : RVs K m H ys vs) (qd : RV K m H d v) : Q v (upd H a (.lst vs)) :=
  let ⟨_, hw, _⟩ := r.get e e2
  p.at_ (ext_upd (.inr ⟨_, hw⟩)) (r.write e e2 q) (qd.ext (ext_upd (.inr ⟨_, hw⟩)))
end

/-! ### the functions -/
def addF : D → D → M D
  | .int i, .int j => fun h => .ok (.int (i + j)) h
  | .str a, .str b => fun h => if a.length + b.length ≤ sizeLine then .ok (.str (a ++ b)) h else .bad
  | .tup xs, .tup ys => fun h => if xs.length + ys.length ≤ sizeLine then .ok (.tup (xs ++ ys)) h else .bad
  | .loc a, .loc b => fun h => match h[a]?, h[b]? with
    | some (.lst xs), some (.lst ys) => if xs.length + ys.length ≤ sizeLine then .ok (.loc h.length) (h ++ [.lst (xs ++ ys)]) else .bad
    | _, _ => .bad
  | _, _ => M.bad
def subF : D → D → M D
  | .int i, .int j => fun h => .ok (.int (i - j)) h
  | _, _ => M.bad
def mulOk (i j : Int) : Bool := (decide (-(2 ^ 64) < i) && decide (i < 2 ^ 64)) || (decide (-(2 ^ 64) < j) && decide (j < 2 ^ 64))
def mulF : D → D → M D
  | .int i, .int j => fun h => if mulOk i j = true then .ok (.int (i * j)) h else .bad
  | .loc a, .int k => fun h => match h[a]? with
    | some (.lst xs) => if -(2 ^ 63) ≤ k ∧ k < 2 ^ 63 ∧ xs.length * k.toNat ≤ sizeLine then .ok (.loc h.length) (h ++ [.lst (List.replicate k.toNat xs).flatten]) else .bad
    | _ => .bad
  | .tup xs, .int k => fun h => if -(2 ^ 63) ≤ k ∧ k ≤ 1000 ∧ xs.length ≤ 1000 then .ok (.tup (List.replicate k.toNat xs).flatten) h else .bad
  | _, _ => M.bad
def divF : D → D → M D
  | .int i, .int j => fun h => if 0 < j ∧ j < 1073741824 then .ok (.int (i / j)) h else .bad
  | _, _ => M.bad
def modF : D → D → M D
  | .int i, .int j => fun h => if 0 < j then .ok (.int (i % j)) h else .bad
  | _, _ => M.bad
def powF : D → D → M D
  | .int i, .int j => fun h => if 0 ≤ j ∧ j ≤ 1000000 ∧ i.natAbs < 2 ^ 64 then .ok (.int (i ^ j.toNat)) h else .bad
  | _, _ => M.bad
def negF : D → M D
  | .int i => fun h => .ok (.int (-i)) h
  | _ => M.bad
def ltF : D → D → M D
  | .int i, .int j => fun h => .ok (.bl (decide (i < j))) h
  | _, _ => M.bad
def leF : D → D → M D
  | .int i, .int j => fun h => .ok (.bl (decide (i ≤ j))) h
  | _, _ => M.bad
def gtF : D → D → M D
  | .int i, .int j => fun h => .ok (.bl (decide (j < i))) h
  | _, _ => M.bad
def geF : D → D → M D
  | .int i, .int j => fun h => .ok (.bl (decide (j ≤ i))) h
  | _, _ => M.bad
/-- as data -/
def toP (h : HA) : Nat → D → Option PyData
  | _, .non => some .none
  | _, .bl b => some (.bool b)
  | _, .int i => some (.int i)
  | _, .str x => some (.str x)
  | 0, _ => none
  | n + 1, .tup xs => (xs.mapM (toP h n)).map .tuple
  | n + 1, .loc l => match h[l]? with
    | some (.lst xs) => (xs.mapM (toP h n)).map .list
    | some (.ro xs) => (xs.mapM (toP h n)).map .list
    | _ => none
  | _, .ty _ => none
def eqF (d e : D) : M D := fun h => match toP h 40 d, toP h 40 e with
  | some p, some q => .ok (.bl (PyData.eqv p q)) h
  | _, _ => .bad
def neF (d e : D) : M D := fun h => match toP h 40 d, toP h 40 e with
  | some p, some q => .ok (.bl (!PyData.eqv p q)) h
  | _, _ => .bad
def items? (h : HA) : D → Option (List D)
  | .tup xs => some xs
  | .loc l => match h[l]? with
    | some (.lst xs) => some xs
    | some (.ro xs) => some xs
    | _ => none
  | _ => none
def inF (d c : D) : M D := fun h => match toP h 40 d, (items? h c).bind fun xs => xs.mapM (toP h 40) with
  | some p, some ys => .ok (.bl (ys.any fun y => PyData.eqv y p)) h
  | _, _ => .bad
def ninF (d c : D) : M D := fun h => match toP h 40 d, (items? h c).bind fun xs => xs.mapM (toP h 40) with
  | some p, some ys => .ok (.bl (!ys.any fun y => PyData.eqv y p)) h
  | _, _ => .bad
def isNon : D → Bool
  | .non => true
  | _ => false
def isF : D → D → M D
  | d, .non => fun h => .ok (.bl (isNon d)) h
  | _, _ => M.bad
def isntF : D → D → M D
  | d, .non => fun h => .ok (.bl (!isNon d)) h
  | _, _ => M.bad

section
variable {X : Cx} {cl : Nat → Value} {W : Wh}
theorem op_addF : OpR X (binaryOp .Add) (rF X.K cl W addF) := by
  intro pins s σ H x y v u Q I rx ry ⟨m, h, d, e, qd, qe, r, p⟩
  cases qd with
  | int i =>
    cases qe with
    | int j => exact op_add pins s σ H _ _ v u Q I rx ry ⟨i, j, rfl, rfl, Post.here (a := D.int (i + j)) p r (.int _)⟩
    | _ => exact p.elim
  | str a =>
    cases qe with
    | str b =>
      unfold addF at p
      dsimp only at p
      split at p
      · next hl => exact op_add_str pins s σ H _ _ v u Q I rx ry ⟨a, b, rfl, rfl, hl, p.here r (.str _)⟩
      · exact p.elim
    | _ => exact p.elim
  | tup sx rx' =>
    cases qe with
    | tup sy ry' =>
      unfold addF at p
      dsimp only at p
      split at p
      · next hl =>
        refine op_catA pins s σ H _ _ v u Q I rx ry ⟨_, _, _, _, rfl, rfl, sx, sy, by rw [rx'.len, ry'.len]; exact hl, fun z => ?_, fun z1 z2 => ?_, fun z1 z2 => p.newTup r (rx'.app ry')⟩
        · subst z
          cases rx'
          exact p.here r (.tup sy ry')
        · subst z2
          cases ry'
          rw [List.append_nil] at p
          exact p.here r (.tup sx rx')
      · exact p.elim
    | _ => exact p.elim
  | loc e1 =>
    cases qe with
    | loc e2 =>
      unfold addF at p
      dsimp only at p
      split at p
      · next xs ys hx hy =>
        split at p
        · next hl =>
          obtain ⟨vs, h1, q1⟩ := r.get e1 hx
          obtain ⟨ws, h2, q2⟩ := r.get e2 hy
          exact op_cat pins s σ H _ _ v u Q I rx ry ⟨_, _, _, _, rfl, rfl, h1, h2, by rw [q1.len, q2.len]; exact hl, p.newLst r (q1.app q2)⟩
        · exact p.elim
      · exact p.elim
    | _ => exact p.elim
  | _ => exact p.elim
theorem op_subF : OpR X (binaryOp .Sub) (rF X.K cl W subF) := by
  intro pins s σ H x y v u Q I rx ry ⟨m, h, d, e, qd, qe, r, p⟩
  cases qd with
  | int i =>
    cases qe with
    | int j => exact op_sub pins s σ H _ _ v u Q I rx ry ⟨i, j, rfl, rfl, Post.here (a := D.int (i - j)) p r (.int _)⟩
    | _ => exact p.elim
  | _ => exact p.elim
theorem op_mulF : OpR X (binaryOp .Mult) (rF X.K cl W mulF) := by
  intro pins s σ H x y v u Q I rx ry ⟨m, h, d, e, qd, qe, r, p⟩
  cases qd with
  | int i =>
    cases qe with
    | int j =>
      unfold mulF at p
      dsimp only at p
      split at p
      · next hc =>
        refine op_mul pins s σ H _ _ v u Q I rx ry ⟨i, j, rfl, rfl, ?_, p.here r (.int _)⟩
        unfold mulOk at hc
        rw [Bool.or_eq_true, Bool.and_eq_true, Bool.and_eq_true] at hc
        exact hc.imp (fun z => ⟨of_decide_eq_true z.1, of_decide_eq_true z.2⟩) fun z => ⟨of_decide_eq_true z.1, of_decide_eq_true z.2⟩
      · exact p.elim
    | _ => exact p.elim
  | @tup a0 xs0 vs0 sx rx' =>
    cases qe with
    | int k =>
      unfold mulF at p
      dsimp only at p
      split at p
      · next hc =>
        obtain ⟨c2, c3, c4⟩ := hc
        by_cases c1 : xs0 = [] ∨ k ≤ 1
        · refine op_rep0 pins s σ H _ _ v u Q I rx ry ⟨_, k, _, rfl, rfl, sx, c2, by omega, fun z => ?_, fun z z2 => ?_, c1.imp (fun e => by subst e; cases rx'; rfl) id⟩
          · refine p.here r (.tup sx ?_)
            rcases z with e | e
            · subst e
              cases rx'
              rw [show (List.replicate k.toNat ([] : List D)).flatten = [] by rw [List.flatten_replicate_nil]]
              exact .nil
            · subst e
              rw [show (List.replicate (1 : Int).toNat _).flatten = _ from List.append_nil _]
              exact rx'
          · have e : k.toNat = 0 := by omega
            rw [e] at p
            exact p.newTup r .nil
        · exact op_repT pins s σ H _ _ v u Q I rx ry ⟨_, k, _, rfl, rfl, sx, fun z => c1 (.inl (by subst z; cases rx'; rfl)), by omega, c3, by rw [rx'.len]; exact c4, p.newTup r (rx'.rep _)⟩
      · exact p.elim
    | _ => exact p.elim
  | loc e1 =>
    cases qe with
    | int k =>
      unfold mulF at p
      dsimp only at p
      split at p
      · next xs hx =>
        split at p
        · next hl =>
          obtain ⟨vs, h1, q1⟩ := r.get e1 hx
          exact op_rep pins s σ H _ _ v u Q I rx ry ⟨_, _, _, rfl, rfl, h1, hl.1, hl.2.1, by rw [q1.len]; exact hl.2.2, p.newLst r (q1.rep _)⟩
        · exact p.elim
      · exact p.elim
    | _ => exact p.elim
  | _ => exact p.elim
theorem op_divF : OpR X (binaryOp .FloorDiv) (rF X.K cl W divF) := by
  intro pins s σ H x y v u Q I rx ry ⟨m, h, d, e, qd, qe, r, p⟩
  cases qd with
  | int i =>
    cases qe with
    | int j =>
      unfold divF at p
      dsimp only at p
      split at p
      · next hc => exact op_fdiv pins s σ H _ _ v u Q I rx ry ⟨i, j, rfl, rfl, hc, p.here r (.int _)⟩
      · exact p.elim
    | _ => exact p.elim
  | _ => exact p.elim
theorem op_modF : OpR X (binaryOp .Mod) (rF X.K cl W modF) := by
  intro pins s σ H x y v u Q I rx ry ⟨m, h, d, e, qd, qe, r, p⟩
  cases qd with
  | int i =>
    cases qe with
    | int j =>
      unfold modF at p
      dsimp only at p
      split at p
      · next hc => exact op_mod pins s σ H _ _ v u Q I rx ry ⟨i, j, rfl, rfl, hc, p.here r (.int _)⟩
      · exact p.elim
    | _ => exact p.elim
  | _ => exact p.elim
theorem op_powF : OpR X (binaryOp .Pow) (rF X.K cl W powF) := by
  intro pins s σ H x y v u Q I rx ry ⟨m, h, d, e, qd, qe, r, p⟩
  cases qd with
  | int i =>
    cases qe with
    | int j =>
      unfold powF at p
      dsimp only at p
      split at p
      · next hc => exact op_pow pins s σ H _ _ v u Q I rx ry ⟨i, j, rfl, rfl, hc, p.here r (.int _)⟩
      · exact p.elim
    | _ => exact p.elim
  | _ => exact p.elim
theorem un_negF : UnR X (unaryOp .USub) (rF1 X.K cl W negF) := by
  intro pins s σ H x v Q I rx ⟨m, h, d, qd, r, p⟩
  cases qd with
  | int i => exact un_neg pins s σ H _ v Q I rx ⟨i, rfl, Post.here (a := D.int (-i)) p r (.int _)⟩
  | _ => exact p.elim
theorem op_ltF : OpR X (compareOp .Lt) (rF X.K cl W ltF) := by
  intro pins s σ H x y v u Q I rx ry ⟨m, h, d, e, qd, qe, r, p⟩
  cases qd with
  | int i =>
    cases qe with
    | int j => exact op_lt pins s σ H _ _ v u Q I rx ry ⟨i, j, rfl, rfl, Post.here (a := D.bl (decide (i < j))) p r (.bl _)⟩
    | _ => exact p.elim
  | _ => exact p.elim
theorem op_leF : OpR X (compareOp .LtE) (rF X.K cl W leF) := by
  intro pins s σ H x y v u Q I rx ry ⟨m, h, d, e, qd, qe, r, p⟩
  cases qd with
  | int i =>
    cases qe with
    | int j => exact op_le pins s σ H _ _ v u Q I rx ry ⟨i, j, rfl, rfl, Post.here (a := D.bl (decide (i ≤ j))) p r (.bl _)⟩
    | _ => exact p.elim
  | _ => exact p.elim
theorem op_gtF : OpR X (compareOp .Gt) (rF X.K cl W gtF) := by
  intro pins s σ H x y v u Q I rx ry ⟨m, h, d, e, qd, qe, r, p⟩
  cases qd with
  | int i =>
    cases qe with
    | int j => exact op_gt pins s σ H _ _ v u Q I rx ry ⟨i, j, rfl, rfl, Post.here (a := D.bl (decide (j < i))) p r (.bl _)⟩
    | _ => exact p.elim
  | _ => exact p.elim
theorem op_geF : OpR X (compareOp .GtE) (rF X.K cl W geF) := by
  intro pins s σ H x y v u Q I rx ry ⟨m, h, d, e, qd, qe, r, p⟩
  cases qd with
  | int i =>
    cases qe with
    | int j => exact op_ge pins s σ H _ _ v u Q I rx ry ⟨i, j, rfl, rfl, Post.here (a := D.bl (decide (j ≤ i))) p r (.bl _)⟩
    | _ => exact p.elim
  | _ => exact p.elim
theorem op_isF : OpR X (compareOp .Is) (rF X.K cl W isF) := by
  intro pins s σ H x y v u Q I rx ry ⟨m, h, d, e, qd, qe, r, p⟩
  cases qe with
  | non =>
    refine op_isN pins s σ H _ _ v u Q I rx ry ⟨rfl, ?_⟩
    have e1 : decide (x = V.non) = isNon d := by cases qd <;> rfl
    rw [e1]
    exact Post.here (a := D.bl (isNon d)) p r (.bl _)
  | _ => exact p.elim
theorem op_isntF : OpR X (compareOp .IsNot) (rF X.K cl W isntF) := by
  intro pins s σ H x y v u Q I rx ry ⟨m, h, d, e, qd, qe, r, p⟩
  cases qe with
  | non =>
    refine op_notN pins s σ H _ _ v u Q I rx ry ⟨rfl, ?_⟩
    have e1 : decide (x = V.non) = isNon d := by cases qd <;> rfl
    rw [e1]
    exact Post.here (a := D.bl (!isNon d)) p r (.bl _)
  | _ => exact p.elim

/-! ### data -/
section
variable {K : PySem.W.Frag} {m : List Addr} {H : Hp} {h : HA}
theorem mapM_cons_some {α β : Type} {f : α → Option β} {x : α} {xs : List α} {ys : List β} (e : (x :: xs).mapM f = some ys) : ∃ y zs, f x = some y ∧ xs.mapM f = some zs ∧ ys = y :: zs := by
  rw [List.mapM_cons] at e
  cases hx : f x with
  | none => rw [hx] at e; cases e
  | some y =>
    rw [hx] at e
    cases hz : xs.mapM f with
    | none => rw [hz] at e; cases e
    | some zs =>
      rw [hz] at e
      exact ⟨y, zs, rfl, rfl, (Option.some.inj e).symm⟩
theorem mapM_Dp (r : Rel K m H h) {n : Nat} (ih : ∀ (d : D) (v : V) (p : PyData), RV K m H d v → toP h n d = some p → Dp K H v p ∧ p.plain = true ∧ p.depth ≤ n) :
    ∀ (ds : List D) (vs : List V) (ps : List PyData), RVs K m H ds vs → ds.mapM (toP h n) = some ps → DpAll K H vs ps ∧ PyData.plainAll ps = true ∧ PyData.depthAll ps ≤ n
  | [], _, ps, .nil, e => by
    have : ps = [] := (Option.some.inj e).symm
    subst this
    exact ⟨.nil, rfl, Nat.zero_le _⟩
  | d :: ds, _, ps, .cons q qs, e => by
    obtain ⟨p, ps', e1, e2, rfl⟩ := mapM_cons_some e
    obtain ⟨a1, a2, a3⟩ := ih d _ p q e1
    obtain ⟨b1, b2, b3⟩ := mapM_Dp r ih ds _ ps' qs e2
    exact ⟨.cons a1 b1, by rw [PyData.plainAll, a2, b2]; rfl, by rw [PyData.depthAll]; exact Nat.max_le.mpr ⟨a3, b3⟩⟩
theorem toP_Dp (r : Rel K m H h) : ∀ (n : Nat) (d : D) (v : V) (p : PyData), RV K m H d v → toP h n d = some p → Dp K H v p ∧ p.plain = true ∧ p.depth ≤ n := by
  have base : ∀ (n : Nat) (d : D) (v : V) (p : PyData), (∀ xs, d ≠ .tup xs) → (∀ l, d ≠ .loc l) → RV K m H d v → toP h n d = some p → Dp K H v p ∧ p.plain = true ∧ p.depth ≤ n := by
    intro n d v p h1 h2 q e
    cases q with
    | non => cases n <;> (cases Option.some.inj e; exact ⟨.non, rfl, Nat.zero_le _⟩)
    | bl b => cases n <;> (cases Option.some.inj e; exact ⟨.bl b, rfl, Nat.zero_le _⟩)
    | int i => cases n <;> (cases Option.some.inj e; exact ⟨.int i, rfl, Nat.zero_le _⟩)
    | str x => cases n <;> (cases Option.some.inj e; exact ⟨.str x, rfl, Nat.zero_le _⟩)
    | tup _ _ => exact absurd rfl (h1 _)
    | loc _ => exact absurd rfl (h2 _)
    | ty _ => cases n <;> cases e
  intro n
  induction n with
  | zero =>
    intro d v p q e
    cases d with
    | tup xs => cases e
    | loc l => cases e
    | _ => exact base 0 _ v p (by intro _ z; cases z) (by intro _ z; cases z) q e
  | succ n ih =>
    intro d v p q e
    have lists : ∀ (xs : List D) (l : Nat), d = .loc l → (h[l]? = some (.lst xs) ∨ h[l]? = some (.ro xs)) → (xs.mapM (toP h n)).map PyData.list = some p → Dp K H v p ∧ p.plain = true ∧ p.depth ≤ n + 1 := by
      clear e
      intro xs l ed hx e
      subst ed
      cases q with
      | loc em =>
        cases hm : xs.mapM (toP h n) with
        | none => rw [hm] at e; cases e
        | some ps =>
          rw [hm] at e
          cases Option.some.inj e
          obtain ⟨vs, s, t⟩ := r.ro em hx
          obtain ⟨a1, a2, a3⟩ := mapM_Dp r ih xs vs ps t hm
          exact ⟨.lst s a1, by rw [PyData.plain]; exact a2, by rw [PyData.depth]; exact Nat.succ_le_succ a3⟩
    cases d with
    | tup xs =>
      cases q with
      | tup s t =>
        have e : (xs.mapM (toP h n)).map PyData.tuple = some p := e
        cases hm : xs.mapM (toP h n) with
        | none => rw [hm] at e; cases e
        | some ps =>
          rw [hm] at e
          cases Option.some.inj e
          obtain ⟨a1, a2, a3⟩ := mapM_Dp r ih xs _ ps t hm
          exact ⟨.tup s a1, by rw [PyData.plain]; exact a2, by rw [PyData.depth]; exact Nat.succ_le_succ a3⟩
    | loc l =>
      unfold toP at e
      split at e
      · next xs hx => exact lists xs l rfl (.inl hx) e
      · next xs hx => exact lists xs l rfl (.inr hx) e
      · cases e
    | _ => exact base (n + 1) _ v p (by intro _ z; cases z) (by intro _ z; cases z) q e
end
theorem op_eqF (hu : X.A.units + 64 < cLine) : OpR X (compareOp .Eq) (rF X.K cl W eqF) := by
  intro pins s σ H x y v u Q I rx ry ⟨m, h, d, e, qd, qe, r, p⟩
  unfold eqF at p
  split at p
  · next a b ha hb =>
    obtain ⟨d1, p1, n1⟩ := toP_Dp r 40 d x a qd ha
    obtain ⟨d2, p2, n2⟩ := toP_Dp r 40 e y b qe hb
    obtain ⟨as, r1⟩ := Dp.reads I a x v d1 rx
    obtain ⟨bs, r2⟩ := Dp.reads I b y u d2 ry
    exact SeqAt.eq_plain r1 r2 p1 p2 (by omega) ⟨.bl _, H, I, rfl, p.here r (.bl _)⟩
  · exact p.elim
theorem op_neF (hu : X.A.units + 64 < cLine) : OpR X (compareOp .NotEq) (rF X.K cl W neF) := by
  intro pins s σ H x y v u Q I rx ry ⟨m, h, d, e, qd, qe, r, p⟩
  unfold neF at p
  split at p
  · next a b ha hb =>
    obtain ⟨d1, p1, n1⟩ := toP_Dp r 40 d x a qd ha
    obtain ⟨d2, p2, n2⟩ := toP_Dp r 40 e y b qe hb
    obtain ⟨as, r1⟩ := Dp.reads I a x v d1 rx
    obtain ⟨bs, r2⟩ := Dp.reads I b y u d2 ry
    exact SeqAt.ne_plain r1 r2 p1 p2 (by omega) ⟨.bl _, H, I, rfl, p.here r (.bl _)⟩
  · exact p.elim
theorem items_Dp {K : PySem.W.Frag} {m : List Addr} {H : Hp} {h : HA} {d : D} {v : V} {xs : List D} {ps : List PyData} (r : Rel K m H h) (q : RV K m H d v) (e : items? h d = some xs) (e2 : xs.mapM (toP h 40) = some ps) :
    (Dp K H v (.list ps) ∨ Dp K H v (.tuple ps)) ∧ PyData.plainAll ps = true ∧ PyData.depthAll ps ≤ 40 := by
  cases q with
  | tup s t =>
    cases Option.some.inj e
    obtain ⟨a1, a2, a3⟩ := mapM_Dp r (toP_Dp r 40) _ _ ps t e2
    exact ⟨.inr (.tup s a1), a2, a3⟩
  | @loc l a em =>
    have key : ∀ ys, (h[l]? = some (O.lst ys) ∨ h[l]? = some (O.ro ys)) → ys = xs → (Dp K H (.ref a) (.list ps) ∨ Dp K H (.ref a) (.tuple ps)) ∧ PyData.plainAll ps = true ∧ PyData.depthAll ps ≤ 40 := fun ys hy z => by
      subst z
      obtain ⟨vs, s, t⟩ := r.ro em hy
      obtain ⟨a1, a2, a3⟩ := mapM_Dp r (toP_Dp r 40) _ _ ps t e2
      exact ⟨.inl (.lst s a1), a2, a3⟩
    unfold items? at e
    dsimp only at e
    split at e
    · next ys hy => exact key ys (.inl hy) (Option.some.inj e)
    · next ys hy => exact key ys (.inr hy) (Option.some.inj e)
    · cases e
  | _ => cases e
theorem op_inF (hu : X.A.units + 64 < cLine) : OpR X (compareOp .In) (rF X.K cl W inF) := by
  intro pins s σ H x y v u Q I rx ry ⟨m, h, d, e, qd, qe, r, p⟩
  unfold inF at p
  split at p
  · next a ys ha hb =>
    obtain ⟨xs, e1, e2⟩ := Option.bind_eq_some_iff.mp hb
    obtain ⟨d1, p1, n1⟩ := toP_Dp r 40 d x a qd ha
    obtain ⟨d2, p2, n2⟩ := items_Dp r qe e1 e2
    obtain ⟨as, r1⟩ := Dp.reads I a x v d1 rx
    rcases d2 with d2 | d2
    · obtain ⟨bs, r2⟩ := Dp.reads I _ y u d2 ry
      exact SeqAt.in_list_data r2 r1 p2 p1 (by omega) ⟨.bl _, H, I, rfl, p.here r (.bl _)⟩
    · obtain ⟨bs, r2⟩ := Dp.reads I _ y u d2 ry
      exact SeqAt.in_tuple_data r2 r1 p2 p1 (by omega) ⟨.bl _, H, I, rfl, p.here r (.bl _)⟩
  · exact p.elim
theorem op_ninF (hu : X.A.units + 64 < cLine) : OpR X (compareOp .NotIn) (rF X.K cl W ninF) := by
  intro pins s σ H x y v u Q I rx ry ⟨m, h, d, e, qd, qe, r, p⟩
  unfold ninF at p
  split at p
  · next a ys ha hb =>
    obtain ⟨xs, e1, e2⟩ := Option.bind_eq_some_iff.mp hb
    obtain ⟨d1, p1, n1⟩ := toP_Dp r 40 d x a qd ha
    obtain ⟨d2, p2, n2⟩ := items_Dp r qe e1 e2
    obtain ⟨as, r1⟩ := Dp.reads I a x v d1 rx
    rcases d2 with d2 | d2
    · obtain ⟨bs, r2⟩ := Dp.reads I _ y u d2 ry
      exact SeqAt.notIn_list_data r2 r1 p2 p1 (by omega) ⟨.bl _, H, I, rfl, p.here r (.bl _)⟩
    · obtain ⟨bs, r2⟩ := Dp.reads I _ y u d2 ry
      exact SeqAt.notIn_tuple_data r2 r1 p2 p1 (by omega) ⟨.bl _, H, I, rfl, p.here r (.bl _)⟩
  · exact p.elim
end
end Dx

/-! Dx3: displays, places, slices, built-ins, methods. -/
namespace Dx
open PySem PySem.Spec PyProof.Rows L2

/-! ### displays -/
def tupF (g : Env' → M (List D)) : Env' → M D := fun ρ => M.bind (g ρ) fun ds h => if ds.length ≤ sizeLine then .ok (.tup ds) h else .bad
def lstF (g : Env' → M (List D)) : Env' → M D := fun ρ => M.bind (g ρ) fun ds h => if ds.length ≤ sizeLine then .ok (.loc h.length) (h ++ [.lst ds]) else .bad
section
variable {X : Cx} {cl : Nat → Value} {W : Wh} {K : PySem.W.Frag} {es : List Expr} {pos : Pos}
theorem de_tup {x1 : Nat} {g : Env' → M (List D)} (ha : PA X es (tA K cl W g)) : PE X (.Tuple es x1 pos) (tE K cl W (tupF g)) := by
  refine PE.imp (pe_tup ha) fun σ H Q ⟨m, ρ, h, e, r, p⟩ => ?_
  refine ⟨m, ρ, h, e, r, p.bind.mono fun x H1 ⟨m1, d, h1, x1, r1, q1, p1⟩ => ?_⟩
  split at p1
  · next hl => exact ⟨by rw [q1.len]; exact hl, p1.newTup r1 q1⟩
  · exact p1.elim
theorem de_lst {g : Env' → M (List D)} (ha : PA X es (tA K cl W g)) : PE X (.List es pos) (tE K cl W (lstF g)) := by
  refine PE.imp (pe_lst ha) fun σ H Q ⟨m, ρ, h, e, r, p⟩ => ?_
  refine ⟨m, ρ, h, e, r, p.bind.mono fun x H1 ⟨m1, d, h1, x1, r1, q1, p1⟩ => ?_⟩
  split at p1
  · next hl => exact ⟨by rw [q1.len]; exact hl, p1.newLst r1 q1⟩
  · exact p1.elim
end

/-! ### places -/
def ixF : D → D → M D
  | .tup xs, .int i => fun h => match atI xs i with | some d => .ok d h | none => .bad
  | .loc l, .int i => fun h => match (items? h (.loc l)).bind fun xs => atI xs i with | some d => .ok d h | none => .bad
  | .str z, .int i => fun h => if z.length ≤ sizeLine then (match atI z.cps.toList i with | some c => .ok (.str ⟨#[c]⟩) h | none => .bad) else .bad
  | _, _ => M.bad
theorem RVs.atI {K : PySem.W.Frag} {m : List Addr} {H : Hp} {ds : List D} {vs : List V} {i : Int} {d : D} (r : RVs K m H ds vs) (e : L2.atI ds i = some d) : ∃ v, L2.atI vs i = some v ∧ RV K m H d v := by
  unfold L2.atI at e ⊢
  rw [r.len]
  cases hx : ixN ds.length i with
  | none => rw [hx] at e; cases e
  | some j =>
    rw [hx] at e
    exact RVs.get j r e
section
variable {X : Cx} {cl : Nat → Value} {W : Wh} {a b e : Expr} {pos p2 : Pos}
theorem ix_F : IxR X (rF X.K cl W ixF) := by
  intro value slice pins s σ H x y v u Q I rx ry ⟨m, h, d, e, qd, qe, r, p⟩ hs
  cases qd with
  | tup sx rx' =>
    cases qe with
    | int i =>
      unfold ixF at p
      dsimp only at p
      split at p
      · next d hd =>
        obtain ⟨w, e1, q1⟩ := rx'.atI hd
        exact ix_tup value slice pins s σ H _ _ v u Q I rx ry ⟨_, _, i, w, rfl, rfl, sx, e1, p.here r q1⟩ hs
      · exact p.elim
    | _ => exact p.elim
  | @loc l a em =>
    cases qe with
    | int i =>
      unfold ixF at p
      dsimp only at p
      split at p
      · next d hd =>
        obtain ⟨xs, e1, e2⟩ := Option.bind_eq_some_iff.mp hd
        have key : ∃ vs, SqL X.K H a vs ∧ RVs X.K m H xs vs := by
          unfold items? at e1
          dsimp only at e1
          split at e1
          · next ys hy => cases Option.some.inj e1; exact r.ro em (.inl hy)
          · next ys hy => cases Option.some.inj e1; exact r.ro em (.inr hy)
          · cases e1
        obtain ⟨vs, sx, rx'⟩ := key
        obtain ⟨w, e1, q1⟩ := rx'.atI e2
        exact ix_list value slice pins s σ H _ _ v u Q I rx ry ⟨_, _, i, w, rfl, rfl, sx, e1, p.here r q1⟩ hs
      · exact p.elim
    | _ => exact p.elim
  | str z =>
    cases qe with
    | int i =>
      unfold ixF at p
      dsimp only at p
      split at p
      · next hl =>
        split at p
        · next c hc => exact ix_str value slice pins s σ H _ _ v u Q I rx ry ⟨z, i, c, rfl, rfl, hl, hc, p.here r (.str _)⟩ hs
        · exact p.elim
      · exact p.elim
    | _ => exact p.elim
  | _ => exact p.elim
theorem de_ix {fa fb : Env' → M D} (ha : PE X a (tE X.K cl W fa)) (hb : PE X b (tE X.K cl W fb)) (hp : PlainIx b) : PE X (.Subscript a b pos) (tE X.K cl W (bin2 ixF fa fb)) :=
  PE.imp (pe_ix ix_F ha hb hp) fun _ _ _ p => tOp_of p

/-! ### slices -/
def cutD (xs : List D) (lo hi : Option Int) : List D := (xs.drop (HT.sIx xs.length 0 lo)).take (HT.sIx xs.length xs.length hi - HT.sIx xs.length 0 lo)
def slF : D → Option Int → Option Int → M D
  | .tup xs, lo, hi => fun h => .ok (.tup (cutD xs lo hi)) h
  | .loc l, lo, hi => fun h => match items? h (.loc l) with | some xs => .ok (.loc h.length) (h ++ [.lst (cutD xs lo hi)]) | none => .bad
  | .str z, lo, hi => fun h => if z.length ≤ sizeLine then .ok (.str (Txt.slice z lo hi)) h else .bad
  | _, _, _ => M.bad
def partF (f : Env' → M D) : Env' → M (Option Int) := fun ρ => M.bind (f ρ) fun d => match d with | .int i => fun h => .ok (some i) h | _ => M.bad
def nopartF : Env' → M (Option Int) := fun _ h => .ok none h
def RI : List Addr → Hp → Option Int → Option Int → Prop := fun _ _ a b => a = b
theorem PO.imp {x : Option Expr} {t t' : TO} (h : PO X x t) (i : ∀ σ H Q, t' σ H Q → t σ H Q) : PO X x t' := ⟨fun pins s σ H Q I q => h.run pins s σ H Q I (i σ H Q q)⟩
theorem do_none {K : PySem.W.Frag} : PO X none (tG K cl RI W nopartF) := PO.imp po_none fun σ H Q ⟨m, ρ, h, e, q, p⟩ => Post.here (a := none) p q rfl
theorem do_some {K : PySem.W.Frag} {f : Env' → M D} (ha : PE X a (tE K cl W f)) : PO X (some a) (tG K cl RI W (partF f)) := by
  refine PO.imp (po_some ha) fun σ H Q ⟨m, ρ, h, e, r, p⟩ => ?_
  refine ⟨m, ρ, h, e, r, p.bind.mono fun x H1 ⟨m1, d, h1, x1, r1, q1, p1⟩ => ?_⟩
  cases q1 with
  | int i => exact ⟨i, rfl, Post.here (a := some i) p1 r1 rfl⟩
  | _ => exact p1.elim
def sliceF (f : Env' → M D) (lo hi : Env' → M (Option Int)) : Env' → M D := fun ρ => M.bind (f ρ) fun d => M.bind (lo ρ) fun i => M.bind (hi ρ) fun j => slF d i j
def rS (K : PySem.W.Frag) (cl : Nat → Value) (W : Wh) : V → Option Int → Option Int → Hp → VK → Prop := fun x lo hi H Q => ∃ m h d, RV K m H d x ∧ Rel K m H h ∧ Post K cl (RV K) m H (slF d lo hi h) Q W
theorem RVs.cut {K : PySem.W.Frag} {m : List Addr} {H : Hp} {ds : List D} {vs : List V} (r : RVs K m H ds vs) (lo hi : Option Int) : RVs K m H (cutD ds lo hi) (cutV vs lo hi) := by
  unfold cutD cutV
  rw [r.len]
  exact (r.drop _).take _
theorem sl_F : SlR X (rS X.K cl W) := by
  intro pins s σ H x v vl vu lo hi sl Q I rx hs pl pu ⟨m, h, d, qd, r, p⟩
  cases qd with
  | @tup a xs vs sx rx' =>
    have p : Post X.K cl (RV X.K) m H (.ok (.tup (cutD xs lo hi)) h) Q W := p
    refine sl_tupA pins s σ H _ v vl vu lo hi sl Q I rx hs pl pu ⟨_, _, rfl, sx, fun z => ?_, fun _ => p.newTup r (rx'.cut lo hi)⟩
    have e : cutD xs lo hi = xs := by
      unfold cutD
      rw [rx'.len] at z
      rw [z.1, z.2, List.drop_zero, Nat.sub_zero, List.take_length]
    rw [e] at p
    exact p.here r (.tup sx rx')
  | @loc l a em =>
    unfold slF at p
    dsimp only at p
    split at p
    · next xs hx =>
      have key : ∃ vs, SqL X.K H a vs ∧ RVs X.K m H xs vs := by
        unfold items? at hx
        dsimp only at hx
        split at hx
        · next ys hy => cases Option.some.inj hx; exact r.ro em (.inl hy)
        · next ys hy => cases Option.some.inj hx; exact r.ro em (.inr hy)
        · cases hx
      obtain ⟨vs, sx, rx'⟩ := key
      exact sl_list pins s σ H _ v vl vu lo hi sl Q I rx hs pl pu ⟨_, _, rfl, sx, p.newLst r (rx'.cut lo hi)⟩
    · exact p.elim
  | str z =>
    unfold slF at p
    dsimp only at p
    split at p
    · next hl => exact C8.sl_txt pins s σ H _ v vl vu lo hi sl Q I rx hs pl pu ⟨z, rfl, hl, p.here r (.str _)⟩
    · exact p.elim
  | _ => exact p.elim
theorem de_slice {f : Env' → M D} {fl fh : Env' → M (Option Int)} {lo hi : Option Expr} (ha : PE X e (tE X.K cl W f)) (hl : PO X lo (tG X.K cl RI W fl)) (hh : PO X hi (tG X.K cl RI W fh)) : PE X (.Subscript e (.Slice lo hi none p2) pos) (tE X.K cl W (sliceF f fl fh)) := by
  refine PE.imp (pe_slice (sl_F (cl := cl) (W := W)) ha hl hh) fun σ H Q ⟨m, ρ, h, e, r, p⟩ => ?_
  refine ⟨m, ρ, h, e, r, p.bind.mono fun x H1 ⟨m1, d, h1, x1, r1, q1, p1⟩ => ?_⟩
  refine ⟨m1, ρ, h1, e.ext x1, r1, p1.bind.mono fun lo' H2 ⟨m2, i, h2, x2, r2, q2, p2⟩ => ?_⟩
  cases q2
  refine ⟨m2, ρ, h2, (e.ext x1).ext x2, r2, p2.bind.mono fun hi' H3 ⟨m3, j, h3, x3, r3, q3, p3⟩ => ?_⟩
  cases q3
  exact ⟨m3, h3, d, (q1.ext x2).ext x3, r3, p3⟩
end

/-! ### built-ins -/
def intsOf : List D → Option (List Int)
  | [] => some []
  | .int i :: r => (intsOf r).map (i :: ·)
  | _ :: _ => none
theorem intsOf_eq : ∀ {ds : List D} {ns : List Int}, intsOf ds = some ns → ds = ns.map D.int
  | [], _, e => by cases e; rfl
  | .int i :: r, ns, e => by
    unfold intsOf at e
    cases h : intsOf r with
    | none => rw [h] at e; cases e
    | some ms =>
      rw [h] at e
      cases e
      rw [List.map_cons, ← intsOf_eq h]
theorem intsOf_map : ∀ (ns : List Int), intsOf (ns.map D.int) = some ns
  | [] => rfl
  | n :: ns => by
    rw [List.map_cons, intsOf, intsOf_map ns]
    rfl
def lenF : List D → M D
  | [.tup xs] => fun h => .ok (.int xs.length) h
  | [.loc l] => fun h => match items? h (.loc l) with | some xs => .ok (.int xs.length) h | none => .bad
  | [.str z] => fun h => if z.length ≤ sizeLine then .ok (.int z.length) h else .bad
  | _ => M.bad
def intF : List D → M D
  | [.int i] => fun h => .ok (.int i) h
  | [.bl b] => fun h => .ok (.int (if b then 1 else 0)) h
  | _ => M.bad
def listF : List D → M D
  | [d] => fun h => match items? h d with | some xs => .ok (.loc h.length) (h ++ [.lst xs]) | none => .bad
  | _ => M.bad
def tupleF : List D → M D
  | [d] => fun h => match items? h d with | some xs => .ok (.tup xs) h | none => .bad
  | _ => M.bad
def sumF : List D → M D
  | [d] => fun h => match (items? h d).bind intsOf with | some ns => .ok (.int ns.sum) h | none => .bad
  | _ => M.bad
def minF : List D → M D
  | [.int i, .int j] => fun h => .ok (.int (if j < i then j else i)) h
  | _ => M.bad
def maxF : List D → M D
  | [.int i, .int j] => fun h => .ok (.int (if j > i then j else i)) h
  | _ => M.bad
def tyName : D → HA → Option String
  | .non, _ => some "NoneType"
  | .bl _, _ => some "bool"
  | .int _, _ => some "int"
  | .str _, _ => some "str"
  | .tup _, _ => some "tuple"
  | .loc l, h => match h[l]? with | some (.lst _) => some "list" | some (.ro _) => some "list" | _ => none
  | .ty _, _ => none
def isiF : List D → M D
  | [d, .ty n] => fun h => match (tyName d h).bind fun t => kitB t n with | some b => .ok (.bl b) h | none => .bad
  | _ => M.bad
section
variable {X : Cx} {cl : Nat → Value} {W : Wh}
theorem items_of {K : PySem.W.Frag} {m : List Addr} {H : Hp} {h : HA} {d : D} {v : V} {xs : List D} (r : Rel K m H h) (q : RV K m H d v) (e : items? h d = some xs) : ∃ a vs, v = .ref a ∧ RVs K m H xs vs ∧ (SqL K H a vs ∨ (SqT K H a vs ∧ d = .tup xs)) := by
  cases q with
  | tup s t =>
    cases Option.some.inj e
    exact ⟨_, _, rfl, t, .inr ⟨s, rfl⟩⟩
  | loc em =>
    unfold items? at e
    dsimp only at e
    split at e
    · next ys hy =>
      cases Option.some.inj e
      obtain ⟨vs, s, t⟩ := r.ro em (.inl hy)
      exact ⟨_, vs, rfl, t, .inl s⟩
    · next ys hy =>
      cases Option.some.inj e
      obtain ⟨vs, s, t⟩ := r.ro em (.inr hy)
      exact ⟨_, vs, rfl, t, .inl s⟩
    · cases e
  | _ => cases e
theorem RVs.one {K : PySem.W.Frag} {m : List Addr} {H : Hp} {d : D} {vs : List V} (r : RVs K m H [d] vs) : ∃ v, vs = [v] ∧ RV K m H d v := by
  cases r with
  | cons a b =>
    cases b
    exact ⟨_, rfl, a⟩
theorem RVs.two {K : PySem.W.Frag} {m : List Addr} {H : Hp} {d e : D} {vs : List V} (r : RVs K m H [d, e] vs) : ∃ v w, vs = [v, w] ∧ RV K m H d v ∧ RV K m H e w := by
  cases r with
  | cons a b =>
    obtain ⟨w, rfl, q⟩ := b.one
    exact ⟨_, _, rfl, a, q⟩
theorem cr_lenF : CallR X (.builtin "len") (rL X.K cl W lenF) := by
  intro pins s σ H xs us Q I rv ⟨m, h, ds, qs, r, p⟩
  unfold lenF at p
  split at p
  · next ys =>
    obtain ⟨v, rfl, q⟩ := qs.one
    cases q with
    | tup sx rx =>
      refine call_len pins s σ H _ us Q I rv ⟨_, ys.length, rfl, .inr ⟨_, sx, rx.len.symm⟩, p.here r (.int _)⟩
  · next l =>
    obtain ⟨v, rfl, q⟩ := qs.one
    split at p
    · next ys hy =>
      obtain ⟨a, vs, rfl, t, s' | ⟨_, z⟩⟩ := items_of r q hy
      · exact call_len pins s σ H _ us Q I rv ⟨_, ys.length, rfl, .inl ⟨_, s', t.len.symm⟩, p.here r (.int _)⟩
      · cases z
    · exact p.elim
  · next z =>
    obtain ⟨v, rfl, q⟩ := qs.one
    cases q
    split at p
    · next hl => exact call_len pins s σ H _ us Q I rv ⟨_, _, rfl, ⟨hl, rfl⟩, p.here r (.int _)⟩
    · exact p.elim
  · exact p.elim
theorem cr_intF : CallR X (.type "int") (rL X.K cl W intF) := by
  intro pins s σ H xs us Q I rv ⟨m, h, ds, qs, r, p⟩
  unfold intF at p
  split at p
  · next i =>
    obtain ⟨v, rfl, q⟩ := qs.one
    cases q
    exact call_int1 pins s σ H _ us Q I rv (.inl ⟨i, rfl, Post.here (a := D.int i) p r (.int _)⟩)
  · next b =>
    obtain ⟨v, rfl, q⟩ := qs.one
    cases q
    exact call_int1 pins s σ H _ us Q I rv (.inr ⟨b, rfl, Post.here (a := D.int (if b then 1 else 0)) p r (.int _)⟩)
  · exact p.elim
theorem cr_listF : CallR X (.type "list") (rL X.K cl W listF) := by
  intro pins s σ H xs us Q I rv ⟨m, h, ds, qs, r, p⟩
  unfold listF at p
  split at p
  · next d =>
    obtain ⟨v, rfl, q⟩ := qs.one
    split at p
    · next ys hy =>
      obtain ⟨a, vs, rfl, t, s' | ⟨s', _⟩⟩ := items_of r q hy
      · exact call_list_of pins s σ H _ us Q I rv ⟨_, _, rfl, .inl s', p.newLst r t⟩
      · exact call_list_of pins s σ H _ us Q I rv ⟨_, _, rfl, .inr s', p.newLst r t⟩
    · exact p.elim
  · exact p.elim
theorem cr_tupleF : CallR X (.type "tuple") (rL X.K cl W tupleF) := by
  intro pins s σ H xs us Q I rv ⟨m, h, ds, qs, r, p⟩
  unfold tupleF at p
  split at p
  · next d =>
    obtain ⟨v, rfl, q⟩ := qs.one
    split at p
    · next ys hy =>
      obtain ⟨a, vs, rfl, t, s' | ⟨s', z⟩⟩ := items_of r q hy
      · exact call_tuple_of pins s σ H _ us Q I rv ⟨_, _, rfl, .inl ⟨s', p.newTup r t⟩⟩
      · exact call_tuple_of pins s σ H _ us Q I rv ⟨_, _, rfl, .inr ⟨s', p.here r (.tup s' t)⟩⟩
    · exact p.elim
  · exact p.elim
theorem cr_minF (hc : X.calm = true) : CallR X (.builtin "min") (rL X.K cl W minF) := by
  intro pins s σ H xs us Q I rv ⟨m, h, ds, qs, r, p⟩
  unfold minF at p
  split at p
  · next i j =>
    obtain ⟨v, w, rfl, q1, q2⟩ := qs.two
    cases q1
    cases q2
    exact call_min2 hc pins s σ H _ us Q I rv ⟨i, j, rfl, Post.here (a := D.int (if j < i then j else i)) p r (.int _)⟩
  · exact p.elim
theorem cr_maxF (hc : X.calm = true) : CallR X (.builtin "max") (rL X.K cl W maxF) := by
  intro pins s σ H xs us Q I rv ⟨m, h, ds, qs, r, p⟩
  unfold maxF at p
  split at p
  · next i j =>
    obtain ⟨v, w, rfl, q1, q2⟩ := qs.two
    cases q1
    cases q2
    exact call_max2 hc pins s σ H _ us Q I rv ⟨i, j, rfl, Post.here (a := D.int (if j > i then j else i)) p r (.int _)⟩
  · exact p.elim
theorem sum_tup {prog : Program} {w : World} {A : Around} {E : Value → Shared → Prop} {s : Shared} {l : Addr} {its : List Value} {ns : List Int} {Q : Value → Shared → Prop} (hh : A.handled = none) (hl : s.heap.IsTuple l its.toArray) (hi : IntsAre its ns)
    (h : ∀ h' tk t', (∀ b o, s.heap.get? b = some o → h'.get? b = some o) → Q (.int ns.sum t') { s with heap := h', toks := tk }) : wpAny (model prog w) A (call (.builtin "sum") [.ref l]) Q E s := by
  obtain ⟨xs, hx⟩ := hi.allInts.items
  have hn : numsOf its.toArray.toList = ns := hi.numsOf
  rw [hx, nums_intItems] at hn
  rw [hx] at hl
  refine PySem.W.ktm_sumG hh hl fun h' tk t' hk => ?_
  have q := h h' tk t' hk
  rw [preSum_eq, List.take_of_length_le (by simp), hn]
  exact q
theorem cr_sumF (hc : X.calm = true) : CallR X (.builtin "sum") (rL X.K cl W sumF) := by
  intro pins s σ H xs us Q I rv ⟨m, h, ds, qs, r, p⟩
  unfold sumF at p
  split at p
  · next d =>
    obtain ⟨v, rfl, q⟩ := qs.one
    split at p
    · next ns hy =>
      obtain ⟨ys, e1, e2⟩ := Option.bind_eq_some_iff.mp hy
      obtain ⟨a, vs, rfl, t, s'⟩ := items_of r q e1
      cases intsOf_eq e2
      cases t.ints
      rcases s' with s' | ⟨s', _⟩
      · exact cr_sum hc pins s σ H _ us Q I rv ⟨a, ns, rfl, s', p.here r (.int _)⟩
      · obtain ⟨its, rv', ht, _⟩ := I.tuple s'
        cases rv with
        | cons r1 r2 =>
          cases r2
          cases r1
          exact sum_tup (I.ok.hd hc) (show s.heap.IsTuple a its.toArray from ht) rv'.ints fun h' tk t' hk => ⟨.int _, H, I.kept hk, ⟨_, rfl⟩, p.here r (.int _)⟩
    · exact p.elim
  · exact p.elim
theorem tyX_of {K : PySem.W.Frag} {m : List Addr} {H : Hp} {h : HA} {d : D} {v : V} {t : String} (r : Rel K m H h) (q : RV K m H d v) (e : tyName d h = some t) : TyX K H v (.type t) := by
  have sq : ∀ {a : Addr} {vs : List V}, SqL K H a vs → TyX K H (.ref a) (.type "list") := fun {a vs} s => by
    rcases s with (s | ⟨o, s⟩) | ⟨o, _, _, s, c, _⟩
    · exact .base (.lst s)
    · exact .base (.frz s)
    · exact .kList s c
  cases q with
  | non => cases e; exact .base .non
  | bl b => cases e; exact .base (.bl b)
  | int i => cases e; exact .base (.int i)
  | str x => cases e; exact .base (.str x)
  | tup s _ =>
    cases e
    rcases s with (s | ⟨o, s⟩) | ⟨o, _, _, s, c, _⟩
    · exact .base (.tup s)
    · exact .fTuple s
    · exact .kTuple s c
  | loc em =>
    unfold tyName at e
    dsimp only at e
    split at e
    · next xs hx =>
      cases e
      obtain ⟨vs, s, _⟩ := r.ro em (.inl hx)
      exact sq s
    · next xs hx =>
      cases e
      obtain ⟨vs, s, _⟩ := r.ro em (.inr hx)
      exact sq s
    · cases e
  | ty n => cases e
theorem cr_isiF : CallR X (.builtin "isinstance") (rL X.K cl W isiF) := by
  intro pins s σ H xs us Q I rv ⟨m, h, ds, qs, r, p⟩
  unfold isiF at p
  split at p
  · next d n =>
    obtain ⟨v, w, rfl, q1, q2⟩ := qs.two
    cases q2
    split at p
    · next b hb =>
      obtain ⟨t, e1, e2⟩ := Option.bind_eq_some_iff.mp hb
      exact call_isi pins s σ H _ us Q I rv ⟨v, .ty n, .type t, .type n, b, rfl, .ty n, tyX_of r q1 e1, kit_ty e2, p.here r (.bl _)⟩
    · exact p.elim
  · exact p.elim

/-! ### list(range(..)), tuple(range(..)) -/
def rgD (a b : Int) : List D := (List.range (b - a).toNat).map fun i => D.int (a + (i : Nat))
def rgOk (a b : Int) : Prop := -(2 ^ 62) ≤ a ∧ a < 2 ^ 62 ∧ -(2 ^ 62) ≤ b ∧ b < 2 ^ 62 ∧ (b - a).toNat ≤ 2 ^ 24
instance (a b : Int) : Decidable (rgOk a b) := by unfold rgOk; infer_instance
theorem rgD_V {K : PySem.W.Frag} {m : List Addr} {H : Hp} (a b : Int) : RVs K m H (rgD a b) (rgV a b) := by
  unfold rgD rgV
  have : ∀ (l : List Nat), RVs K m H (l.map fun i => D.int (a + (i : Nat))) (l.map fun i => V.int (a + (i : Nat))) := by
    intro l
    induction l with
    | nil => exact .nil
    | cons x r ih => exact .cons (.int _) ih
  exact this _
def lrgF (fa fb : Env' → M D) : Env' → M D := fun ρ => M.bind (fa ρ) fun d => M.bind (fb ρ) fun e => match d, e with
  | .int a, .int b => fun h => if rgOk a b then .ok (.loc h.length) (h ++ [.lst (rgD a b)]) else .bad
  | _, _ => M.bad
def trgF (fa fb : Env' → M D) : Env' → M D := fun ρ => M.bind (fa ρ) fun d => M.bind (fb ρ) fun e => match d, e with
  | .int a, .int b => fun h => if rgOk a b then .ok (.tup (rgD a b)) h else .bad
  | _, _ => M.bad
def RR2 : List Addr → Hp → Int × Int → Int × Int → Prop := fun _ _ a b => a = b
end
end Dx

/-! Dx3b: a[::-1], sorted(set(a)). -/
namespace Dx
open PySem PySem.Spec PyProof.Rows L2
def revF : D → M D
  | .tup xs => fun h => .ok (.tup xs.reverse) h
  | .loc l => fun h => match items? h (.loc l) with | some xs => .ok (.loc h.length) (h ++ [.lst xs.reverse]) | none => .bad
  | _ => M.bad
section
variable {X : Cx} {cl : Nat → Value} {W : Wh} {e : Expr} {k0 : Nat} {p1 p2 p3 pos : Pos}
theorem de_rev {f : Env' → M D} (he : PE X e (tE X.K cl W f)) : PE X (.Subscript e (.Slice none none (some (.UnaryOp .USub (.Constant (.int 1) k0 p1) p2)) p3) pos) (tE X.K cl W (un1 revF f)) := by
  refine ⟨fun pins s σ H Q I ⟨m, ρ, h, ev, r, p⟩ => ?_⟩
  refine Subscript_ (thn (he.run pins s σ H _ I ⟨m, ρ, h, ev, r, p.bind⟩) fun v s1 ⟨x, H1, I1, r1, m1, d, h1, x1, rr1, q1, pp⟩ => ?_)
  have hst : PO X (some (.UnaryOp .USub (.Constant (.int 1) k0 p1) p2)) (tPart (tUn (rU fun i => .int (-i)) (tC (.int 1)))) := po_some (pe_un un_neg pe_int)
  refine wpAny_Slice (thn (po_none.run pins s1 σ H1 (fun o H2 => o = none ∧ H2 = H1) I1 ⟨rfl, rfl⟩) fun vl s2 ⟨lo, H2, I2, pl, el, e2⟩ => ?_)
  subst el; subst e2
  refine thn (po_none.run pins s2 σ H2 (fun o H3 => o = none ∧ H3 = H2) I2 ⟨rfl, rfl⟩) fun vu s3 ⟨u, H3, I3, pu, eu, e3⟩ => ?_
  subst eu; subst e3
  refine thn (hst.run pins s3 σ H3 (fun o H4 => o = some (-1) ∧ H4 = H3) I3 ⟨1, rfl, -1, rfl, rfl, rfl⟩) fun vs s4 ⟨o, H4, I4, ps, eo, e4⟩ => ?_
  subst eo; subst e4
  have I5 : Inv X pins σ H4 { s4 with heap := s4.heap.push { cls := .type "slice", data := .fields #[vl, vu, vs] } } := I4.kept (t' := s4.toks) fun b ob q => Heap.get?_push_of_some _ q
  cases pl; cases pu
  cases q1 with
  | @tup a xs ws sx rx =>
    cases r1; unfold revF at pp; dsimp only at pp
    obtain ⟨its, rv, ht, hz⟩ := I5.tuple sx
    have hlen := rv.length
    show wpAny (model X.prog X.w) X.A (subscriptTail e (.Slice none none (some (.UnaryOp .USub (.Constant (.int 1) k0 p1) p2)) p3) (.ref a) (.ref s4.heap.objs.size)) (EP X pins σ Q) X.xe { s4 with heap := s4.heap.push { cls := .type "slice", data := .fields #[.none, .none, vs] } }
    refine tail_any (ops := [.ref a, .ref s4.heap.objs.size]) ht.typeIs PyProof.Rows.slot_tuple_getitem.lookup ?_ (by with_unfolding_all rfl)
    refine getItem_back ht (Heap.IsSliceOf.new _ .none .none vs) ps ?_ (by rw [← hlen]; exact hz)
    refine ⟨.ref _, _, I5.laid (t' := s4.toks) (o := .tup ws.reverse) (fun b ob q => Heap.get?_push_of_some _ q) (Nat.le_refl _) ⟨by rw [List.length_reverse]; exact hz, _, rv.reverse, IsTup.new _ _⟩, rfl, ?_⟩
    exact pp.newTup rr1 rx.rev _ (I5.hok.fresh (Nat.le_refl _))
  | @loc l a em =>
    cases r1; unfold revF at pp; dsimp only at pp
    split at pp
    · next xs hx =>
      have key : ∃ ws, SqL X.K H4 a ws ∧ RVs X.K m1 H4 xs ws := by
        unfold items? at hx; dsimp only at hx
        split at hx
        · next ys hy => cases Option.some.inj hx; exact rr1.ro em (.inl hy)
        · next ys hy => cases Option.some.inj hx; exact rr1.ro em (.inr hy)
        · cases hx
      obtain ⟨ws, sx, rx⟩ := key
      obtain ⟨its, rv, ht, hz⟩ := I5.list sx
      have hlen := rv.length
      show wpAny (model X.prog X.w) X.A (subscriptTail e (.Slice none none (some (.UnaryOp .USub (.Constant (.int 1) k0 p1) p2)) p3) (.ref a) (.ref s4.heap.objs.size)) (EP X pins σ Q) X.xe { s4 with heap := s4.heap.push { cls := .type "slice", data := .fields #[.none, .none, vs] } }
      refine tail_any (ops := [.ref a, .ref s4.heap.objs.size]) ht.isList.typeIs (PySem.slot_list_getitem.lookup) ?_ (by with_unfolding_all rfl)
      refine wpAny_getItem_list_slice ht.isList (Heap.IsSliceOf.new _ .none .none vs) .none .none ps (by decide) ?_ (by rw [List.size_toArray, ← hlen]; exact hz)
      rw [PySem.W.krv_pick]
      refine ⟨.ref _, _, I5.laid (t' := s4.toks) (o := .lst ws.reverse) (fun b ob q => Heap.get?_push_of_some _ q) (Nat.le_refl _) ⟨by rw [List.length_reverse]; exact hz, _, 0, rv.reverse, Heap.get?_push_size _ rfl⟩, rfl, ?_⟩
      exact pp.newLst rr1 rx.rev _ (I5.hok.fresh (Nat.le_refl _))
    · exact pp.elim
  | _ => exact pp.elim
end

def insD (x : Int) : List Int → List Int
  | [] => [x]
  | y :: ys => if x < y then x :: y :: ys else if x = y then y :: ys else y :: insD x ys
def srtD (ns : List Int) : List Int := ns.foldr insD []
theorem insD_mem {x k : Int} : ∀ {ys : List Int}, k ∈ insD x ys ↔ k = x ∨ k ∈ ys
  | [] => by unfold insD; simp
  | y :: ys => by
    unfold insD
    split
    · simp
    · split
      · next h => subst h; simp
      · rw [List.mem_cons, insD_mem (ys := ys), List.mem_cons]; constructor <;> (intro q; rcases q with q | q | q <;> simp [q])
theorem insD_lt {x : Int} : ∀ {ys : List Int}, ys.Pairwise (· < ·) → (insD x ys).Pairwise (· < ·)
  | [], _ => by unfold insD; simp
  | y :: ys, h => by
    obtain ⟨h1, h2⟩ := List.pairwise_cons.mp h
    unfold insD
    split
    · next c => exact List.pairwise_cons.mpr ⟨(fun z hz => (List.mem_cons.mp hz).elim (fun e => by rw [e]; exact c) (fun e => Int.lt_trans c (h1 z e))), h⟩
    · split
      · exact h
      · next c d => exact List.pairwise_cons.mpr ⟨(fun z hz => (insD_mem.mp hz).elim (fun e => by rw [e]; omega) (fun e => h1 z e)), insD_lt h2⟩
theorem srtD_mem {k : Int} : ∀ {ns : List Int}, k ∈ srtD ns ↔ k ∈ ns
  | [] => Iff.rfl
  | n :: ns => by
    show k ∈ insD n (srtD ns) ↔ _
    rw [insD_mem, srtD_mem, List.mem_cons]
theorem srtD_lt : ∀ {ns : List Int}, (srtD ns).Pairwise (· < ·)
  | [] => List.Pairwise.nil
  | n :: ns => insD_lt (srtD_lt (ns := ns))
theorem lt_uniq : ∀ {xs ys : List Int}, xs.Pairwise (· < ·) → ys.Pairwise (· < ·) → (∀ k, k ∈ xs ↔ k ∈ ys) → xs = ys
  | [], [], _, _, _ => rfl
  | [], y :: ys, _, _, h => absurd ((h y).mpr List.mem_cons_self) (by simp)
  | x :: xs, [], _, _, h => absurd ((h x).mp List.mem_cons_self) (by simp)
  | x :: xs, y :: ys, hx, hy, h => by
    obtain ⟨a1, a2⟩ := List.pairwise_cons.mp hx
    obtain ⟨b1, b2⟩ := List.pairwise_cons.mp hy
    have e : x = y := by
      rcases List.mem_cons.mp ((h x).mp List.mem_cons_self) with e | e
      · exact e
      · rcases List.mem_cons.mp ((h y).mpr List.mem_cons_self) with f | f
        · exact f.symm
        · have := b1 x e; have := a1 y f; omega
    subst e
    refine congrArg _ (lt_uniq a2 b2 fun k => ⟨fun q => ?_, fun q => ?_⟩)
    · rcases List.mem_cons.mp ((h k).mp (List.mem_cons_of_mem _ q)) with e | e
      · have := a1 k q; omega
      · exact e
    · rcases List.mem_cons.mp ((h k).mpr (List.mem_cons_of_mem _ q)) with e | e
      · have := b1 k q; omega
      · exact e
def setD (h : HA) (d : D) : Option (List Int) := (items? h d).bind intsOf
def srtSetF (d : D) : M D := fun h => match setD h d with | some ns => if ns.length < 64 then .ok (.loc h.length) (h ++ [.lst ((srtD ns).map D.int)]) else .bad | none => .bad
def rSetOfI (K : PySem.W.Frag) (w : World) : List V → Hp → VK → Prop := fun xs H Q => ∃ (l : Addr) (ns : List Int), xs = [V.ref l] ∧ (SqL K H l (ns.map V.int) ∨ SqT K H l (ns.map V.int)) ∧ ns.length < 64 ∧ ∀ a c, H a = none → c ≤ ns.length → Q (.ref a) (upd H a (SetO w a (fun j => decide (j ∈ ns)) c))
section
variable {X : Cx}
theorem cr_setOfI (hc : X.calm = true) : CallR X (.type "set") (rSetOfI X.K X.w) := by
  intro pins s σ H xs us Q I r h
  obtain ⟨l, ns, rfl, hl, hf, q⟩ := h
  rw [Vals.ref1 r]
  have hn : H s.heap.objs.size = none := I.hok.fresh (Nat.le_refl _)
  rcases hl with hl | hl
  · obtain ⟨its, rv, pl, hz⟩ := I.list hl
    have hi : IntsAre its.toArray.toList ns := ints_of_vals rv
    refine set_of_ints (P := X.prog) ns (I.ok.hd hc) pl.isList hi (by unfold scanBound; omega) fun h' tk c R hcn k => ?_
    exact ⟨.ref s.heap.objs.size, _, I.laid (t' := tk) k (Nat.le_refl _) (setO_new R), rfl, q _ c hn hcn⟩
  · obtain ⟨its, rv, pl, hz⟩ := I.tuple hl
    have hi : IntsAre its.toArray.toList ns := ints_of_vals rv
    refine call_set_tupI (P := X.prog) ns (I.ok.hd hc) (show s.heap.IsTuple l its.toArray from pl) hi (by unfold scanBound; omega) fun h' tk c R hcn k => ?_
    exact ⟨.ref s.heap.objs.size, _, I.laid (t' := tk) k (Nat.le_refl _) (setO_new R), rfl, q _ c hn hcn⟩
variable {cl : Nat → Value} {W : Wh} {e : Expr} {p1 p2 p3 p4 : Pos}
theorem de_srtSet {f : Env' → M D} (hcm : X.calm = true) (hgs : Gl X "sorted") (hms : X.mg "sorted" = none) (hg : Gl X "set") (hm : X.mg "set" = none) (he : PE X e (tE X.K cl W f)) (hs : starEach [e] X.env = (false, eval e X.env) :: starEach [] X.env) :
    PE X (.Call (.Name "sorted" p1) [.Call (.Name "set" p2) [e] [] p3] [] p4) (tE X.K cl W (un1 srtSetF f)) := by
  refine PE.imp (pe_callB (cr_sortedSet hcm) hgs hms PyProof.Rows.boot_sorted (pa_cons (pe_callTy (cr_setOfI hcm) hg hm PyProof.Rows.boot_set (pa_cons he pa_nil hs) (by decide) (by decide) hs rfl) pa_nil rfl) (by decide) (by decide) rfl rfl) fun σ H Q ⟨m, ρ, h, ev, r, p⟩ => ?_
  refine ⟨m, ρ, h, ev, r, p.bind.mono fun v H1 ⟨m1, d, h1, x1, r1, q1, p1⟩ => ?_⟩
  unfold srtSetF setD at p1
  split at p1
  · next ns hns =>
    split at p1
    · next hl =>
      obtain ⟨xs, e1, e2⟩ := Option.bind_eq_some_iff.mp hns
      have ex := intsOf_eq e2
      subst ex
      obtain ⟨a, ev, key⟩ : ∃ a, v = V.ref a ∧ (SqL X.K H1 a (ns.map V.int) ∨ SqT X.K H1 a (ns.map V.int)) := by
        cases q1 with
        | @tup a xs ws sx rx =>
          have : xs = ns.map D.int := by unfold items? at e1; exact Option.some.inj e1
          subst this; have := rx.ints; subst this
          exact ⟨a, rfl, .inr sx⟩
        | @loc l a em =>
          unfold items? at e1; dsimp only at e1
          split at e1
          · next ys hy =>
            cases Option.some.inj e1
            obtain ⟨ws, sx, rx⟩ := r1.ro em (.inl hy)
            have := rx.ints; subst this
            exact ⟨a, rfl, .inl sx⟩
          · next ys hy =>
            cases Option.some.inj e1
            obtain ⟨ws, sx, rx⟩ := r1.ro em (.inr hy)
            have := rx.ints; subst this
            exact ⟨a, rfl, .inl sx⟩
          · cases e1
        | _ => unfold items? at e1; cases e1
      subst ev
      refine ⟨a, ns, rfl, key, hl, fun b c hb hcn => ⟨b, fun j => decide (j ∈ ns), c, rfl, upd_same, by omega, fun out p0 o1 o2 o3 hp => ?_⟩⟩
      have eo : out = srtD ns := lt_uniq o1 srtD_lt fun k => by rw [o2 k, srtD_mem, decide_eq_true_eq]
      subst eo
      have mk : ∀ ks : List Int, RVs X.K m1 (upd H1 b (SetO X.w b (fun j => decide (j ∈ ns)) c)) (ks.map D.int) (ks.map V.int) := fun ks => by
        induction ks with
        | nil => exact .nil
        | cons k ks ih => exact .cons (.int k) ih
      exact (p1.ext (ext_upd (.inl hb))).newLst (r1.fresh hb) (mk _) p0 hp
    · exact p1.elim
  · exact p1.elim
end
end Dx

/-! Dx4: list(range), methods of lists, what loops walk, targets, comprehensions. -/
namespace Dx
open PySem PySem.Spec PyProof.Rows L2

/-! ### equality that decides -/
mutual
def D.beq : D → D → Bool
  | .non, .non => true
  | .bl a, .bl b => a == b
  | .int i, .int j => i == j
  | .str x, .str y => x == y
  | .tup xs, .tup ys => D.beqs xs ys
  | .loc l, .loc k => l == k
  | .ty n, .ty k => n == k
  | _, _ => false
def D.beqs : List D → List D → Bool
  | [], [] => true
  | x :: xs, y :: ys => D.beq x y && D.beqs xs ys
  | _, _ => false
end
mutual
theorem D.beq_refl : ∀ d : D, D.beq d d = true
  | .non => by unfold D.beq; rfl
  | .bl a => by unfold D.beq; simp
  | .int i => by unfold D.beq; simp
  | .str x => by unfold D.beq; simp
  | .tup xs => by unfold D.beq; exact D.beqs_refl xs
  | .loc l => by unfold D.beq; simp
  | .ty n => by unfold D.beq; simp
theorem D.beqs_refl : ∀ d : List D, D.beqs d d = true
  | [] => by unfold D.beqs; rfl
  | x :: xs => by unfold D.beqs; rw [D.beq_refl x, D.beqs_refl xs]; rfl
end
mutual
theorem D.beq_eq : ∀ (d e : D), D.beq d e = true → d = e
  | .non, e, h => by cases e <;> (unfold D.beq at h; first | rfl | cases h)
  | .bl a, e, h => by cases e <;> (unfold D.beq at h; first | (rw [of_decide_eq_true (by simpa using h)]; done) | (simp at h; rw [h]) | cases h)
  | .int i, e, h => by cases e <;> (unfold D.beq at h; first | (simp at h; rw [h]; done) | cases h)
  | .str x, e, h => by cases e <;> (unfold D.beq at h; first | (simp at h; rw [h]; done) | cases h)
  | .tup xs, e, h => by cases e <;> (unfold D.beq at h; first | (rw [D.beqs_eq _ _ h]; done) | cases h)
  | .loc l, e, h => by cases e <;> (unfold D.beq at h; first | (simp at h; rw [h]; done) | cases h)
  | .ty n, e, h => by cases e <;> (unfold D.beq at h; first | (simp at h; rw [h]; done) | cases h)
theorem D.beqs_eq : ∀ (d e : List D), D.beqs d e = true → d = e
  | [], e, h => by cases e <;> (unfold D.beqs at h; first | rfl | cases h)
  | x :: xs, e, h => by
    cases e with
    | nil => unfold D.beqs at h; cases h
    | cons y ys =>
      unfold D.beqs at h
      rw [Bool.and_eq_true] at h
      rw [D.beq_eq _ _ h.1, D.beqs_eq _ _ h.2]
end

section
variable {X : Cx} {cl : Nat → Value} {W : Wh} {a b e o : Expr} {es : List Expr} {pos p p2 apos cpos : Pos}
/-! ### list(range(..)) -/
theorem rgOk_V {a b : Int} (h : rgOk a b) : RgOk a b := h
theorem de_lrg1 {fa : Env' → M D} (hc : X.calm = true) (hg : Gl X "list") (hm : X.mg "list" = none) (hg2 : Gl X "range") (hm2 : X.mg "range" = none) (ha : PE X a (tE X.K cl W fa)) (na : starEach [a] X.env = (false, eval a X.env) :: starEach [] X.env) :
    PE X (.Call (.Name "list" p) [.Call (.Name "range" p2) [a] [] apos] [] pos) (tE X.K cl W (lrgF (cstF (.int 0)) fa)) := by
  refine PE.imp (pe_listRg hc hg hm (prg_1 hg2 hm2 ha na)) fun σ H Q ⟨m, ρ, h, e, r, p⟩ => ?_
  have p : Post X.K cl (RV X.K) m H (M.bind (fa ρ) (fun e => match D.int 0, e with | .int a, .int b => fun h => if rgOk a b then .ok (.loc h.length) (h ++ [.lst (rgD a b)]) else .bad | _, _ => M.bad) h) Q W := p
  refine ⟨m, ρ, h, e, r, p.bind.mono fun x H1 ⟨m1, d, h1, x1, r1, q1, p1⟩ => ?_⟩
  cases q1 with
  | int n =>
    dsimp only at p1
    split at p1
    · next hl => exact ⟨n, rfl, hl, p1.newLst r1 (rgD_V 0 n)⟩
    · exact p1.elim
  | _ => exact p1.elim
theorem de_lrg2 {fa fb : Env' → M D} (hc : X.calm = true) (hg : Gl X "list") (hm : X.mg "list" = none) (hg2 : Gl X "range") (hm2 : X.mg "range" = none) (ha : PE X a (tE X.K cl W fa)) (hb : PE X b (tE X.K cl W fb))
    (na : starEach [a, b] X.env = (false, eval a X.env) :: starEach [b] X.env) (nb : starEach [b] X.env = (false, eval b X.env) :: starEach [] X.env) (hpl : (backTo apos (starEach [b] X.env)).any (·.1) = false) :
    PE X (.Call (.Name "list" p) [.Call (.Name "range" p2) [a, b] [] apos] [] pos) (tE X.K cl W (lrgF fa fb)) := by
  refine PE.imp (pe_listRg hc hg hm (prg_2 hg2 hm2 ha hb na nb hpl)) fun σ H Q ⟨m, ρ, h, e, r, p⟩ => ?_
  refine ⟨m, ρ, h, e, r, p.bind.mono fun x H1 ⟨m1, d, h1, x1, r1, q1, p1⟩ => ?_⟩
  refine ⟨m1, ρ, h1, e.ext x1, r1, p1.bind.mono fun y H2 ⟨m2, d2, h2, x2, r2, q2, p2⟩ => ?_⟩
  cases q2 with
  | int k =>
    cases q1 with
    | int n =>
      dsimp only at p2
      split at p2
      · next hl => exact ⟨n, k, rfl, rfl, hl, p2.newLst r2 (rgD_V n k)⟩
      · exact p2.elim
    | _ => exact p2.elim
  | _ => cases q1 <;> exact p2.elim
theorem de_trg1 {fa : Env' → M D} (hc : X.calm = true) (hg : Gl X "tuple") (hm : X.mg "tuple" = none) (hg2 : Gl X "range") (hm2 : X.mg "range" = none) (ha : PE X a (tE X.K cl W fa)) (na : starEach [a] X.env = (false, eval a X.env) :: starEach [] X.env) :
    PE X (.Call (.Name "tuple" p) [.Call (.Name "range" p2) [a] [] apos] [] pos) (tE X.K cl W (trgF (cstF (.int 0)) fa)) := by
  refine PE.imp (pe_tupRg hc hg hm (prg_1 hg2 hm2 ha na)) fun σ H Q ⟨m, ρ, h, e, r, p⟩ => ?_
  have p : Post X.K cl (RV X.K) m H (M.bind (fa ρ) (fun e => match D.int 0, e with | .int a, .int b => fun h => if rgOk a b then .ok (.tup (rgD a b)) h else .bad | _, _ => M.bad) h) Q W := p
  refine ⟨m, ρ, h, e, r, p.bind.mono fun x H1 ⟨m1, d, h1, x1, r1, q1, p1⟩ => ?_⟩
  cases q1 with
  | int n =>
    dsimp only at p1
    split at p1
    · next hl => exact ⟨n, rfl, hl, p1.newTup r1 (rgD_V 0 n)⟩
    · exact p1.elim
  | _ => exact p1.elim

/-! ### methods of lists -/
def chkT (T : String) (d : D) : M D := fun h => if tyName d h = some T then .ok d h else .bad
def methF (T : String) (F : D → List D → M D) (fo : Env' → M D) (g : Env' → M (List D)) : Env' → M D := fun ρ => M.bind (fo ρ) fun d => M.bind (chkT T d) fun d => M.bind (g ρ) fun ds => F d ds
def rM (K : PySem.W.Frag) (cl : Nat → Value) (W : Wh) (F : D → List D → M D) : V → List V → Hp → VK → Prop := fun x xs H Q => ∃ m h d ds, RV K m H d x ∧ RVs K m H ds xs ∧ Rel K m H h ∧ Post K cl (RV K) m H (F d ds h) Q W
theorem tyV_of {K : PySem.W.Frag} {m : List Addr} {H : Hp} {h : HA} {d : D} {v : V} {T : String} (r : Rel K m H h) (q : RV K m H d v) (e : tyName d h = some T) (hT : T = "list" ∨ T = "str") : tyV K T v H := by
  cases q with
  | str x => cases e; exact rfl
  | loc em =>
    unfold tyName at e
    dsimp only at e
    split at e
    · next xs hx =>
      cases e
      obtain ⟨vs, s, _⟩ := r.ro em (.inl hx)
      exact .inl ⟨rfl, _, s⟩
    · next xs hx =>
      cases e
      obtain ⟨vs, s, _⟩ := r.ro em (.inr hx)
      exact .inl ⟨rfl, _, s⟩
    · cases e
  | ty n => cases e
  | _ => rcases hT with rfl | rfl <;> exact absurd (Option.some.inj e) (by decide)
theorem chkT_post {K : PySem.W.Frag} {m : List Addr} {H : Hp} {h : HA} {d : D} {T : String} {f : D → M D} {Q : VK} (p : Post K cl (RV K) m H (M.bind (chkT T d) f h) Q W) : tyName d h = some T ∧ Post K cl (RV K) m H (f d h) Q W := by
  unfold M.bind chkT at p
  by_cases c : tyName d h = some T
  · rw [if_pos c] at p
    exact ⟨c, p⟩
  · rw [if_neg c] at p
    exact p.elim
theorem de_bm {name : Str} {T id : String} {F : D → List D → M D} {fo : Env' → M D} {g : Env' → M (List D)} (hP : PlainAttrs T) (hS : PySem.Slot T name id) (hD : typeOf (Value.builtin id) = pure (Value.type "method_descriptor")) (hM : MtR X id (rM X.K cl W F)) (hT : T = "list" ∨ T = "str")
    (ho : PE X o (tE X.K cl W fo)) (ha : PA X (e :: es) (tA X.K cl W g)) (h1 : attributeBase o name X.env (eval o X.env) = eval o X.env)
    (h2 : (((backTo cpos (starEach (e :: es) X.env)).all fun x => !x.1) && ((backToKw cpos (keywordEach [] X.env)).all fun x => x.1.isSome) && decide (((e :: es).length + ([] : List Keyword).length + if ([] : List Keyword).isEmpty = true then 0 else 1) < 30)) = true)
    (h3 : (apos.endLine == cpos.line) = true) (h4 : starEach (e :: es) X.env = (false, eval e X.env) :: starEach es X.env) (h5 : (backTo cpos (starEach es X.env)).any (·.1) = false) :
    PE X (.Call (.Attribute o name apos) (e :: es) [] cpos) (tE X.K cl W (methF T F fo g)) := by
  refine PE.imp (pe_bm hP hS hD hM ho ha h1 h2 h3 h4 h5) fun σ H Q ⟨m, ρ, h, e, r, p⟩ => ?_
  refine ⟨m, ρ, h, e, r, p.bind.mono fun x H1 ⟨m1, d, h1, x1, r1, q1, p1⟩ => ?_⟩
  obtain ⟨c, p1⟩ := chkT_post p1
  exact ⟨tyV_of r1 q1 c hT, m1, ρ, h1, e.ext x1, r1, p1.bind.mono fun y H2 ⟨m2, d2, h2, x2, r2, q2, p2⟩ => ⟨m2, h2, d, d2, q1.ext x2, q2, r2, p2⟩⟩
theorem de_bm0 {name : Str} {T id : String} {F : D → List D → M D} {fo : Env' → M D} (hP : PlainAttrs T) (hS : PySem.Slot T name id) (hD : typeOf (Value.builtin id) = pure (Value.type "method_descriptor")) (hM : MtR X id (rM X.K cl W F)) (hT : T = "list" ∨ T = "str")
    (ho : PE X o (tE X.K cl W fo)) (h1 : attributeBase o name X.env (eval o X.env) = eval o X.env) (h3 : (apos.endLine == cpos.line) = true) :
    PE X (.Call (.Attribute o name apos) [] [] cpos) (tE X.K cl W (methF T F fo nilF)) := by
  refine PE.imp (pe_bm0 hP hS hD hM ho h1 h3) fun σ H Q ⟨m, ρ, h, e, r, p⟩ => ?_
  refine ⟨m, ρ, h, e, r, p.bind.mono fun x H1 ⟨m1, d, h1, x1, r1, q1, p1⟩ => ?_⟩
  obtain ⟨c, p1⟩ := chkT_post p1
  exact ⟨tyV_of r1 q1 c hT, m1, h1, d, [], q1, .nil, r1, p1⟩
def appendF : D → List D → M D
  | .loc l, [d] => fun h => match h[l]? with | some (.lst xs) => if xs.length < sizeLine then .ok .non (h.set l (.lst (xs ++ [d]))) else .bad | _ => .bad
  | _, _ => M.bad
def popF : D → List D → M D
  | .loc l, [] => fun h => match h[l]? with | some (.lst xs) => (match xs[xs.length - 1]? with | some d => .ok d (h.set l (.lst xs.dropLast)) | none => .bad) | _ => .bad
  | _, _ => M.bad
def popAtF : D → List D → M D
  | .loc l, [.int i] => fun h => match h[l]? with
    | some (.lst xs) => if -(2 ^ 63) ≤ i ∧ i < 2 ^ 63 then (match seqIndex? i xs.length with
      | some k => (match xs[k]? with | some d => .ok d (h.set l (.lst (xs.eraseIdx k))) | none => .bad)
      | none => .bad) else .bad
    | _ => .bad
  | _, _ => M.bad
def extendF : D → List D → M D
  | .loc l, [.loc b] => fun h => match h[l]?, h[b]? with | some (.lst xs), some (.lst ys) => if xs.length + ys.length ≤ sizeLine then .ok .non (h.set l (.lst (xs ++ ys))) else .bad | _, _ => .bad
  | _, _ => M.bad
def countF : D → List D → M D
  | .loc l, [.int k] => fun h => match (items? h (.loc l)).bind intsOf with | some ns => .ok (.int (ns.count k : Nat)) h | none => .bad
  | _, _ => M.bad
theorem mt_appendF : MtR X "list.append" (rM X.K cl W appendF) := by
  intro pins s σ H x xs v us Q I rx rv ⟨m, h, d, ds, qd, qs, r, p⟩
  unfold appendF at p
  split at p
  · next l d =>
    obtain ⟨w, rfl, q⟩ := qs.one
    cases qd with
    | loc em =>
      split at p
      · next ys hy =>
        split at p
        · next hl =>
          obtain ⟨vs, hv, t⟩ := r.get em hy
          exact mt_append pins s σ H _ _ v us Q I rx rv ⟨_, vs, w, rfl, rfl, hv, by rw [t.len]; exact hl, p.wr r em hy (t.app (.cons q .nil)) .non⟩
        · exact p.elim
      · exact p.elim
  · exact p.elim
theorem mt_popF : MtR X "list.pop" (rM X.K cl W popF) := by
  intro pins s σ H x xs v us Q I rx rv ⟨m, h, d, ds, qd, qs, r, p⟩
  unfold popF at p
  split at p
  · next l =>
    cases qs
    cases qd with
    | loc em =>
      split at p
      · next ys hy =>
        split at p
        · next d hd =>
          obtain ⟨vs, hv, t⟩ := r.get em hy
          obtain ⟨w, hw, q⟩ := t.get _ hd
          exact mt_pop pins s σ H _ _ v us Q I rx rv ⟨_, vs, w, rfl, rfl, hv, by rw [t.len]; exact hw, p.wr r em hy t.dropLast q⟩
        · exact p.elim
      · exact p.elim
  · exact p.elim
theorem mt_popAtF : MtR X "list.pop" (rM X.K cl W popAtF) := by
  intro pins s σ H x xs v us Q I rx rv ⟨m, h, d, ds, qd, qs, r, p⟩
  unfold popAtF at p
  split at p
  · next l i =>
    obtain ⟨w, rfl, q⟩ := qs.one
    cases q
    cases qd with
    | loc em =>
      split at p
      · next ys hy =>
        split at p
        · next hl =>
          split at p
          · next k hk =>
            split at p
            · next d hd =>
              obtain ⟨vs, hv, t⟩ := r.get em hy
              obtain ⟨w, hw, q⟩ := t.get _ hd
              exact mt_popAt pins s σ H _ _ v us Q I rx rv ⟨_, vs, i, k, w, rfl, rfl, hv, hl.1, hl.2, by rw [t.len]; exact hk, hw, p.wr r em hy (t.erase k) q⟩
            · exact p.elim
          · exact p.elim
        · exact p.elim
      · exact p.elim
  · exact p.elim
theorem mt_extendF : MtR X "list.extend" (rM X.K cl W extendF) := by
  intro pins s σ H x xs v us Q I rx rv ⟨m, h, d, ds, qd, qs, r, p⟩
  unfold extendF at p
  split at p
  · next l b =>
    obtain ⟨w, rfl, q⟩ := qs.one
    cases q with
    | loc eb =>
      cases qd with
      | loc em =>
        split at p
        · next ys zs hy hz =>
          split at p
          · next hl =>
            obtain ⟨vs, hv, t⟩ := r.get em hy
            obtain ⟨ws, hw, t2⟩ := r.get eb hz
            exact mt_extend pins s σ H _ _ v us Q I rx rv ⟨_, _, vs, ws, rfl, rfl, hv, hw, by rw [t.len, t2.len]; exact hl, p.wr r em hy (t.app t2) .non⟩
          · exact p.elim
        · exact p.elim
  · exact p.elim
theorem mt_countF : MtR X "list.count" (rM X.K cl W countF) := by
  intro pins s σ H x xs v us Q I rx rv ⟨m, h, d, ds, qd, qs, r, p⟩
  unfold countF at p
  split at p
  · next l k =>
    obtain ⟨w, rfl, q⟩ := qs.one
    cases q
    split at p
    · next ns hy =>
      obtain ⟨ys, e1, e2⟩ := Option.bind_eq_some_iff.mp hy
      obtain ⟨a, vs, rfl, t, s' | ⟨_, z⟩⟩ := items_of r qd e1
      · cases intsOf_eq e2
        cases t.ints
        exact mt_lcount pins s σ H _ _ v us Q I rx rv ⟨a, ns, k, rfl, rfl, s', p.here r (.int _)⟩
      · cases z
    · exact p.elim
  · exact p.elim
end

/-! ### what a loop walks -/
inductive Src where
  | rng (lo : Int) (n : Nat)
  | lst (l : Nat) (xs : List D)
  | tup (xs : List D)
  | zipT (xs ys : List D)
  | zipL (k l : Nat) (xs ys : List D)
  | enm (l : Nat) (xs : List D)
def enumFrom' : Nat → List D → List D
  | _, [] => []
  | i, x :: xs => .tup [.int (i : Nat), x] :: enumFrom' (i + 1) xs
def pair2 (x y : D) : D := .tup [x, y]
def Src.items : Src → List D
  | .rng lo n => (List.range n).map fun i => .int (lo + (i : Nat))
  | .lst _ xs => xs
  | .tup xs => xs
  | .zipT xs ys => List.zipWith pair2 xs ys
  | .zipL _ _ xs ys => List.zipWith pair2 xs ys
  | .enm _ xs => enumFrom' 0 xs
def still (h : HA) (l : Nat) (xs : List D) : Bool := match items? h (.loc l) with | some ys => D.beqs ys xs | none => false
def Src.chk (h : HA) : Src → Bool
  | .lst l xs => still h l xs
  | .zipL k l xs ys => still h k xs && still h l ys
  | .enm l xs => still h l xs
  | _ => true
theorem still_eq {h : HA} {l : Nat} {xs : List D} (e : still h l xs = true) : h[l]? = some (.lst xs) ∨ h[l]? = some (.ro xs) := by
  unfold still items? at e
  dsimp only at e
  split at e
  · next ys hy =>
    split at hy
    · next zs hz =>
      cases hy
      rw [← D.beqs_eq _ _ e]
      exact .inl hz
    · next zs hz =>
      cases hy
      rw [← D.beqs_eq _ _ e]
      exact .inr hz
    · cases hy
  · cases e
theorem still_of {h : HA} {l : Nat} {xs : List D} (e : h[l]? = some (.lst xs) ∨ h[l]? = some (.ro xs)) : still h l xs = true := by
  unfold still items?
  rcases e with e | e <;> (simp only [e]; exact D.beqs_refl _)
def rSrc (K : PySem.W.Frag) (m : List Addr) (H : Hp) : Src → It → Prop
  | .rng lo n, J => J = Itr lo n
  | .lst l _, J => ∃ a, m[l]? = some a ∧ J = Itl K a
  | .tup xs, J => ∃ a vs, SqT K H a vs ∧ RVs K m H xs vs ∧ J = Itt K a
  | .zipT xs ys, J => ∃ a b vs ws, SqT K H a vs ∧ SqT K H b ws ∧ RVs K m H xs vs ∧ RVs K m H ys ws ∧ J = RZ.ItzT K a b
  | .zipL k l _ _, J => ∃ a b, m[k]? = some a ∧ m[l]? = some b ∧ J = Itz K a b
  | .enm l _, J => ∃ a, m[l]? = some a ∧ J = Ite K a
section
variable {K : PySem.W.Frag} {m m1 : List Addr} {H H1 : Hp} {h : HA}
theorem rSrc.ext (x : Ext K m H m1 H1) : ∀ {S : Src} {J : It}, rSrc K m H S J → rSrc K m1 H1 S J
  | .rng _ _, _, q => q
  | .lst _ _, _, ⟨a, e, z⟩ => ⟨a, x.pre _ _ e, z⟩
  | .tup _, _, ⟨a, vs, s, t, z⟩ => ⟨a, vs, x.tup _ _ s, t.ext x, z⟩
  | .zipT _ _, _, ⟨a, b, vs, ws, s, s2, t, t2, z⟩ => ⟨a, b, vs, ws, x.tup _ _ s, x.tup _ _ s2, t.ext x, t2.ext x, z⟩
  | .zipL _ _ _ _, _, ⟨a, b, e, e2, z⟩ => ⟨a, b, x.pre _ _ e, x.pre _ _ e2, z⟩
  | .enm _ _, _, ⟨a, e, z⟩ => ⟨a, x.pre _ _ e, z⟩
theorem enum_get : ∀ (xs : List D) (k i : Nat), (enumFrom' k xs)[i]? = (xs[i]?).map fun x => D.tup [.int ((k + i : Nat) : Int), x]
  | [], _, _ => rfl
  | x :: xs, k, 0 => rfl
  | x :: xs, k, i + 1 => by
    show (enumFrom' (k + 1) xs)[i]? = _
    rw [enum_get xs (k + 1) i, Nat.add_right_comm]
    rfl
theorem enum_len : ∀ (xs : List D) (k : Nat), (enumFrom' k xs).length = xs.length
  | [], _ => rfl
  | x :: xs, k => congrArg (· + 1) (enum_len xs (k + 1))
/-- the turns -/
theorem Src.turn {S : Src} {J : It} {i : Nat} (r : Rel K m H h) (q : rSrc K m H S J) (c : S.chk h = true) :
    (∀ x, S.items[i]? = some x → J.go i H ∧ ∀ v H', J.yld i H v H' → Ext K m H m H' ∧ Rel K m H' h ∧ RV K m H' x v) ∧ (S.items.length ≤ i → J.stop i H) := by
  cases S with
  | rng lo n =>
    cases q
    refine ⟨fun x e => ?_, fun e => ?_⟩
    · have hl := get_lt e
      unfold Src.items at hl e
      rw [List.length_map, List.length_range] at hl
      rw [List.getElem?_map, List.getElem?_range hl] at e
      cases e
      refine ⟨hl, fun v H' ⟨a, b⟩ => ?_⟩
      subst a b
      exact ⟨.refl, r, .int _⟩
    · unfold Src.items at e
      rw [List.length_map, List.length_range] at e
      exact e
  | lst l xs =>
    obtain ⟨a, em, rfl⟩ := q
    obtain ⟨vs, s, t⟩ := r.ro em (still_eq c)
    refine ⟨fun x e => ?_, fun e => ⟨vs, s, by rw [t.len]; exact e⟩⟩
    obtain ⟨v, hv, q⟩ := t.get i e
    refine ⟨⟨vs, v, s, hv⟩, fun w H' ⟨z, y⟩ => ?_⟩
    subst z
    cases hv.symm.trans (y vs s)
    exact ⟨.refl, r, q⟩
  | tup xs =>
    obtain ⟨a, vs, s, t, rfl⟩ := q
    refine ⟨fun x e => ?_, fun e => ⟨vs, s, by rw [t.len]; exact e⟩⟩
    obtain ⟨v, hv, q⟩ := t.get i e
    refine ⟨⟨vs, v, s, hv⟩, fun w H' ⟨z, y⟩ => ?_⟩
    subst z
    cases hv.symm.trans (y vs s)
    exact ⟨.refl, r, q⟩
  | zipT xs ys =>
    obtain ⟨a, b, vs, ws, s, s2, t, t2, rfl⟩ := q
    refine ⟨fun x e => ?_, fun e => ⟨vs, ws, s, s2, ?_⟩⟩
    · obtain ⟨x1, y1, hx, hy, rfl⟩ : ∃ x1 y1, xs[i]? = some x1 ∧ ys[i]? = some y1 ∧ x = pair2 x1 y1 := by
        unfold Src.items at e
        rw [List.getElem?_zipWith] at e
        split at e
        · next a b ha hb => exact ⟨a, b, ha, hb, (Option.some.inj e).symm⟩
        · cases e
      obtain ⟨v, hv, q⟩ := t.get i hx
      obtain ⟨w, hw, q2⟩ := t2.get i hy
      refine ⟨⟨vs, ws, v, w, s, s2, hv, hw⟩, fun u H' ⟨T, x', y', z, hT, z2, g1, g2⟩ => ?_⟩
      subst z z2
      cases hv.symm.trans (g1 vs s)
      cases hw.symm.trans (g2 ws s2)
      have hx : Ext K m H m (upd H T (.tup [v, w])) := ext_upd (.inl hT)
      exact ⟨hx, r.fresh hT, .tup (SqT.of upd_same) (.cons (q.ext hx) (.cons (q2.ext hx) .nil))⟩
    · unfold Src.items at e
      rw [List.length_zipWith] at e
      rw [t.len, t2.len]
      omega
  | zipL k l xs ys =>
    obtain ⟨a, b, em, em2, rfl⟩ := q
    unfold Src.chk at c
    rw [Bool.and_eq_true] at c
    obtain ⟨vs, s, t⟩ := r.ro em (still_eq c.1)
    obtain ⟨ws, s2, t2⟩ := r.ro em2 (still_eq c.2)
    refine ⟨fun x e => ?_, fun e => ⟨vs, ws, s, s2, ?_⟩⟩
    · obtain ⟨x1, y1, hx, hy, rfl⟩ : ∃ x1 y1, xs[i]? = some x1 ∧ ys[i]? = some y1 ∧ x = pair2 x1 y1 := by
        unfold Src.items at e
        rw [List.getElem?_zipWith] at e
        split at e
        · next a b ha hb => exact ⟨a, b, ha, hb, (Option.some.inj e).symm⟩
        · cases e
      obtain ⟨v, hv, q⟩ := t.get i hx
      obtain ⟨w, hw, q2⟩ := t2.get i hy
      refine ⟨⟨vs, ws, v, w, s, s2, hv, hw⟩, fun u H' ⟨T, x', y', z, hT, z2, g1, g2⟩ => ?_⟩
      subst z z2
      cases hv.symm.trans (g1 vs s)
      cases hw.symm.trans (g2 ws s2)
      have hx : Ext K m H m (upd H T (.tup [v, w])) := ext_upd (.inl hT)
      exact ⟨hx, r.fresh hT, .tup (SqT.of upd_same) (.cons (q.ext hx) (.cons (q2.ext hx) .nil))⟩
    · unfold Src.items at e
      rw [List.length_zipWith] at e
      rw [t.len, t2.len]
      omega
  | enm l xs =>
    obtain ⟨a, em, rfl⟩ := q
    obtain ⟨vs, s, t⟩ := r.ro em (still_eq c)
    refine ⟨fun x e => ?_, fun e => ⟨vs, s, by rw [t.len]; rw [show (Src.enm l xs).items = enumFrom' 0 xs from rfl, enum_len] at e; exact e⟩⟩
    obtain ⟨x1, hx, rfl⟩ : ∃ x1, xs[i]? = some x1 ∧ x = D.tup [.int ((0 + i : Nat) : Int), x1] := by
      rw [show (Src.enm l xs).items = enumFrom' 0 xs from rfl, enum_get] at e
      obtain ⟨y, hy, z⟩ := Option.map_eq_some_iff.mp e
      exact ⟨y, hy, z.symm⟩
    obtain ⟨v, hv, q⟩ := t.get i hx
    refine ⟨⟨vs, v, s, hv⟩, fun u H' ⟨T, x', z, hT, z2, g1⟩ => ?_⟩
    subst z z2
    cases hv.symm.trans (g1 vs s)
    have hx : Ext K m H m (upd H T (.tup [.int (i : Nat), v])) := ext_upd (.inl hT)
    refine ⟨hx, r.fresh hT, .tup (SqT.of upd_same) (.cons ?_ (.cons (q.ext hx) .nil))⟩
    rw [Nat.zero_add]
    exact .int _
end
end Dx

/-! Dx5: iterators, targets, comprehensions, statements, loops. -/
namespace Dx
open PySem PySem.Spec PyProof.Rows L2

/-! ### iterators -/
def rng1Of : List D → M Src
  | [.int j] => fun h => if -(2 ^ 62) ≤ j ∧ j < 2 ^ 62 then .ok (.rng 0 j.toNat) h else .bad
  | _ => M.bad
def rng2Of : List D → M Src
  | [.int i, .int j] => fun h => if -(2 ^ 62) ≤ i ∧ i < 2 ^ 62 ∧ -(2 ^ 62) ≤ j ∧ j < 2 ^ 62 then .ok (.rng i (j - i).toNat) h else .bad
  | _ => M.bad
def seqOf : D → M Src
  | .tup xs => fun h => .ok (.tup xs) h
  | .loc l => fun h => match items? h (.loc l) with | some xs => .ok (.lst l xs) h | none => .bad
  | _ => M.bad
def zipOf : List D → M Src
  | [.tup xs, .tup ys] => fun h => .ok (.zipT xs ys) h
  | [.loc k, .loc l] => fun h => match items? h (.loc k), items? h (.loc l) with | some xs, some ys => .ok (.zipL k l xs ys) h | _, _ => .bad
  | _ => M.bad
def enmOf : List D → M Src
  | [.loc l] => fun h => match items? h (.loc l) with | some xs => .ok (.enm l xs) h | none => .bad
  | _ => M.bad
def srcL (O : List D → M Src) (g : Env' → M (List D)) : Env' → M Src := fun ρ => M.bind (g ρ) O
def srcE (f : Env' → M D) : Env' → M Src := fun ρ => M.bind (f ρ) seqOf
section
variable {X : Cx} {cl : Nat → Value} {W : Wh} {a b e tg : Expr} {pos p : Pos}
abbrev tI (K : PySem.W.Frag) (cl : Nat → Value) (W : Wh) (f : Env' → M Src) : TI := tG K cl (rSrc K) W f
theorem PI.imp {t t' : TI} (h : PI X tg e t) (i : ∀ σ H Q, t' σ H Q → t σ H Q) : PI X tg e t' := ⟨fun pins s σ H Q I q => h.run pins s σ H Q I (i σ H Q q)⟩
theorem di_rng1 {K : PySem.W.Frag} {g : Env' → M (List D)} (hg : Gl X "range") (hm : X.mg "range" = none) (ha : PA X [a] (tA K cl W g)) (hs : starEach [a] X.env = [(false, eval a X.env)]) : PI X tg (.Call (.Name "range" p) [a] [] pos) (tI K cl W (srcL rng1Of g)) := by
  refine PI.imp (pi_range1 hg hm ha hs) fun σ H R ⟨m, ρ, h, e, r, p⟩ => ?_
  refine ⟨m, ρ, h, e, r, p.bind.mono fun vs H1 ⟨m1, ds, h1, x1, r1, q1, p1⟩ => ?_⟩
  unfold rng1Of at p1
  split at p1
  · next j =>
    obtain ⟨v, rfl, q⟩ := q1.one
    cases q
    split at p1
    · next hl => exact ⟨j, rfl, hl.1, hl.2, p1.here r1 rfl⟩
    · exact p1.elim
  · exact p1.elim
theorem di_rng2 {K : PySem.W.Frag} {g : Env' → M (List D)} (hg : Gl X "range") (hm : X.mg "range" = none) (ha : PA X [a, b] (tA K cl W g)) (hs : starEach [a, b] X.env = [(false, eval a X.env), (false, eval b X.env)]) (hs2 : starEach [b] X.env = [(false, eval b X.env)]) :
    PI X tg (.Call (.Name "range" p) [a, b] [] pos) (tI K cl W (srcL rng2Of g)) := by
  refine PI.imp (pi_range2 hg hm ha hs hs2) fun σ H R ⟨m, ρ, h, e, r, p⟩ => ?_
  refine ⟨m, ρ, h, e, r, p.bind.mono fun vs H1 ⟨m1, ds, h1, x1, r1, q1, p1⟩ => ?_⟩
  unfold rng2Of at p1
  split at p1
  · next i j =>
    obtain ⟨v, w, rfl, q, q2⟩ := q1.two
    cases q
    cases q2
    split at p1
    · next hl => exact ⟨i, j, rfl, hl, p1.here r1 rfl⟩
    · exact p1.elim
  · exact p1.elim
theorem di_seq {f : Env' → M D} (ha : PE X e (tE X.K cl W f)) : PI X tg e (tI X.K cl W (srcE f)) := by
  refine ⟨fun pins s σ H R I ⟨m, ρ, h, en, r, p⟩ => ?_⟩
  have pb : Post X.K cl (RV X.K) m H (f ρ h) _ W := p.bind
  cases hx : f ρ h with
  | ok d h1 =>
    rw [hx] at pb
    cases d with
    | tup xs =>
      refine (pi_tup ha).run pins s σ H R I ⟨m, ρ, h, en, r, ?_⟩
      rw [hx]
      intro m' H' v y z t
      obtain ⟨m1, d1, h2, x1, r1, q1, p1⟩ := pb m' H' v y z t
      cases t with
      | tup s1 t1 =>
        cases q1 with
        | tup s2 t2 => exact ⟨_, rfl, ⟨_, s1⟩, p1.here r1 ⟨_, _, s2, t2, rfl⟩⟩
        | loc em => 
          unfold seqOf at p1
          dsimp only at p1
          split at p1
          · next ys hy => 
            exact ⟨_, rfl, ⟨_, s1⟩, by
              have p0 : Post X.K cl (rSrc X.K) m H (M.bind (f ρ) seqOf h) R W := p
              unfold M.bind at p0
              rw [hx] at p0
              exact p0.at_ y z ⟨_, _, s1, t1, rfl⟩⟩
          · exact p1.elim
    | loc l =>
      have p0 : Post X.K cl (rSrc X.K) m H (M.bind (f ρ) seqOf h) R W := p
      unfold M.bind at p0
      rw [hx] at p0
      unfold seqOf at p0
      dsimp only at p0
      refine (pi_list ha).run pins s σ H R I ⟨m, ρ, h, en, r, ?_⟩
      rw [hx]
      intro m' H' v y z t
      cases t with
      | loc em =>
        split at p0
        · next ys hy =>
          obtain ⟨a, vs, e1, _, s' | ⟨_, z2⟩⟩ := items_of z (.loc em) hy
          · cases e1
            exact ⟨_, rfl, ⟨_, s'⟩, p0.at_ y z ⟨_, em, rfl⟩⟩
          · cases z2
        · exact p0.elim
    | _ =>
      have p0 : Post X.K cl (rSrc X.K) m H (M.bind (f ρ) seqOf h) R W := p
      unfold M.bind at p0
      rw [hx] at p0
      exact p0.elim
  | ex c w h1 =>
    refine (pi_tup ha).run pins s σ H R I ⟨m, ρ, h, en, r, ?_⟩
    rw [hx] at pb ⊢
    exact pb
  | bad =>
    rw [hx] at pb
    exact pb.elim
theorem di_zip {g : Env' → M (List D)} {elts : List Expr} {kk : Nat} {tpos : Pos} (hg : Gl X "zip") (hm : X.mg "zip" = none) (ha : PA X [a, b] (tA X.K cl W g)) (hs : starEach [a, b] X.env = (false, eval a X.env) :: starEach [b] X.env) (hpl : (backTo pos (starEach [b] X.env)).any (·.1) = false) :
    PI X (.Tuple elts kk tpos) (.Call (.Name "zip" p) [a, b] [] pos) (tI X.K cl W (srcL zipOf g)) := by
  refine PI.imp (RZ.pi_zipA hg hm ha hs hpl) fun σ H R ⟨m, ρ, h, e, r, p⟩ => ?_
  refine ⟨m, ρ, h, e, r, p.bind.mono fun vs H1 ⟨m1, ds, h1, x1, r1, q1, p1⟩ => ?_⟩
  unfold zipOf at p1
  split at p1
  · next xs ys =>
    obtain ⟨v, w, rfl, q, q2⟩ := q1.two
    cases q with
    | tup s t =>
      cases q2 with
      | tup s2 t2 => exact ⟨_, _, _, _, rfl, .inr ⟨s, s2, p1.here r1 ⟨_, _, _, _, s, s2, t, t2, rfl⟩⟩⟩
  · next k l =>
    obtain ⟨v, w, rfl, q, q2⟩ := q1.two
    cases q with
    | loc em =>
      cases q2 with
      | loc em2 =>
        split at p1
        · next xs ys hx hy =>
          obtain ⟨a, vs, e1, _, s' | ⟨_, z2⟩⟩ := items_of r1 (.loc em) hx
          · cases e1
            obtain ⟨b, ws, e2, _, s2 | ⟨_, z2⟩⟩ := items_of r1 (.loc em2) hy
            · cases e2
              exact ⟨_, _, _, _, rfl, .inl ⟨s', s2, p1.here r1 ⟨_, _, em, em2, rfl⟩⟩⟩
            · cases z2
          · cases z2
        · exact p1.elim
  · exact p1.elim
theorem di_enm {g : Env' → M (List D)} {elts : List Expr} {kk : Nat} {tpos : Pos} (hg : Gl X "enumerate") (hm : X.mg "enumerate" = none) (ha : PA X [a] (tA X.K cl W g)) (hs : starEach [a] X.env = (false, eval a X.env) :: starEach [] X.env) :
    PI X (.Tuple elts kk tpos) (.Call (.Name "enumerate" p) [a] [] pos) (tI X.K cl W (srcL enmOf g)) := by
  refine PI.imp (pi_enum hg hm ha hs) fun σ H R ⟨m, ρ, h, e, r, p⟩ => ?_
  refine ⟨m, ρ, h, e, r, p.bind.mono fun vs H1 ⟨m1, ds, h1, x1, r1, q1, p1⟩ => ?_⟩
  unfold enmOf at p1
  split at p1
  · next l =>
    obtain ⟨v, rfl, q⟩ := q1.one
    cases q with
    | loc em =>
      split at p1
      · next xs hx =>
        obtain ⟨a, vs, e1, _, s' | ⟨_, z2⟩⟩ := items_of r1 (.loc em) hx
        · cases e1
          exact ⟨_, _, rfl, s', p1.here r1 ⟨_, em, rfl⟩⟩
        · cases z2
      · exact p1.elim
  · exact p1.elim
end

/-! ### targets -/
inductive Tg where
  | nm (i : Nat)
  | tp (is : List Nat)
def Tg.slots : Tg → List Nat
  | .nm i => [i]
  | .tp is => is
def setAll : List Nat → List D → Env' → Env'
  | i :: is, d :: ds, ρ => setAll is ds (ρ.set i (some d))
  | _, _, ρ => ρ
def tgF : Tg → D → Env' → Option Env'
  | .nm i, d, ρ => some (ρ.set i (some d))
  | .tp is, .tup ds, ρ => if is.length = ds.length then some (setAll is ds ρ) else none
  | _, _, _ => none
def gsOf : List Nat → TGs
  | [] => gNil
  | i :: is => gCons (gName i) (gsOf is)
def gOf (K : PySem.W.Frag) : Tg → TG
  | .nm i => gName i
  | .tp is => gTup K is.length (gsOf is)
theorem wipe_get (σ : L2.St) : ∀ (vs : List Nat) (j : Nat), (wipe σ vs)[j]? = if j ∈ vs then (σ[j]?).map (fun _ => none) else σ[j]?
  | [], j => by simp [wipe]
  | v :: vs, j => by
    unfold wipe
    by_cases c : v = j
    · subst c
      rw [List.getElem?_set]
      simp only [if_true, List.mem_cons, true_or]
      rw [wipe_length]
      by_cases hl : v < σ.length
      · rw [if_pos hl, List.getElem?_eq_getElem hl]
        rfl
      · rw [if_neg hl, List.getElem?_eq_none (by omega)]
        rfl
    · rw [List.getElem?_set_ne c, wipe_get σ vs j]
      have : (j ∈ v :: vs) ↔ j ∈ vs := by
        rw [List.mem_cons]
        exact ⟨fun z => z.elim (fun z => absurd z.symm c) id, .inr⟩
      simp only [this]
theorem wipe_set {σ : L2.St} {i : Nat} {x : Option V} {vs : List Nat} (hi : i ∈ vs) : wipe (σ.set i x) vs = wipe σ vs := by
  apply List.ext_getElem?
  intro j
  rw [wipe_get, wipe_get]
  by_cases c : i = j
  · subst c
    rw [if_pos hi, if_pos hi, List.getElem?_set]
    simp only [if_true]
    by_cases hl : i < σ.length
    · rw [if_pos hl, List.getElem?_eq_getElem hl]; rfl
    · rw [if_neg hl, List.getElem?_eq_none (by omega)]
  · rw [List.getElem?_set_ne c]
section
variable {K : PySem.W.Frag} {m : List Addr} {H : Hp}
theorem gsOf_ok {vs0 : List Nat} : ∀ {is : List Nat} {ds : List D} {ws : List V} {ρ : Env'} {σ : L2.St} {Q : L2.St → Hp → Prop}, is.length = ds.length → RVs K m H ds ws → REnv K m H ρ σ → (∀ i ∈ is, i ∈ vs0) →
    (∀ σ', REnv K m H (setAll is ds ρ) σ' → wipe σ' vs0 = wipe σ vs0 → Q σ' H) → gsOf is ws σ H Q
  | [], [], _, ρ, σ, Q, _, .nil, e, _, k => ⟨rfl, k σ e rfl⟩
  | i :: is, d :: ds, _, ρ, σ, Q, hl, .cons q qs, e, hi, k => by
    refine ⟨_, _, rfl, gsOf_ok (vs0 := vs0) (Nat.succ.inj hl) qs (e.set q) (fun j hj => hi j (List.mem_cons_of_mem _ hj)) fun σ' e' w => ?_⟩
    exact k σ' e' (w.trans (wipe_set (hi i List.mem_cons_self)))
theorem gOf_ok {T : Tg} {d : D} {v : V} {ρ ρ' : Env'} {σ : L2.St} {Q : L2.St → Hp → Prop} {vs0 : List Nat} (t : tgF T d ρ = some ρ') (q : RV K m H d v) (e : REnv K m H ρ σ) (hv : ∀ i ∈ T.slots, i ∈ vs0) (k : ∀ σ', REnv K m H ρ' σ' → wipe σ' vs0 = wipe σ vs0 → Q σ' H) : gOf K T v σ H Q := by
  cases T with
  | nm i =>
    cases Option.some.inj t
    exact k _ (e.set q) (wipe_set (hv i (by simp [Tg.slots])))
  | tp is =>
    cases q with
    | @tup a xs ws s r =>
      unfold tgF at t
      dsimp only at t
      by_cases hl : is.length = xs.length
      · rw [if_pos hl] at t
        cases Option.some.inj t
        exact ⟨_, _, rfl, s, by rw [r.len]; exact hl.symm, gsOf_ok hl r e hv k⟩
      · rw [if_neg hl] at t
        cases t
    | _ => cases t
end
/-! ### comprehensions -/
def noEx {α : Type} (x : M α) : M α := fun h => match x h with
  | .ok a h' => .ok a h'
  | _ => .bad
def wipeE (ρ : Env') : List Nat → Env'
  | [] => ρ
  | v :: vs => (wipeE ρ vs).set v none
def lcLoop (S : Src) (T : Tg) (test : Env' → M Bool) (elt : Env' → M D) (l : Nat) (ρ : Env') : List D → M Unit
  | [] => fun h => if S.chk h = true then .ok () h else .bad
  | x :: xs => fun h => if S.chk h = true then
      (match tgF T x ρ with
      | none => .bad
      | some ρ1 => M.bind (test ρ1) (fun b => if b = true then M.bind (elt ρ1) (fun d => M.bind (appendF (.loc l) [d]) fun _ => lcLoop S T test elt l ρ xs) else lcLoop S T test elt l ρ xs) h)
    else .bad
def lcF (src : Env' → M Src) (T : Tg) (test : Env' → M Bool) (elt : Env' → M D) (own : List Nat) : Env' → M D := fun ρ =>
  M.bind (src ρ) fun S h => M.bind (noEx (lcLoop S T test elt h.length (wipeE ρ own) S.items)) (fun _ h' => .ok (.loc h.length) h') (h ++ [.lst []])
def W0 : Wh := fun _ _ _ => False
def RU : List Addr → Hp → Unit → Unit → Prop := fun _ _ _ _ => True
section
variable {X : Cx} {cl : Nat → Value} {W : Wh} {K : PySem.W.Frag} {m : List Addr} {H : Hp}
theorem REnv.wipe {ρ : Env'} {σ : L2.St} (e : REnv K m H ρ σ) : ∀ vs : List Nat, REnv K m H (wipeE ρ vs) (L2.wipe σ vs)
  | [] => e
  | v :: vs => (REnv.wipe e vs).clear
theorem noEx_post {α β : Type} {ra : List Addr → Hp → α → β → Prop} {x : M α} {h : HA} {Q : β → Hp → Prop} (p : Post K cl ra m H (noEx x h) Q W) : Post K cl ra m H (x h) Q W0 := by
  unfold noEx at p
  cases hx : x h with
  | ok a h' => rw [hx] at p; exact p
  | ex c w h' => rw [hx] at p; exact p.elim
  | bad => rw [hx] at p; exact p.elim
theorem tLc_of {src : Env' → M Src} {T : Tg} {test : Env' → M Bool} {elt : Env' → M D} {own : List Nat} (hT : ∀ i ∈ T.slots, i ∈ own) {σ : L2.St} {H : Hp} {Q : VK} (p : tE K cl W (lcF src T test elt own) σ H Q) :
    tLc (tI K cl W src) (gOf K T) (tT K cl W0 test) (tE K cl W0 elt) own σ H Q := by
  obtain ⟨m, ρ, h, e, r, p⟩ := p
  refine ⟨m, ρ, h, e, r, p.bind.mono fun J H1 ⟨m1, S, h1, x1, r1, q1, p1⟩ => ?_⟩
  intro D hD
  have eD : (m1 ++ [D])[h1.length]? = some D := by
    rw [List.getElem?_append_right (by rw [r1.len]; exact Nat.le_refl _), r1.len]
    simp
  have x2 : Ext K m1 H1 (m1 ++ [D]) (upd H1 D (.lst [])) := (ext_upd (.inl hD)).trans ext_app
  have r2 : Rel K (m1 ++ [D]) (upd H1 D (.lst [])) (h1 ++ [.lst []]) := r1.alloc hD .nil
  have p2 : Post K cl RU (m1 ++ [D]) (upd H1 D (.lst [])) (lcLoop S T test elt h1.length (wipeE ρ own) S.items (h1 ++ [.lst []])) (fun _ H' => Q (.ref D) H') W0 := by
    have pb := (p1.ext x2).bind (ra := RU)
    refine Post.mono (noEx_post (W := W) ?_) (Q := fun _ H2 => ∃ m2, Ext K (m1 ++ [D]) (upd H1 D (.lst [])) m2 H2 ∧ (m2[h1.length]? = some D → Q (.ref D) H2)) fun _ H2 ⟨m2, y, z⟩ => z (y.pre _ _ eD)
    exact pb.mono fun _ H2 ⟨m2, _, h2, y, z, _, p3⟩ => ⟨m2, y, fun em => p3.here z (.loc em)⟩
  have e2 : REnv K (m1 ++ [D]) (upd H1 D (.lst [])) (wipeE ρ own) (L2.wipe σ own) := ((e.ext x1).ext x2).wipe own
  have q2 : rSrc K (m1 ++ [D]) (upd H1 D (.lst [])) S J := q1.ext x2
  refine ⟨fun i n H => ∃ mm hh rest, rest.length = n ∧ S.items.drop i = rest ∧ REnv K mm H (wipeE ρ own) (L2.wipe σ own) ∧ Rel K mm H hh ∧ rSrc K mm H S J ∧ mm[h1.length]? = some D ∧
    Post K cl RU mm H (lcLoop S T test elt h1.length (wipeE ρ own) rest hh) (fun _ H' => Q (.ref D) H') W0, ⟨_, _, _, _, rfl, rfl, e2, r2, q2, eD, p2⟩, ?_⟩
  rintro i n H ⟨mm, hh, rest, rfl, hd, ee, rr, qq, ed, pp⟩
  cases rest with
  | nil =>
    unfold lcLoop at pp
    split at pp
    · next c =>
      have hl : S.items.length ≤ i := by
        have := congrArg List.length hd
        rw [List.length_drop] at this
        simp at this
        omega
      exact .inl ⟨(Src.turn rr qq c).2 hl, pp.here (b := ()) rr trivial⟩
    · exact pp.elim
  | cons x xs =>
    unfold lcLoop at pp
    split at pp
    · next c =>
      have hx : S.items[i]? = some x := by
        have := congrArg (·[0]?) hd
        simpa using this
      have hdr : S.items.drop (i + 1) = xs := by
        rw [← List.drop_drop, hd]
        rfl
      obtain ⟨go, yl⟩ := (Src.turn rr qq c).1 x hx
      split at pp
      · exact pp.elim
      · next ρ1 ht =>
        refine .inr ⟨go, fun H => ∃ mm hh, REnv K mm H (wipeE ρ own) (L2.wipe σ own) ∧ Rel K mm H hh ∧ rSrc K mm H S J ∧ mm[h1.length]? = some D ∧ Post K cl RU mm H (lcLoop S T test elt h1.length (wipeE ρ own) xs hh) (fun _ H' => Q (.ref D) H') W0,
          fun H' ⟨mm, hh, a1, a2, a3, a4, a5⟩ => ⟨xs.length, Nat.lt_succ_self _, mm, hh, xs, rfl, hdr, a1, a2, a3, a4, a5⟩, fun v H' y => ?_⟩
        obtain ⟨ex, rel', qv⟩ := yl v H' y
        refine gOf_ok ht qv (ee.ext ex) hT fun σ' e' w => ?_
        refine ⟨w.trans ?_, ?_⟩
        · -- wiped twice
          apply List.ext_getElem?
          intro j
          rw [wipe_get, wipe_get]
          by_cases hj : j ∈ own
          · rw [if_pos hj, if_pos hj]
            cases σ[j]? <;> rfl
          · rw [if_neg hj, if_neg hj]
        · refine ⟨mm, ρ1, hh, e', rel', (pp.ext ex).bind.mono fun b H3 ⟨m3, b', h3, x3, r3, q3, p3⟩ => ?_⟩
          cases q3
          cases b with
          | true =>
            refine ⟨m3, ρ1, h3, e'.ext x3, r3, Post.mono (Post.bind p3) fun yv H4 ⟨m4, d, h4, x4, r4, q4, p4⟩ => ?_⟩
            have ed4 : m4[h1.length]? = some D := x4.pre _ _ (x3.pre _ _ (ex.pre _ _ ed))
            have p4 : Post K cl RU m4 H4 (M.bind (appendF (.loc h1.length) [d]) (fun _ => lcLoop S T test elt h1.length (wipeE ρ own) xs) h4) (fun _ H' => Q (.ref D) H') W0 := p4
            unfold M.bind appendF at p4
            dsimp only at p4
            cases hq : h4[h1.length]? with
            | none => rw [hq] at p4; exact p4.elim
            | some o =>
              cases o with
              | ro ys => rw [hq] at p4; exact p4.elim
              | lst ys =>
                rw [hq] at p4
                dsimp only at p4
                by_cases hz : ys.length < sizeLine
                · rw [if_pos hz] at p4
                  obtain ⟨vs, hvs, t⟩ := r4.get ed4 hq
                  have rv : RVs K m4 H4 (ys ++ [d]) (vs ++ [yv]) := t.app (.cons q4 .nil)
                  have x5 : Ext K m4 H4 m4 (upd H4 D (.lst (vs ++ [yv]))) := ext_upd (.inr ⟨_, hvs⟩)
                  exact ⟨vs, hvs, by rw [t.len]; exact hz, m4, _, (((ee.ext ex).ext x3).ext x4).ext x5, r4.write ed4 hq rv, (((qq.ext ex).ext x3).ext x4).ext x5, ed4, p4.ext x5⟩
                · rw [if_neg hz] at p4
                  exact p4.elim
          | false => exact ⟨m3, h3, (ee.ext ex).ext x3, r3, (qq.ext ex).ext x3, x3.pre _ _ (ex.pre _ _ ed), p3⟩
    · exact pp.elim
theorem de_lc {src : Env' → M Src} {T : Tg} {test : Env' → M Bool} {elt : Env' → M D} {ex tg iter : Expr} {ifs : List Expr} {scope : Scope} {own : List (Str × Nat)} {pos : Pos} (hT : ∀ i ∈ T.slots, i ∈ own.map (·.2)) (hc : X.calm = true) (hN : X.N.Nodup) (hi : PI X tg iter (tI K cl W src)) (ok : BlkOk X.N X.env.scope scope own)
    (hg : ∀ (s : Shared) (H : Hp) (C : Addr) (c : List (Str × Addr)) (fp : List Addr), PG (X.blk s H scope (compEnvC scope c C X.env) fp) tg (gOf K T)) (ht : ∀ (s : Shared) (H : Hp) (C : Addr) (c : List (Str × Addr)) (fp : List Addr), PTs (X.blk s H scope (compEnvC scope c C X.env) fp) ifs (tT K cl W0 test))
    (he : ∀ (s : Shared) (H : Hp) (C : Addr) (c : List (Str × Addr)) (fp : List Addr), PE (X.blk s H scope (compEnvC scope c C X.env) fp) ex (tE K cl W0 elt)) (hs : ∀ x, foldedSetIterable iter X.env x = pure x) :
    PE X (.ListComp ex [⟨tg, iter, ifs, 0⟩] scope pos) (tE K cl W (lcF src T test elt (own.map (·.2)))) :=
  PE.imp (pe_lc hc hN hi ok hg ht he hs) fun _ _ _ p => tLc_of hT p
end
end Dx

/-! Dx6: statements and loops. -/
namespace Dx
open PySem PySem.Spec PyProof.Rows L2

inductive Out where
  | nx (ρ : Env')
  | rt (d : D)
  | bk (ρ : Env')
  | ct (ρ : Env')
inductive OutV where
  | nx (σ : L2.St)
  | rt (v : V)
  | bk (σ : L2.St)
  | ct (σ : L2.St)
def ROut (K : PySem.W.Frag) (m : List Addr) (H : Hp) : Out → OutV → Prop
  | .nx ρ, .nx σ => REnv K m H ρ σ
  | .rt d, .rt v => RV K m H d v
  | .bk ρ, .bk σ => REnv K m H ρ σ
  | .ct ρ, .ct σ => REnv K m H ρ σ
  | _, _ => False
def endsQ (D : Ends) : OutV → Hp → Prop
  | .nx σ, H => D.nx σ H
  | .rt v, H => D.rt v H
  | .bk σ, H => D.bk σ H
  | .ct σ, H => D.ct σ H
section
variable {X : Cx} {cl : Nat → Value} {W : Wh} {K : PySem.W.Frag} {a b c e tg : Expr} {pos pos' : Pos} {st : Stmt} {rest body : List Stmt}
def tS (K : PySem.W.Frag) (cl : Nat → Value) (W : Wh) (f : Env' → M Out) : TS := fun D σ H => tG K cl (ROut K) W f σ H (endsQ D)

def nextF : Env' → M Out := fun ρ h => .ok (.nx ρ) h
def sqF (f g : Env' → M Out) : Env' → M Out := fun ρ => M.bind (f ρ) fun o => match o with | .nx ρ' => g ρ' | o => fun h => .ok o h
theorem dss_nil : PSs X [] (tS K cl W nextF) := PSs.imp pss_nil fun D σ H ⟨m, ρ, h, e, r, p⟩ => Post.here (a := Out.nx ρ) (b := OutV.nx σ) p r e
theorem dss_cons {f g : Env' → M Out} (h1 : PS X st (tS K cl W f)) (h2 : PSs X rest (tS K cl W g)) : PSs X (st :: rest) (tS K cl W (sqF f g)) := by
  refine PSs.imp (pss_cons h1 h2) fun D σ H ⟨m, ρ, h, e, r, p⟩ => ?_
  refine ⟨m, ρ, h, e, r, p.bind.mono fun o H1 ⟨m1, o', h1, x1, r1, q1, p1⟩ => ?_⟩
  cases o' with
  | nx ρ' =>
    cases o with
    | nx σ' => exact ⟨m1, ρ', h1, q1, r1, p1⟩
    | _ => exact q1.elim
  | rt d =>
    cases o with
    | rt v => exact Post.here (Q := endsQ D) (a := Out.rt d) (b := OutV.rt v) p1 r1 q1
    | _ => exact q1.elim
  | bk ρ' =>
    cases o with
    | bk σ' => exact Post.here (Q := endsQ D) (a := Out.bk ρ') (b := OutV.bk σ') p1 r1 q1
    | _ => exact q1.elim
  | ct ρ' =>
    cases o with
    | ct σ' => exact Post.here (Q := endsQ D) (a := Out.ct ρ') (b := OutV.ct σ') p1 r1 q1
    | _ => exact q1.elim
theorem dss_one {f : Env' → M Out} (h1 : PS X st (tS K cl W f)) : PSs X [st] (tS K cl W f) := pss_one h1
theorem ds_pass : PS X (.Pass pos) (tS K cl W nextF) := PS.imp ps_pass fun D σ H ⟨m, ρ, h, e, r, p⟩ => Post.here (a := Out.nx ρ) (b := OutV.nx σ) p r e
theorem ds_break : PS X (.Break pos) (tS K cl W fun ρ h => .ok (.bk ρ) h) := PS.imp ps_break fun D σ H ⟨m, ρ, h, e, r, p⟩ => Post.here (a := Out.bk ρ) (b := OutV.bk σ) p r e
theorem ds_cont : PS X (.Continue pos) (tS K cl W fun ρ h => .ok (.ct ρ) h) := PS.imp ps_continue fun D σ H ⟨m, ρ, h, e, r, p⟩ => Post.here (a := Out.ct ρ) (b := OutV.ct σ) p r e
def dropF (f : Env' → M D) : Env' → M Out := fun ρ => M.bind (f ρ) fun _ h => .ok (.nx ρ) h
theorem ds_expr {f : Env' → M D} (ha : PE X e (tE K cl W f)) (hs : swapsWith e none pos.line X.env = pure false) : PS X (.Expr e pos) (tS K cl W (dropF f)) := by
  refine PS.imp (ps_expr ha hs) fun D σ H ⟨m, ρ, h, e, r, p⟩ => ?_
  exact ⟨m, ρ, h, e, r, p.bind.mono fun v H1 ⟨m1, d, h1, x1, r1, q1, p1⟩ => Post.here (a := Out.nx ρ) (b := OutV.nx σ) p1 r1 (e.ext x1)⟩
def retF (f : Env' → M D) : Env' → M Out := fun ρ => M.bind (f ρ) fun d h => .ok (.rt d) h
theorem ds_ret {f : Env' → M D} (ha : PE X e (tE K cl W f)) : PS X (.Return (some e) pos) (tS K cl W (retF f)) := by
  refine PS.imp (ps_ret ha) fun D σ H ⟨m, ρ, h, e, r, p⟩ => ?_
  exact ⟨m, ρ, h, e, r, p.bind.mono fun v H1 ⟨m1, d, h1, x1, r1, q1, p1⟩ => Post.here (a := Out.rt d) (b := OutV.rt v) p1 r1 q1⟩
theorem ds_retN : PS X (.Return none pos) (tS K cl W fun ρ h => .ok (.rt .non) h) := PS.imp ps_retN fun D σ H ⟨m, ρ, h, e, r, p⟩ => Post.here (a := Out.rt .non) (b := OutV.rt .non) p r .non
theorem ds_if {t : Env' → M Bool} {f g : Env' → M Out} {as bs : List Stmt} (hc : PT X c (tT K cl W t)) (ha : PSs X as (tS K cl W f)) (hb : PSs X bs (tS K cl W g)) : PS X (.If c as bs pos) (tS K cl W (iteF t f g)) := by
  refine PS.imp (ps_if hc ha hb) fun D σ H ⟨m, ρ, h, e, r, p⟩ => ?_
  refine ⟨m, ρ, h, e, r, p.bind.mono fun x H1 ⟨m1, d, h1, x1, r1, q1, p1⟩ => ?_⟩
  cases q1
  cases x with
  | true => exact ⟨m1, ρ, h1, e.ext x1, r1, p1⟩
  | false => exact ⟨m1, ρ, h1, e.ext x1, r1, p1⟩
/-! ### stores -/
def ofOpt {α : Type} : Option α → M α
  | some a => fun h => .ok a h
  | none => M.bad
/-- target = value -/
def asgF (T : Tg) (f : Env' → M D) : Env' → M Out := fun ρ => M.bind (f ρ) fun d => M.bind (ofOpt (tgF T d ρ)) fun ρ' h => .ok (.nx ρ') h
theorem asg_go {T : Tg} {m : List Addr} {H : Hp} {ρ : Env'} {σ : L2.St} {En : Ends} {d : D} {v : V} {h : HA} (p : Post K cl (ROut K) m H (M.bind (ofOpt (tgF T d ρ)) (fun ρ' h => .ok (.nx ρ') h) h) (endsQ En) W) (e : REnv K m H ρ σ) (r : Rel K m H h) (q : RV K m H d v) : gOf K T v σ H En.nx := by
  cases ht : tgF T d ρ with
  | none => rw [ht] at p; exact p.elim
  | some ρ' =>
    rw [ht] at p
    exact gOf_ok (vs0 := T.slots) ht q e (fun _ z => z) fun σ' e' _ => Post.here (a := Out.nx ρ') (b := OutV.nx σ') p r e'
theorem ds_asg {T : Tg} {f : Env' → M D} (ha : PE X e (tE K cl W f)) (hg : PG X tg (gOf K T)) (hs : swapsWithSole [tg] e pos.line X.env = pure false) (hw : swappedStores [tg] e X.env = pure none) (h1 : (assignEach [tg] X.env).map (·.2) = [assign tg X.env]) : PS X (.Assign [tg] e pos) (tS K cl W (asgF T f)) := by
  refine PS.imp (ps_asg ha hg hs hw h1) fun D σ H ⟨m, ρ, h, e, r, p⟩ => ?_
  exact ⟨m, ρ, h, e, r, p.bind.mono fun v H1 ⟨m1, d, h1, x1, r1, q1, p1⟩ => asg_go p1 (e.ext x1) r1 q1⟩
theorem ds_set {i : Nat} {x : Str} {f : Env' → M D} (hN : X.N.Nodup) (hi : X.N[i]? = some x) (hx : Loc X.env.scope x) (ha : PE X e (tE K cl W f)) (hs : swapsWith e (some (.Name x pos')) pos.line X.env = pure false) (hf : X.fn x = true ∨ X.env.scope.names.lookup x = some .local) :
    PS X (.Assign [.Name x pos'] e pos) (tS K cl W (asgF (.nm i) f)) := by
  refine PS.imp (ps_set hN hi hx ha hs hf) fun D σ H ⟨m, ρ, h, e, r, p⟩ => ?_
  exact ⟨m, ρ, h, e, r, p.bind.mono fun v H1 ⟨m1, d, h1, x1, r1, q1, p1⟩ => asg_go (T := .nm i) p1 (e.ext x1) r1 q1⟩
/-- name = [.. for ..], on one line -/
theorem ds_setLc {i : Nat} {y : Str} {py : Pos} {src : Env' → M Src} {T : Tg} {test : Env' → M Bool} {elt : Env' → M D} {ex tg iter : Expr} {ifs : List Expr} {scope : Scope} {own : List (Str × Nat)} {pos spos : Pos} (hT : ∀ i ∈ T.slots, i ∈ own.map (·.2)) (hc : X.calm = true) (hN : X.N.Nodup)
    (hy : X.N[i]? = some y) (hyl : X.env.scope.names.lookup y = some .local) (hsw : swapsWith (.ListComp ex [⟨tg, iter, ifs, 0⟩] scope pos) (some (.Name y py)) spos.line X.env = pure true) (hi : PI X tg iter (tI K cl W src)) (ok : BlkOk X.N X.env.scope scope own)
    (hg : ∀ (s : Shared) (H : Hp) (C : Addr) (c : List (Str × Addr)) (fp : List Addr), PG (X.blk s H scope (compEnvC scope c C X.env) fp) tg (gOf K T)) (ht : ∀ (s : Shared) (H : Hp) (C : Addr) (c : List (Str × Addr)) (fp : List Addr), PTs (X.blk s H scope (compEnvC scope c C X.env) fp) ifs (tT K cl W0 test))
    (he : ∀ (s : Shared) (H : Hp) (C : Addr) (c : List (Str × Addr)) (fp : List Addr), PE (X.blk s H scope (compEnvC scope c C X.env) fp) ex (tE K cl W0 elt)) (hs : ∀ x, foldedSetIterable iter X.env x = pure x) :
    PS X (.Assign [.Name y py] (.ListComp ex [⟨tg, iter, ifs, 0⟩] scope pos) spos) (tS K cl W (asgF (.nm i) (lcF src T test elt (own.map (·.2))))) := by
  refine PS.imp (ps_setLc hc hN hy hyl hsw hi ok hg ht he hs) fun D σ H p => ?_
  refine tLc_of (W := W) hT ?_
  obtain ⟨m, ρ, h, e, r, p⟩ := p
  exact ⟨m, ρ, h, e, r, p.bind.mono fun v H1 ⟨m1, d, h1, x1, r1, q1, p1⟩ => asg_go (T := .nm i) p1 (e.ext x1) r1 q1⟩
/-- a, b = x, y by local names -/
def parF (i j : Nat) (g : Env' → M (List D)) : Env' → M Out := fun ρ => M.bind (g ρ) fun ds => match ds with
  | [d, e] => fun h => .ok (.nx ((ρ.set i (some d)).set j (some e))) h
  | _ => M.bad
theorem ds_par {i j : Nat} {x y : Str} {g : Env' → M (List D)} {px py pt : Pos} {kt k2 : Nat} {pt2 : Pos} (hc : X.calm = true) (hN : X.N.Nodup) (hi : X.N[i]? = some x) (hj : X.N[j]? = some y) (hij : i ≠ j) (hx : X.env.scope.names.lookup x = some .local) (hy : X.env.scope.names.lookup y = some .local)
    (ha : PA X [a, b] (tA K cl W g)) (hw : swappedStores [.Tuple [.Name x px, .Name y py] kt pt] (.Tuple [a, b] k2 pt2) X.env = pure (some [x, y])) (hs : swapsWithSole [.Tuple [.Name x px, .Name y py] kt pt] (.Tuple [a, b] k2 pt2) pos.line X.env = pure false) :
    PS X (.Assign [.Tuple [.Name x px, .Name y py] kt pt] (.Tuple [a, b] k2 pt2) pos) (tS K cl W (parF i j g)) := by
  refine PS.imp (ps_par hc hN hi hj hij hx hy ha hw hs) fun D σ H ⟨m, ρ, h, e, r, p⟩ => ?_
  refine ⟨m, ρ, h, e, r, p.bind.mono fun vs H1 ⟨m1, ds, h1, x1, r1, q1, p1⟩ => ?_⟩
  split at p1
  · next d1 d2 =>
    obtain ⟨v, w, rfl, q, q2⟩ := q1.two
    exact ⟨v, w, rfl, Post.here (a := Out.nx ((ρ.set i (some d1)).set j (some d2))) (b := OutV.nx ((σ.set i (some v)).set j (some w))) p1 r1 (((e.ext x1).set q).set q2)⟩
  · exact p1.elim
/-- o[i] = e -/
def setIxF : D → D → D → M Unit
  | .loc l, .int k, d => fun h => match h[l]? with
    | some (.lst xs) => (match ixN xs.length k with | some j => .ok () (h.set l (.lst (xs.set j d))) | none => .bad)
    | _ => .bad
  | _, _, _ => M.bad
def setItF (fo fi f : Env' → M D) : Env' → M Out := fun ρ => M.bind (f ρ) fun d => M.bind (fo ρ) fun o => M.bind (fi ρ) fun i => M.bind (setIxF o i d) fun _ h => .ok (.nx ρ) h
theorem ds_setIt {o i : Expr} {spos : Pos} {fo fi f : Env' → M D} (ho : PE X o (tE K cl W fo)) (hi : PE X i (tE K cl W fi)) (ha : PE X e (tE K cl W f))
    (hg : ∀ v, assign (.Subscript o i spos) X.env v = (do
      let ov ← holding [v] (eval o X.env)
      let iv ← holding [v, ov] (eval i X.env)
      standAt spos
      holding [v, ov, iv] (setItem ov iv v)
      release [v, ov, iv] [])) (hs : swapsWithSole [.Subscript o i spos] e pos.line X.env = pure false) (hw : swappedStores [.Subscript o i spos] e X.env = pure none) (h1 : (assignEach [.Subscript o i spos] X.env).map (·.2) = [assign (.Subscript o i spos) X.env]) :
    PS X (.Assign [.Subscript o i spos] e pos) (tS K cl W (setItF fo fi f)) := by
  refine PS.imp (ps_asg ha (pg_sub ho hi set_list hg) hs hw h1) fun D σ H ⟨m, ρ, h, e, r, p⟩ => ?_
  refine ⟨m, ρ, h, e, r, p.bind.mono fun v H1 ⟨m1, d, h1, x1, r1, q1, p1⟩ => ?_⟩
  refine ⟨m1, ρ, h1, e.ext x1, r1, Post.mono (Post.bind p1) fun ov H2 ⟨m2, o, h2, x2, r2, q2, p2⟩ => ?_⟩
  refine ⟨m2, ρ, h2, (e.ext x1).ext x2, r2, Post.mono (Post.bind p2) fun iv H3 ⟨m3, i, h3, x3, r3, q3, p3⟩ => ?_⟩
  have q1 := (q1.ext x2).ext x3
  have q2 := q2.ext x3
  have e := ((e.ext x1).ext x2).ext x3
  cases q2 with
  | @loc l a' em =>
    cases q3 with
    | int k =>
      have p3 : Post K cl (ROut K) m3 H3 (M.bind (setIxF (.loc l) (.int k) d) (fun _ h => .ok (.nx ρ) h) h3) (endsQ D) W := p3
      unfold M.bind setIxF at p3
      dsimp only at p3
      cases hx : h3[l]? with
      | none => rw [hx] at p3; exact p3.elim
      | some o =>
        cases o with
        | ro ys => rw [hx] at p3; exact p3.elim
        | lst xs =>
          rw [hx] at p3
          dsimp only at p3
          cases hj : ixN xs.length k with
          | none => rw [hj] at p3; exact p3.elim
          | some j =>
            rw [hj] at p3
            obtain ⟨vs, hvs, t⟩ := r3.get em hx
            have rv : RVs K m3 H3 (xs.set j d) (vs.set j v) := t.set q1 j
            have x5 : Ext K m3 H3 m3 (upd H3 a' (.lst (vs.set j v))) := ext_upd (.inr ⟨_, hvs⟩)
            exact ⟨_, vs, k, j, rfl, rfl, hvs, by rw [t.len]; exact hj, Post.at_ (a := Out.nx ρ) (b := OutV.nx σ) p3 x5 (r3.write em hx rv) (e.ext x5)⟩
    | _ => exact p3.elim
  | _ => exact (by cases q3 <;> exact p3.elim)
/-! ### loops -/
def loopF (S : Src) (T : Tg) (body : Env' → M Out) : List D → Env' → M Out
  | [], ρ => fun h => if S.chk h = true then .ok (.nx ρ) h else .bad
  | x :: xs, ρ => fun h => if S.chk h = true then (match tgF T x ρ with
      | none => .bad
      | some ρ1 => M.bind (body ρ1) (fun o => match o with
        | .nx ρ2 => loopF S T body xs ρ2
        | .ct ρ2 => loopF S T body xs ρ2
        | .bk ρ2 => fun h => .ok (.nx ρ2) h
        | .rt d => fun h => .ok (.rt d) h) h)
    else .bad
def forF (src : Env' → M Src) (T : Tg) (body : Env' → M Out) : Env' → M Out := fun ρ => M.bind (src ρ) fun S => loopF S T body S.items ρ
theorem tFor_of {src : Env' → M Src} {T : Tg} {body : Env' → M Out} {D : Ends} {σ : L2.St} {H : Hp} (p : tS K cl W (forF src T body) D σ H) : tFor (tI K cl W src) (gOf K T) (tS K cl W body) D σ H := by
  obtain ⟨m, ρ, h, e, r, p⟩ := p
  refine ⟨m, ρ, h, e, r, Post.mono (Post.bind p) fun J H1 ⟨m1, S, h1, x1, r1, q1, p1⟩ => ?_⟩
  let Wp : List Dx.D → L2.St → Hp → Prop := fun rest σ H => ∃ mm ρ hh, REnv K mm H ρ σ ∧ Rel K mm H hh ∧ rSrc K mm H S J ∧ Post K cl (ROut K) mm H (loopF S T body rest ρ hh) (endsQ D) W
  refine ⟨fun i n σ H => ∃ rest, rest.length = n ∧ S.items.drop i = rest ∧ Wp rest σ H, ⟨_, _, rfl, rfl, m1, ρ, h1, e.ext x1, r1, q1, p1⟩, ?_⟩
  rintro i n σ H ⟨rest, rfl, hd, mm, ρ, hh, ee, rr, qq, pp⟩
  cases rest with
  | nil =>
    unfold loopF at pp
    split at pp
    · next c =>
      have hl : S.items.length ≤ i := by
        have := congrArg List.length hd
        rw [List.length_drop] at this
        simp at this
        omega
      exact .inl ⟨(Src.turn rr qq c).2 hl, Post.here (a := Out.nx ρ) (b := OutV.nx σ) pp rr ee⟩
    · exact pp.elim
  | cons x xs =>
    unfold loopF at pp
    split at pp
    · next c =>
      have hx : S.items[i]? = some x := by
        have := congrArg (·[0]?) hd
        simpa using this
      have hdr : S.items.drop (i + 1) = xs := by
        rw [← List.drop_drop, hd]
        rfl
      obtain ⟨go, yl⟩ := (Src.turn rr qq c).1 x hx
      split at pp
      · exact pp.elim
      · next ρ1 ht =>
        refine .inr ⟨go, Wp xs, fun σ' H' w => ⟨xs.length, Nat.lt_succ_self _, xs, rfl, hdr, w⟩, fun v H' y => ?_⟩
        obtain ⟨ex, rel', qv⟩ := yl v H' y
        refine gOf_ok (vs0 := T.slots) ht qv (ee.ext ex) (fun _ z => z) fun σ' e' _ => ?_
        refine ⟨mm, ρ1, hh, e', rel', Post.mono (Post.bind (pp.ext ex)) fun o H3 ⟨m3, o', h3, x3, r3, q3, p3⟩ => ?_⟩
        have qq3 := (qq.ext ex).ext x3
        cases o' with
        | nx ρ2 =>
          cases o with
          | nx σ2 => exact ⟨m3, ρ2, h3, q3, r3, qq3, p3⟩
          | _ => exact q3.elim
        | ct ρ2 =>
          cases o with
          | ct σ2 => exact ⟨m3, ρ2, h3, q3, r3, qq3, p3⟩
          | _ => exact q3.elim
        | bk ρ2 =>
          cases o with
          | bk σ2 => exact Post.here (Q := endsQ D) (a := Out.nx ρ2) (b := OutV.nx σ2) p3 r3 q3
          | _ => exact q3.elim
        | rt d =>
          cases o with
          | rt v => exact Post.here (Q := endsQ D) (a := Out.rt d) (b := OutV.rt v) p3 r3 q3
          | _ => exact q3.elim
    · exact pp.elim
theorem ds_for {src : Env' → M Src} {T : Tg} {f : Env' → M Out} {iter : Expr} (hp : PassesOwn (model X.prog X.w) X.A X.env X.xe) (hc : X.calm = true) (hi : PI X tg iter (tI K cl W src)) (hg : PG X tg (gOf K T)) (hb : PSs X body (tS K cl W f)) (hs : ∀ x, foldedSetIterable iter X.env x = pure x) :
    PS X (.For tg iter body [] pos) (tS K cl W (forF src T f)) := PS.imp (ps_for hp hc hi hg hb hs) fun _ _ _ p => tFor_of p
/-- while, with so many turns at most -/
def whileF (t : Env' → M Bool) (f : Env' → M Out) : Nat → Env' → M Out
  | 0, _ => M.bad
  | n + 1, ρ => M.bind (t ρ) fun c => if c = true then M.bind (f ρ) (fun o => match o with
      | .nx ρ2 => whileF t f n ρ2
      | .ct ρ2 => whileF t f n ρ2
      | .bk ρ2 => fun h => .ok (.nx ρ2) h
      | .rt d => fun h => .ok (.rt d) h) else fun h => .ok (.nx ρ) h
theorem ds_while {t : Env' → M Bool} {f : Env' → M Out} {n : Nat} (hp : PassesOwn (model X.prog X.w) X.A X.env X.xe) (hc : PT X c (tT K cl W t)) (hb : PSs X body (tS K cl W f)) : PS X (.While c body [] pos) (tS K cl W (whileF t f n)) := by
  refine PS.imp (ps_while hp hc hb) fun D σ H p => ?_
  refine ⟨fun k σ H => tG K cl (ROut K) W (whileF t f k) σ H (endsQ D), ⟨n, p⟩, ?_⟩
  rintro k σ H ⟨m, ρ, h, e, r, p⟩
  cases k with
  | zero => exact p.elim
  | succ k =>
    refine ⟨m, ρ, h, e, r, Post.mono (Post.bind p) fun x H1 ⟨m1, d, h1, x1, r1, q1, p1⟩ => ?_⟩
    cases q1
    cases x with
    | false => exact Post.here (a := Out.nx ρ) (b := OutV.nx σ) p1 r1 (e.ext x1)
    | true =>
      refine ⟨fun σ' H' => tG K cl (ROut K) W (whileF t f k) σ' H' (endsQ D), fun σ' H' q => ⟨k, Nat.lt_succ_self _, q⟩, ?_⟩
      refine ⟨m1, ρ, h1, e.ext x1, r1, Post.mono (Post.bind p1) fun o H3 ⟨m3, o', h3, x3, r3, q3, p3⟩ => ?_⟩
      cases o' with
      | nx ρ2 =>
        cases o with
        | nx σ2 => exact ⟨m3, ρ2, h3, q3, r3, p3⟩
        | _ => exact q3.elim
      | ct ρ2 =>
        cases o with
        | ct σ2 => exact ⟨m3, ρ2, h3, q3, r3, p3⟩
        | _ => exact q3.elim
      | bk ρ2 =>
        cases o with
        | bk σ2 => exact Post.here (Q := endsQ D) (a := Out.nx ρ2) (b := OutV.nx σ2) p3 r3 q3
        | _ => exact q3.elim
      | rt d =>
        cases o with
        | rt v => exact Post.here (Q := endsQ D) (a := Out.rt d) (b := OutV.rt v) p3 r3 q3
        | _ => exact q3.elim
/-- code that is not read -/
theorem ds_never : PS X st (tS K cl W fun _ => M.bad) := PS.imp ps_never fun D σ H ⟨m, ρ, h, e, r, p⟩ => p.elim
end
end Dx

/-! Dx7: a syntax of our own for what the readings cover, its evaluator, and the check that it is the text. -/
namespace Dx
open PySem PySem.Spec PyProof.Rows L2

inductive Blt where
  | len | int | list | tuple | sum | min | max | isi
  deriving DecidableEq
inductive Mth where
  | append | pop | popAt | extend | count
  deriving DecidableEq

mutual
inductive E where
  | int (i : Int)
  | str (x : Str)
  | bl (b : Bool)
  | non
  | var (i : Nat)
  | ty (n : String)
  | cst (d : D)
  | bin (op : Operator) (a b : E)
  | cmp (op : CmpOp) (a b : E)
  | chain (op op2 : CmpOp) (a b c : E)
  | neg (a : E)
  | not (a : E)
  | and (es : List E)
  | or (es : List E)
  | ife (t : T) (a b : E)
  | tup (es : List E)
  | lst (es : List E)
  | ix (a b : E)
  | sl (a : E) (lo hi : Option E)
  | blt (f : Blt) (es : List E)
  | lrg1 (a : E)
  | lrg2 (a b : E)
  | trg1 (a : E)
  | rev (a : E)
  | srtSet (a : E)
  | call (i n : Nat) (es : List E)
  | meth (f : Mth) (o : E) (es : List E)
  | comp (it : It') (tg : Tg) (ifs : List T) (elt : E) (own : List (Str × Nat))
inductive T where
  | tr (e : E)
  | cmp (op : CmpOp) (a b : E)
  | chain (op op2 : CmpOp) (a b c : E)
  | not (t : T)
  | and (ts : List T)
  | or (ts : List T)
inductive It' where
  | rng1 (a : E)
  | rng2 (a b : E)
  | seq (a : E)
  | zip (a b : E)
  | enm (a : E)
end

/-! ### the evaluator -/
def binF : Operator → D → D → M D
  | .Add => addF
  | .Sub => subF
  | .Mult => mulF
  | .FloorDiv => divF
  | .Mod => modF
  | .Pow => powF
  | _ => fun _ _ => M.bad
def cmpF : CmpOp → D → D → M D
  | .Eq => eqF
  | .NotEq => neF
  | .Lt => ltF
  | .LtE => leF
  | .Gt => gtF
  | .GtE => geF
  | .In => inF
  | .NotIn => ninF
  | .Is => isF
  | .IsNot => isntF
def chainF (op op2 : CmpOp) (fa fb fc : Env' → M D) : Env' → M D := fun ρ => M.bind (fa ρ) fun x => M.bind (fb ρ) fun y => M.bind (cmpF op x y) fun c => match c with
  | .bl true => M.bind (fc ρ) fun z => cmpF op2 y z
  | .bl false => fun h => .ok (.bl false) h
  | _ => M.bad
def bltF : Blt → List D → M D
  | .len => lenF
  | .int => intF
  | .list => listF
  | .tuple => tupleF
  | .sum => sumF
  | .min => minF
  | .max => maxF
  | .isi => isiF
def mthF : Mth → D → List D → M D
  | .append => appendF
  | .pop => popF
  | .popAt => popAtF
  | .extend => extendF
  | .count => countF
def callN (n : Nat) (f : List D → M D) : List D → M D := fun ds => if ds.length = n then f ds else M.bad
def yesF : Env' → M Bool := fun _ h => .ok true h

section
variable (call : Nat → List D → M D)
mutual
def evE : E → Env' → M D
  | .int i => cstF (.int i)
  | .str x => cstF (.str x)
  | .bl b => cstF (.bl b)
  | .non => cstF .non
  | .var i => varF i
  | .ty n => cstF (.ty n)
  | .cst d => cstF d
  | .bin op a b => bin2 (binF op) (evE a) (evE b)
  | .cmp op a b => bin2 (cmpF op) (evE a) (evE b)
  | .chain op op2 a b c => chainF op op2 (evE a) (evE b) (evE c)
  | .neg a => un1 negF (evE a)
  | .not a => notF (evE a)
  | .and es => evAnd es
  | .or es => evOr es
  | .ife t a b => iteF (evT t) (evE a) (evE b)
  | .tup es => tupF (evEs es)
  | .lst es => lstF (evEs es)
  | .ix a b => bin2 ixF (evE a) (evE b)
  | .sl a lo hi => sliceF (evE a) (evO lo) (evO hi)
  | .blt f es => appF (bltF f) (evEs es)
  | .lrg1 a => lrgF (cstF (.int 0)) (evE a)
  | .lrg2 a b => lrgF (evE a) (evE b)
  | .trg1 a => trgF (cstF (.int 0)) (evE a)
  | .rev a => un1 revF (evE a)
  | .srtSet a => un1 srtSetF (evE a)
  | .call i n es => appF (callN n (call i)) (evEs es)
  | .meth f o es => methF "list" (mthF f) (evE o) (evEs es)
  | .comp it tg ifs elt own => lcF (evI it) tg (evTs ifs) (evE elt) (own.map (·.2))
def evO : Option E → Env' → M (Option Int)
  | none => nopartF
  | some e => partF (evE e)
def evEs : List E → Env' → M (List D)
  | [] => nilF
  | e :: es => consF (evE e) (evEs es)
def evAnd : List E → Env' → M D
  | [] => fun _ => M.bad
  | [e] => evE e
  | e :: es => andF (evE e) (evAnd es)
def evOr : List E → Env' → M D
  | [] => fun _ => M.bad
  | [e] => evE e
  | e :: es => orF (evE e) (evOr es)
def evT : T → Env' → M Bool
  | .tr e => testF (evE e)
  | .cmp op a b => testF (bin2 (cmpF op) (evE a) (evE b))
  | .chain op op2 a b c => testF (chainF op op2 (evE a) (evE b) (evE c))
  | .not t => notT (evT t)
  | .and ts => evAndT ts
  | .or ts => evOrT ts
def evAndT : List T → Env' → M Bool
  | [] => fun _ => M.bad
  | [e] => evT e
  | e :: es => andT (evT e) (evAndT es)
def evOrT : List T → Env' → M Bool
  | [] => fun _ => M.bad
  | [e] => evT e
  | e :: es => orT (evT e) (evOrT es)
def evTs : List T → Env' → M Bool
  | [] => yesF
  | [t] => evT t
  | _ => fun _ => M.bad
def evI : It' → Env' → M Src
  | .rng1 a => srcL rng1Of (consF (evE a) nilF)
  | .rng2 a b => srcL rng2Of (consF (evE a) (consF (evE b) nilF))
  | .seq a => srcE (evE a)
  | .zip a b => srcL zipOf (consF (evE a) (consF (evE b) nilF))
  | .enm a => srcL enmOf (consF (evE a) nilF)
end
end

/-! ### the check -/
inductive GK where
  | blt
  | fn (i n : Nat)
  | cst (d : D)
abbrev GEnv := List (Str × GK)
def GEnv.blt (G : GEnv) (x : Str) : Bool := match G.lookup x with | some .blt => true | _ => false
def GEnv.fn (G : GEnv) (x : Str) (i n : Nat) : Bool := match G.lookup x with | some (.fn j k) => i == j && n == k | _ => false
def GEnv.cst (G : GEnv) (x : Str) (d : D) : Bool := match G.lookup x with | some (.cst e) => D.beq d e | _ => false
def visB (sc : Scope) (x : Str) : Bool := match sc.names.lookup x with | some .local => true | some .cell => true | some .free => true | _ => false
def glB (sc : Scope) (x : Str) : Bool := match sc.names.lookup x with | some .globalImplicit => true | _ => false
def notDebug (x : Str) : Bool := !(x == ("__debug__" : Str)) && !(x == ("__classdict__" : Str))
def notStar : Expr → Bool
  | .Starred .. => false
  | _ => true
def notSet : Expr → Bool
  | .Set .. => false
  | _ => true
def notSlice : Expr → Bool
  | .Slice .. => false
  | _ => true
def notCall : Expr → Bool
  | .Call .. => false
  | _ => true
def notComp : Expr → Bool
  | .ListComp .. => false
  | .SetComp .. => false
  | .DictComp .. => false
  | _ => true
def plainT : Expr → Bool
  | .UnaryOp .. => false
  | .BoolOp .. => false
  | .IfExp .. => false
  | .Compare .. => false
  | _ => true
def bltName : Blt → Str
  | .len => "len"
  | .int => "int"
  | .list => "list"
  | .tuple => "tuple"
  | .sum => "sum"
  | .min => "min"
  | .max => "max"
  | .isi => "isinstance"
def mthName : Mth → Str
  | .append => "append"
  | .pop => "pop"
  | .popAt => "pop"
  | .extend => "extend"
  | .count => "count"
def tyOk (n : String) (x : Str) : Bool := (["int", "bool", "str", "tuple", "list"].contains n) && x == Str.ofString n
def okTgL (sc : Scope) (N : List Str) (bl : Bool) : List Nat → List Expr → Bool
  | [], [] => true
  | i :: is, .Name x _ :: es => decide (N[i]? = some x) && (decide (sc.names.lookup x = some .local) || (!bl && decide (sc.names.lookup x = some .cell))) && okTgL sc N bl is es
  | _, _ => false
def okTg (sc : Scope) (N : List Str) (bl : Bool) : Tg → Expr → Bool
  | .nm i, e => okTgL sc N bl [i] [e]
  | .tp is, .Tuple es _ _ => okTgL sc N bl is es
  | _, _ => false
def isTupE : Expr → Bool
  | .Tuple .. => true
  | _ => false
def okShape : It' → Expr → Bool
  | .zip _ _, t => isTupE t
  | .enm _, t => isTupE t
  | _, _ => true
def okPop (f : Mth) (ys : List Expr) : Bool := match f with
  | .pop => ys.isEmpty
  | _ => !ys.isEmpty
section
variable (N : List Str) (G : GEnv)
mutual
def okE (sc : Scope) : E → Expr → Bool
  | .int i, e => match e with | .Constant (.int j) _ _ => i == j | _ => false
  | .str x, e => match e with | .Constant (.str y) _ _ => x == y | _ => false
  | .bl b, e => match e with | .Constant (.bool c) _ _ => b == c | _ => false
  | .non, e => match e with | .Constant .none _ _ => true | _ => false
  | .var i, e => match e with | .Name x _ => decide (N[i]? = some x) && visB sc x && notDebug x | _ => false
  | .ty n, e => match e with | .Name x _ => tyOk n x && glB sc x && G.blt x | _ => false
  | .cst d, e => match e with | .Name x _ => G.cst x d && glB sc x && notDebug x | _ => false
  | .bin op a b, e => match e with | .BinOp l o r _ => decide (op = o) && okE sc a l && okE sc b r | _ => false
  | .cmp op a b, e => match e with | .Compare l [o] [r] _ => decide (op = o) && notSet r && okE sc a l && okE sc b r | _ => false
  | .chain op op2 a b c, e => match e with | .Compare l [o, o2] [r, q] _ => decide (op = o) && decide (op2 = o2) && notSet q && okE sc a l && okE sc b r && okE sc c q | _ => false
  | .neg a, e => match e with | .UnaryOp .USub x _ => okE sc a x | _ => false
  | .not a, e => match e with | .UnaryOp .Not x _ => okE sc a x | _ => false
  | .and es, e => match e with | .BoolOp .And xs _ => okEs sc es xs | _ => false
  | .or es, e => match e with | .BoolOp .Or xs _ => okEs sc es xs | _ => false
  | .ife t a b, e => match e with | .IfExp c x y _ => okT sc t c && okE sc a x && okE sc b y | _ => false
  | .tup es, e => match e with | .Tuple xs _ _ => okEs sc es xs | _ => false
  | .lst es, e => match e with | .List xs _ => okEs sc es xs | _ => false
  | .ix a b, e => match e with | .Subscript x y _ => notSlice y && okE sc a x && okE sc b y | _ => false
  | .sl a lo hi, e => match e with | .Subscript x (.Slice l h none _) _ => okE sc a x && okO sc lo l && okO sc hi h | _ => false
  | .blt f es, e => match e with | .Call (.Name x _) (y :: ys) [] _ => (x == bltName f) && glB sc x && G.blt x && okEs sc es (y :: ys) | _ => false
  | .lrg1 a, e => match e with | .Call (.Name x _) [.Call (.Name y _) [z] [] _] [] _ => (x == ("list" : Str)) && (y == ("range" : Str)) && glB sc x && G.blt x && glB sc y && G.blt y && notStar z && okE sc a z | _ => false
  | .lrg2 a b, e => match e with | .Call (.Name x _) [.Call (.Name y _) [z, u] [] _] [] _ => (x == ("list" : Str)) && (y == ("range" : Str)) && glB sc x && G.blt x && glB sc y && G.blt y && notStar z && notStar u && okE sc a z && okE sc b u | _ => false
  | .trg1 a, e => match e with | .Call (.Name x _) [.Call (.Name y _) [z] [] _] [] _ => (x == ("tuple" : Str)) && (y == ("range" : Str)) && glB sc x && G.blt x && glB sc y && G.blt y && notStar z && okE sc a z | _ => false
  | .rev a, e => match e with | .Subscript x (.Slice none none (some (.UnaryOp .USub (.Constant (.int 1) _ _) _)) _) _ => okE sc a x | _ => false
  | .srtSet a, e => match e with | .Call (.Name x _) [.Call (.Name y _) [z] [] _] [] _ => (x == ("sorted" : Str)) && (y == ("set" : Str)) && glB sc x && G.blt x && glB sc y && G.blt y && notStar z && okE sc a z | _ => false
  | .call i n es, e => match e with | .Call (.Name x _) (y :: ys) [] _ => G.fn x i n && glB sc x && notDebug x && okEs sc es (y :: ys) | _ => false
  | .meth f o es, e => match e with | .Call (.Attribute x m ap) ys [] cp => (m == mthName f) && notCall x && (ap.endLine == cp.line) && decide (ys.length < 20) && okE sc o x && okEs sc es ys && okPop f ys | _ => false
  | .comp it tg ifs elt own, e => match e with | .ListComp x [⟨t, i, cs, 0⟩] s _ => okI sc it i && okShape it t && notSet i &&
      (L2.blkC N sc s own) && (tg.slots.all fun j => (own.map (·.2)).contains j) && okTg (relS s sc) N true tg t && okTs (relS s sc) ifs cs && okE (relS s sc) elt x | _ => false
def okO (sc : Scope) : Option E → Option Expr → Bool
  | none, e => match e with | none => true | _ => false
  | some a, e => match e with | some x => okE sc a x | _ => false
def okEs (sc : Scope) : List E → List Expr → Bool
  | [], e => match e with | [] => true | _ => false
  | a :: as, e => match e with | x :: xs => notStar x && okE sc a x && okEs sc as xs | _ => false
def okT (sc : Scope) : T → Expr → Bool
  | .tr a, e => plainT e && okE sc a e
  | .cmp op a b, e => match e with | .Compare l [o] [r] _ => decide (op = o) && notSet r && okE sc a l && okE sc b r | _ => false
  | .chain op op2 a b c, e => match e with | .Compare l [o, o2] [r, q] _ => decide (op = o) && decide (op2 = o2) && notSet q && okE sc a l && okE sc b r && okE sc c q | _ => false
  | .not t, e => match e with | .UnaryOp .Not x _ => okT sc t x | _ => false
  | .and ts, e => match e with | .BoolOp .And xs _ => okTs sc ts xs | _ => false
  | .or ts, e => match e with | .BoolOp .Or xs _ => okTs sc ts xs | _ => false
def okTs (sc : Scope) : List T → List Expr → Bool
  | [], e => match e with | [] => true | _ => false
  | a :: as, e => match e with | x :: xs => okT sc a x && okTs sc as xs | _ => false
def okI (sc : Scope) : It' → Expr → Bool
  | .rng1 a, e => match e with | .Call (.Name x _) [y] [] _ => (x == ("range" : Str)) && glB sc x && G.blt x && notStar y && okE sc a y | _ => false
  | .rng2 a b, e => match e with | .Call (.Name x _) [y, z] [] _ => (x == ("range" : Str)) && glB sc x && G.blt x && notStar y && notStar z && okE sc a y && okE sc b z | _ => false
  | .seq a, e => okE sc a e
  | .zip a b, e => match e with | .Call (.Name x _) [y, z] [] _ => (x == ("zip" : Str)) && glB sc x && G.blt x && notStar y && notStar z && okE sc a y && okE sc b z | _ => false
  | .enm a, e => match e with | .Call (.Name x _) [y] [] _ => (x == ("enumerate" : Str)) && glB sc x && G.blt x && notStar y && okE sc a y | _ => false
end
end
end Dx

/-! Dx8: what passes the check does what the evaluator says: expressions. -/
namespace Dx
open PySem PySem.Spec PyProof.Rows L2

/-! ### small facts of the text -/
theorem star_cons {e : Expr} {es : List Expr} {env : Env} (h : notStar e = true) : starEach (e :: es) env = (false, eval e env) :: starEach es env := by
  cases e <;> first | rfl | cases h
theorem star_any {env : Env} {pos : Pos} : ∀ {es : List Expr}, (∀ e ∈ es, notStar e = true) → (backTo pos (starEach es env)).any (·.1) = false
  | [], _ => rfl
  | e :: es, h => by
    rw [star_cons (h e List.mem_cons_self)]
    show (false || (backTo pos (starEach es env)).any (·.1)) = false
    rw [star_any fun x hx => h x (List.mem_cons_of_mem _ hx)]
    rfl
theorem star_all {env : Env} {pos : Pos} : ∀ {es : List Expr}, (∀ e ∈ es, notStar e = true) → ((backTo pos (starEach es env)).all fun x => !x.1) = true
  | [], _ => rfl
  | e :: es, h => by
    rw [star_cons (h e List.mem_cons_self)]
    show (true && (backTo pos (starEach es env)).all fun x => !x.1) = true
    rw [star_all fun x hx => h x (List.mem_cons_of_mem _ hx)]
    rfl
theorem behind_not {op : CmpOp} {e : Expr} (h : notSet e = true) : behindInMarks op e = false := by
  cases e <;> first | rfl | cases h
theorem last_not {op op2 : CmpOp} {e e2 : Expr} (h : notSet e2 = true) : lastMarks [op, op2] [e, e2] = false := by
  cases e2 <;> first | rfl | cases h
theorem plainIx_not {e : Expr} (h : notSlice e = true) : PlainIx e := by
  intro o i
  cases e <;> first | rfl | cases h
theorem folded_not {e : Expr} {env : Env} (h : notSet e = true) : ∀ x, foldedSetIterable e env x = pure x := by
  intro x
  cases e <;> first | rfl | cases h
theorem attr_not {o : Expr} {n : Str} {env : Env} {w : Sem Value} (h : notCall o = true) : attributeBase o n env w = w := by
  cases o <;> first | rfl | cases h
theorem plainT_true {e : Expr} {env : Env} (h : plainT e = true) : ∀ whole, isTrue e env whole = (do let v ← whole; standAt e.pos; holding [v] (truthy v)) := by
  intro w
  cases e <;> first | rfl | cases h
theorem swaps_not {e : Expr} {t : Option Expr} {l : Nat} {env : Env} (h : notComp e = true) : swapsWith e t l env = pure false := by
  cases e <;> first | rfl | cases h
theorem visB_vis {sc : Scope} {x : Str} (h : visB sc x = true) : Vis sc x := by
  unfold visB at h
  split at h
  · next e => exact .inl e
  · next e => exact .inr (.inl e)
  · next e => exact .inr (.inr e)
  · cases h
theorem glB_gl {X : Cx} {sc : Scope} {x : Str} (hs : X.env.scope = sc) (h : glB sc x = true) : Gl X x := by
  unfold glB at h
  split at h
  · next e =>
    show X.env.scope.names.lookup x = _
    rw [hs]
    exact e
  · cases h
theorem notDebug_1 {x : Str} (h : notDebug x = true) : (x == ("__debug__" : Str)) = false := by
  unfold notDebug at h
  rw [Bool.and_eq_true] at h
  simpa using h.1
theorem notDebug_2 {x : Str} (h : notDebug x = true) : (x == ("__classdict__" : Str)) = false := by
  unfold notDebug at h
  rw [Bool.and_eq_true] at h
  simpa using h.2
theorem tyOk_boot {n : String} {x : Str} (h : tyOk n x = true) : bootBuiltins x = some (.type n) ∧ x ≠ "__name__" ∧ (x == ("__debug__" : Str)) = false := by
  unfold tyOk at h
  rw [Bool.and_eq_true] at h
  obtain ⟨h1, h2⟩ := h
  have e : x = Str.ofString n := by simpa using h2
  subst e
  have : n = "int" ∨ n = "bool" ∨ n = "str" ∨ n = "tuple" ∨ n = "list" := by simpa using h1
  rcases this with rfl | rfl | rfl | rfl | rfl
  · exact ⟨boot_int, by decide, by decide⟩
  · exact ⟨boot_bool, by decide, by decide⟩
  · exact ⟨boot_str, by decide, by decide⟩
  · exact ⟨boot_tuple, by decide, by decide⟩
  · exact ⟨boot_list, by decide, by decide⟩

/-! ### the context -/
def spF (K : PySem.W.Frag) (cl : Nat → Value) (f : List D → M D) (n : Nat) : Sp := fun vs H Q E => vs.length = n ∧ ∃ m h ds, RVs K m H ds vs ∧ Rel K m H h ∧ Post K cl (RV K) m H (f ds h) Q E
structure Good (N : List Str) (G : GEnv) (call : Nat → List D → M D) (cl : Nat → Value) (k : Nat) (W : Wh) (bl : Bool) (X : Cx) : Prop where
  hN : X.N = N
  nd : X.N.Nodup
  calm : X.calm = true
  room : Room k X.A
  pass : PassesOwn (model X.prog X.w) X.A X.env X.xe
  takes : Takes X (fun c d _ H => W c d H)
  fnall : bl = false → ∀ x, X.fn x = true
  blt : ∀ x, G.blt x = true → X.mg x = none
  cst : ∀ x d, G.cst x d = true → ∃ v u, X.mg x = some u ∧ L2.RelV v u ∧ ∀ m H, RV X.K m H d v
  fn : ∀ x i n, G.fn x i n = true → ∃ f fd ps, X.mg x = some (.ref f) ∧ PySem.W.keepIn X.K (.ref f) = true ∧ L2.Binds X.K fd ps [] ∧ ps.length = n ∧ FnOk X.prog X.w X.K X.mg X.base (L2.CX X.prog X.w) k f fd ps (spF X.K cl (call i) n)
section
variable {N : List Str} {G : GEnv} {call : Nat → List D → M D} {cl : Nat → Value} {k : Nat}
theorem Good.units {W : Wh} {bl : Bool} {X : Cx} (g : Good N G call cl k W bl X) : X.A.units + 64 < cLine := g.room.units
theorem Good.blk {W : Wh} {bl : Bool} {X : Cx} (g : Good N G call cl k W bl X) (s : Shared) (H : Hp) (scope : Scope) (cenv : Env) (fp : List Addr) : Good N G call cl k W0 true (X.blk s H scope cenv fp) :=
  ⟨g.hN, g.nd, g.calm, g.room, PassesOwn.never, fun u s' ⟨_, _, _, _, _, _, _, _, _, _, _, _, _, _, _, _, w⟩ => w.elim, fun z => (nomatch z), g.blt, g.cst, g.fn⟩
theorem binF_ok {X : Cx} {W : Wh} : ∀ (op : Operator), OpR X (binaryOp op) (rF X.K cl W (binF op))
  | .Add => op_addF
  | .Sub => op_subF
  | .Mult => op_mulF
  | .FloorDiv => op_divF
  | .Mod => op_modF
  | .Pow => op_powF
  | .MatMult | .Div | .LShift | .RShift | .BitOr | .BitXor | .BitAnd => fun _ _ _ _ _ _ _ _ _ _ _ _ ⟨_, _, _, _, _, _, _, p⟩ => p.elim
theorem cmpF_ok {X : Cx} {W : Wh} (hu : X.A.units + 64 < cLine) : ∀ (op : CmpOp), OpR X (compareOp op) (rF X.K cl W (cmpF op))
  | .Eq => op_eqF hu
  | .NotEq => op_neF hu
  | .Lt => op_ltF
  | .LtE => op_leF
  | .Gt => op_gtF
  | .GtE => op_geF
  | .In => op_inF hu
  | .NotIn => op_ninF hu
  | .Is => op_isF
  | .IsNot => op_isntF
theorem cmpF_bl (op : CmpOp) (d e : D) (h : HA) (r : D) (h' : HA) (q : cmpF op d e h = .ok r h') : ∃ b, r = .bl b ∧ h' = h := by
  cases op with
  | Eq => have q : eqF d e h = .ok r h' := q; unfold eqF at q; split at q <;> first | (cases q; exact ⟨_, rfl, rfl⟩) | cases q
  | NotEq => have q : neF d e h = .ok r h' := q; unfold neF at q; split at q <;> first | (cases q; exact ⟨_, rfl, rfl⟩) | cases q
  | In => have q : inF d e h = .ok r h' := q; unfold inF at q; split at q <;> first | (cases q; exact ⟨_, rfl, rfl⟩) | cases q
  | NotIn => have q : ninF d e h = .ok r h' := q; unfold ninF at q; split at q <;> first | (cases q; exact ⟨_, rfl, rfl⟩) | cases q
  | Lt => cases d <;> cases e <;> first | (cases q; exact ⟨_, rfl, rfl⟩) | cases q
  | LtE => cases d <;> cases e <;> first | (cases q; exact ⟨_, rfl, rfl⟩) | cases q
  | Gt => cases d <;> cases e <;> first | (cases q; exact ⟨_, rfl, rfl⟩) | cases q
  | GtE => cases d <;> cases e <;> first | (cases q; exact ⟨_, rfl, rfl⟩) | cases q
  | Is => cases e <;> first | (cases q; exact ⟨_, rfl, rfl⟩) | cases q
  | IsNot => cases e <;> first | (cases q; exact ⟨_, rfl, rfl⟩) | cases q
/-- chains -/
theorem tChain_of {W : Wh} {K : PySem.W.Frag} {op op2 : CmpOp} {fa fb fc : Env' → M D} {σ : L2.St} {H : Hp} {Q : VK} (p : tE K cl W (chainF op op2 fa fb fc) σ H Q) :
    tChain (rF K cl W (cmpF op)) (rF K cl W (cmpF op2)) (tE K cl W fa) (tE K cl W fb) (tE K cl W fc) σ H Q := by
  obtain ⟨m, ρ, h, e, r, p⟩ := p
  refine ⟨m, ρ, h, e, r, Post.mono (Post.bind p) fun x H1 ⟨m1, d, h1, x1, r1, q1, p1⟩ => ?_⟩
  refine ⟨m1, ρ, h1, e.ext x1, r1, Post.mono (Post.bind p1) fun y H2 ⟨m2, d2, h2, x2, r2, q2, p2⟩ => ?_⟩
  refine ⟨m2, h2, d, d2, q1.ext x2, q2, r2, Post.mono (Post.bind p2) fun z H3 ⟨m3, d3, h3, x3, r3, q3, p3⟩ => ?_⟩
  cases q3 with
  | bl b =>
    cases b with
    | true => exact ⟨true, rfl, m3, ρ, h3, ((e.ext x1).ext x2).ext x3, r3, Post.mono (Post.bind p3) fun w H4 ⟨m4, d4, h4, x4, r4, q4, p4⟩ => ⟨m4, h4, d2, d4, (q2.ext x3).ext x4, q4, r4, p4⟩⟩
    | false => exact ⟨false, rfl, Post.here (a := D.bl false) p3 r3 (.bl false)⟩
  | _ => exact p3.elim
theorem testF_split {W : Wh} {K : PySem.W.Frag} {f : Env' → M D} (hf : ∀ ρ h r h', f ρ h = .ok r h' → ∃ b, r = .bl b) {σ : L2.St} {H : Hp} {Q : Bool → Hp → Prop} (p : tT K cl W (testF f) σ H Q) : tE K cl W f σ H (fun x H1 => ∃ k, x = .bl k ∧ Q k H1) := by
  obtain ⟨m, ρ, h, e, r, p⟩ := p
  refine ⟨m, ρ, h, e, r, ?_⟩
  have pb : Post K cl (RV K) m H (f ρ h) _ W := Post.bind p
  cases hx : f ρ h with
  | ok d h' =>
    obtain ⟨b, rfl⟩ := hf _ _ _ _ hx
    rw [hx] at pb
    intro m' H' v y z t
    cases t
    have p0 : Post K cl RB m H (M.bind (f ρ) truth h) Q W := p
    unfold M.bind at p0
    rw [hx] at p0
    exact ⟨b, rfl, Post.at_ (a := b) p0 y z rfl⟩
  | ex c w h' => rw [hx] at pb; exact pb
  | bad => rw [hx] at pb; exact pb
theorem chainF_bl {op op2 : CmpOp} {fa fb fc : Env' → M D} (ρ : Env') (h : HA) (r : D) (h' : HA) (q : chainF op op2 fa fb fc ρ h = .ok r h') : ∃ b, r = .bl b := by
  unfold chainF M.bind at q
  split at q
  · dsimp only at q
    split at q
    · split at q
      · next c h3 hc =>
        obtain ⟨b, rfl, _⟩ := cmpF_bl _ _ _ _ _ _ hc
        cases b with
        | true =>
          dsimp only at q
          split at q
          · obtain ⟨b, rfl, _⟩ := cmpF_bl _ _ _ _ _ _ q
            exact ⟨b, rfl⟩
          · cases q
          · cases q
        | false => cases q; exact ⟨_, rfl⟩
      · cases q
      · cases q
    · cases q
    · cases q
  · cases q
  · cases q
theorem bin2_bl {op : CmpOp} {fa fb : Env' → M D} (ρ : Env') (h : HA) (r : D) (h' : HA) (q : bin2 (cmpF op) fa fb ρ h = .ok r h') : ∃ b, r = .bl b := by
  unfold bin2 M.bind at q
  split at q
  · dsimp only at q
    split at q
    · obtain ⟨b, rfl, _⟩ := cmpF_bl _ _ _ _ _ _ q
      exact ⟨b, rfl⟩
    · cases q
    · cases q
  · cases q
  · cases q
/-- a built-in, called -/
theorem blt_ok {W : Wh} {bl : Bool} {X : Cx} (g : Good N G call cl k W bl X) {f : Blt} {x : Str} {y : Expr} {ys : List Expr} {F : Env' → M (List D)} {p pos : Pos} (hx : (x == bltName f) = true) (hg : Gl X x) (hm : X.mg x = none) (ha : PA X (y :: ys) (tA X.K cl W F)) (hst : ∀ e ∈ y :: ys, notStar e = true) :
    PE X (.Call (.Name x p) (y :: ys) [] pos) (tE X.K cl W (appF (bltF f) F)) := by
  have e : x = bltName f := by simpa using hx
  subst e
  have h1 := star_cons (env := X.env) (es := ys) (hst y List.mem_cons_self)
  have h2 := star_any (env := X.env) (pos := pos) (es := ys) fun e he => hst e (List.mem_cons_of_mem _ he)
  cases f with
  | len => exact PE.imp (pe_callB cr_lenF hg hm (by decide +kernel) ha (by decide) (by decide) h1 h2) fun _ _ _ p => tCB_of p
  | sum => exact PE.imp (pe_callB (cr_sumF g.calm) hg hm (by decide +kernel) ha (by decide) (by decide) h1 h2) fun _ _ _ p => tCB_of p
  | min => exact PE.imp (pe_callB (cr_minF g.calm) hg hm (by decide +kernel) ha (by decide) (by decide) h1 h2) fun _ _ _ p => tCB_of p
  | max => exact PE.imp (pe_callB (cr_maxF g.calm) hg hm (by decide +kernel) ha (by decide) (by decide) h1 h2) fun _ _ _ p => tCB_of p
  | isi => exact PE.imp (pe_callB cr_isiF hg hm (by decide +kernel) ha (by decide) (by decide) h1 h2) fun _ _ _ p => tCB_of p
  | int => exact PE.imp (pe_callTy cr_intF hg hm (by decide +kernel) ha (by decide) (by decide) h1 h2) fun _ _ _ p => tCB_of p
  | list => exact PE.imp (pe_callTy cr_listF hg hm (by decide +kernel) ha (by decide) (by decide) h1 h2) fun _ _ _ p => tCB_of p
  | tuple => exact PE.imp (pe_callTy cr_tupleF hg hm (by decide +kernel) ha (by decide) (by decide) h1 h2) fun _ _ _ p => tCB_of p
/-- a def, called -/
theorem fn_ok {W : Wh} {bl : Bool} {X : Cx} (g : Good N G call cl k W bl X) {i n : Nat} {x : Str} {y : Expr} {ys : List Expr} {F : Env' → M (List D)} {p pos : Pos} (hx : G.fn x i n = true) (hg : Gl X x) (hd : (x == ("__debug__" : Str)) = false) (ha : PA X (y :: ys) (tA X.K cl W F)) (hst : ∀ e ∈ y :: ys, notStar e = true) :
    PE X (.Call (.Name x p) (y :: ys) [] pos) (tE X.K cl W (appF (callN n (call i)) F)) := by
  obtain ⟨f, fd, ps, hm, hk, hb, hl, hF⟩ := g.fn x i n hx
  have h1 := star_cons (env := X.env) (es := ys) (hst y List.mem_cons_self)
  have h2 := star_any (env := X.env) (pos := pos) (es := ys) fun e he => hst e (List.mem_cons_of_mem _ he)
  refine PE.imp (pe_call (E := W) hF g.room hg hm hk hb .nil (passes_call g.takes fun _ _ _ _ z => z) ha hd h1 h2) fun σ H Q ⟨m, ρ, h, e, r, p⟩ => ?_
  refine ⟨m, ρ, h, e, r, Post.mono (Post.bind p) fun vs H1 ⟨m1, ds, h1, x1, r1, q1, p1⟩ => ?_⟩
  rw [List.append_nil]
  unfold callN at p1
  split at p1
  · next hl => exact ⟨by rw [q1.len]; exact hl, m1, h1, ds, q1, r1, p1⟩
  · exact p1.elim
theorem mth_ok {W : Wh} {bl : Bool} {X : Cx} (g : Good N G call cl k W bl X) {f : Mth} {nm : Str} {o : Expr} {ys : List Expr} {fo : Env' → M D} {F : Env' → M (List D)} {ap cp : Pos} (hx : (nm == mthName f) = true) (hc : notCall o = true) (hp : (ap.endLine == cp.line) = true) (hl : decide (ys.length < 20) = true) (ho : PE X o (tE X.K cl W fo)) (ha : PA X ys (tA X.K cl W F))
    (hst : ∀ e ∈ ys, notStar e = true) (hpop : okPop f ys = true) (hF : ys = [] → F = nilF) : PE X (.Call (.Attribute o nm ap) ys [] cp) (tE X.K cl W (methF "list" (mthF f) fo F)) := by
  have e : nm = mthName f := by simpa using hx
  subst e
  have lt : ys.length < 20 := of_decide_eq_true hl
  have big : ∀ (y : Expr) (zs : List Expr), ys = y :: zs → (((backTo cp (starEach (y :: zs) X.env)).all fun x => !x.1) && ((backToKw cp (keywordEach [] X.env)).all fun x => x.1.isSome) && decide (((y :: zs).length + ([] : List Keyword).length + if ([] : List Keyword).isEmpty = true then 0 else 1) < 30)) = true := by
    intro y zs ey
    rw [star_all (ey ▸ hst)]
    have : (y :: zs).length < 20 := ey ▸ lt
    rw [decide_eq_true (by simp at this ⊢; omega)]
    rfl
  cases ys with
  | nil =>
    cases f with
    | pop => rw [hF rfl]; exact de_bm0 PySem.F.plainAttrs_list PySem.F.slot_list_pop PySem.F.type_list_pop mt_popF (.inl rfl) ho (attr_not hc) hp
    | _ => cases hpop
  | cons y zs =>
    have h1 := star_cons (env := X.env) (es := zs) (hst y List.mem_cons_self)
    have h2 := star_any (env := X.env) (pos := cp) (es := zs) fun e he => hst e (List.mem_cons_of_mem _ he)
    cases f with
    | append => exact de_bm PySem.F.plainAttrs_list PySem.F.slot_list_append PySem.F.type_list_append mt_appendF (.inl rfl) ho ha (attr_not hc) (big y zs rfl) hp h1 h2
    | popAt => exact de_bm PySem.F.plainAttrs_list PySem.F.slot_list_pop PySem.F.type_list_pop mt_popAtF (.inl rfl) ho ha (attr_not hc) (big y zs rfl) hp h1 h2
    | extend => exact de_bm PySem.F.plainAttrs_list PySem.F.slot_list_extend PySem.F.type_list_extend mt_extendF (.inl rfl) ho ha (attr_not hc) (big y zs rfl) hp h1 h2
    | count => exact de_bm PySem.F.plainAttrs_list PySem.F.slot_list_count PySem.F.type_list_count mt_countF (.inl rfl) ho ha (attr_not hc) (big y zs rfl) hp h1 h2
    | pop => cases hpop
/-! ### targets -/
theorem tgs_ok {X : Cx} {sc : Scope} {bl : Bool} (hN : X.N = N) (nd : X.N.Nodup) (hs : X.env.scope = sc) (hf : bl = false → ∀ x, X.fn x = true) : ∀ {is : List Nat} {es : List Expr}, okTgL sc N bl is es = true → PGs X es (gsOf is) ∧ (assignEach es X.env).length = is.length ∧ (assignEach es X.env).findIdx? (·.1) = none
  | [], [], _ => ⟨pgs_nil, rfl, rfl⟩
  | i :: is, .Name x p :: es, h => by
    unfold okTgL at h
    rw [Bool.and_eq_true, Bool.and_eq_true] at h
    obtain ⟨⟨h1, h2⟩, h3⟩ := h
    have e1 : X.N[i]? = some x := by rw [hN]; exact of_decide_eq_true h1
    obtain ⟨a, b, c⟩ := tgs_ok hN nd hs hf h3
    have hl : Loc X.env.scope x ∧ (X.fn x = true ∨ X.env.scope.names.lookup x = some .local) := by
      rw [hs]
      rcases Bool.or_eq_true .. |>.mp h2 with z | z
      · exact ⟨.inl (of_decide_eq_true z), .inr (of_decide_eq_true z)⟩
      · rw [Bool.and_eq_true] at z
        exact ⟨.inr (of_decide_eq_true z.2), .inl (hf (by simpa using z.1) x)⟩
    refine ⟨pgs_cons (pg_name nd e1 hl.1 hl.2) a, congrArg (· + 1) b, ?_⟩
    show ((false, assign (.Name x p) X.env) :: assignEach es X.env).findIdx? (·.1) = none
    rw [List.findIdx?_cons, c]
    rfl
  | [], _ :: _, h => by cases h
  | _ :: _, [], h => by cases h
  | i :: is, e :: es, h => by
    cases e with
    | Name x p =>
      unfold okTgL at h
      rw [Bool.and_eq_true, Bool.and_eq_true] at h
      obtain ⟨⟨h1, h2⟩, h3⟩ := h
      have e1 : X.N[i]? = some x := by rw [hN]; exact of_decide_eq_true h1
      obtain ⟨a, b, c⟩ := tgs_ok hN nd hs hf h3
      have hl : Loc X.env.scope x ∧ (X.fn x = true ∨ X.env.scope.names.lookup x = some .local) := by
        rw [hs]
        rcases Bool.or_eq_true .. |>.mp h2 with z | z
        · exact ⟨.inl (of_decide_eq_true z), .inr (of_decide_eq_true z)⟩
        · rw [Bool.and_eq_true] at z
          exact ⟨.inr (of_decide_eq_true z.2), .inl (hf (by simpa using z.1) x)⟩
      refine ⟨pgs_cons (pg_name nd e1 hl.1 hl.2) a, congrArg (· + 1) b, ?_⟩
      show ((false, assign (.Name x p) X.env) :: assignEach es X.env).findIdx? (·.1) = none
      rw [List.findIdx?_cons, c]
      rfl
    | _ => cases h
theorem tg_ok {X : Cx} {sc : Scope} {bl : Bool} (hN : X.N = N) (nd : X.N.Nodup) (hs : X.env.scope = sc) (hf : bl = false → ∀ x, X.fn x = true) (hc : X.calm = true) {T : Tg} {e : Expr} (h : okTg sc N bl T e = true) : PG X e (gOf X.K T) := by
  cases T with
  | nm i =>
    cases e with
    | Name x p =>
      unfold okTg okTgL at h
      rw [Bool.and_eq_true, Bool.and_eq_true] at h
      obtain ⟨⟨h1, h2⟩, _⟩ := h
      have e1 : X.N[i]? = some x := by rw [hN]; exact of_decide_eq_true h1
      have hl : Loc X.env.scope x ∧ (X.fn x = true ∨ X.env.scope.names.lookup x = some .local) := by
        rw [hs]
        rcases Bool.or_eq_true .. |>.mp h2 with z | z
        · exact ⟨.inl (of_decide_eq_true z), .inr (of_decide_eq_true z)⟩
        · rw [Bool.and_eq_true] at z
          exact ⟨.inr (of_decide_eq_true z.2), .inl (hf (by simpa using z.1) x)⟩
      exact pg_name nd e1 hl.1 hl.2
    | _ => cases h
  | tp is =>
    cases e with
    | Tuple es kk p =>
      obtain ⟨a, b, c⟩ := tgs_ok hN nd hs hf h
      exact pg_tup hc a b c
    | _ => cases h
end
end Dx

/-! Dx9: the expressions that pass the check. -/
namespace Dx
open PySem PySem.Spec PyProof.Rows L2

section
variable {N : List Str} {G : GEnv} {call : Nat → List D → M D} {cl : Nat → Value} {k : Nat}
theorem okEs_star {sc : Scope} : ∀ {es : List E} {xs : List Expr}, okEs N G sc es xs = true → ∀ x ∈ xs, notStar x = true
  | [], [], _, _, hx => by cases hx
  | [], _ :: _, h, _, _ => by cases h
  | _ :: _, [], h, _, _ => by cases h
  | a :: as, y :: ys, h, x, hx => by
    unfold okEs at h
    simp only [Bool.and_eq_true] at h
    rcases List.mem_cons.mp hx with rfl | hx
    · exact h.1.1
    · exact okEs_star h.2 x hx
theorem pe_bad {X : Cx} {K : PySem.W.Frag} {W : Wh} {e : Expr} {f : Env' → M D} (h : ∀ ρ h, f ρ h = .bad) : PE X e (tE K cl W f) :=
  ⟨fun pins s σ H Q I ⟨m, ρ, hh, _, _, p⟩ => by
    rw [h ρ hh] at p
    exact p.elim⟩
theorem pw_bad {X : Cx} {K : PySem.W.Frag} {W : Wh} {e : Expr} {f : Env' → M Bool} (h : ∀ ρ h, f ρ h = .bad) : PW X e (tT K cl W f) :=
  ⟨fun wh pins s σ H Q I ⟨m, ρ, hh, _, _, p⟩ => by
    rw [h ρ hh] at p
    exact p.elim⟩
theorem pts_bad {X : Cx} {K : PySem.W.Frag} {W : Wh} {es : List Expr} {f : Env' → M Bool} (h : ∀ ρ h, f ρ h = .bad) : PTs X es (tT K cl W f) :=
  ⟨fun pins s σ H Q I ⟨m, ρ, hh, _, _, p⟩ => by
    rw [h ρ hh] at p
    exact p.elim⟩
theorem pts_yes {X : Cx} {K : PySem.W.Frag} {W : Wh} : PTs X [] (tT K cl W yesF) :=
  ⟨fun pins s σ H Q I ⟨m, ρ, hh, _, r, p⟩ => pts_nil.run pins s σ H Q I (Post.here (a := true) (b := true) p r rfl)⟩
theorem isTupE_ex {e : Expr} (h : isTupE e = true) : ∃ elts kk tp, e = .Tuple elts kk tp := by
  cases e <;> first | exact ⟨_, _, _, rfl⟩ | cases h
mutual
theorem sE : (e' : E) → ∀ {sc : Scope} {e : Expr} {W : Wh} {bl : Bool} {X : Cx}, Good N G call cl k W bl X → X.env.scope = sc → okE N G sc e' e = true → PE X e (tE X.K cl W (evE call e'))
  | .int i => fun g hs h => by
    unfold okE at h
    split at h
    · next j _ _ =>
      have e : i = j := by simpa using h
      subst e
      exact de_cst pe_int fun _ _ => .int i
    · cases h
  | .str x => fun g hs h => by
    unfold okE at h
    split at h
    · next j _ _ =>
      have e : x = j := by simpa using h
      subst e
      exact de_cst pe_str fun _ _ => .str x
    · cases h
  | .bl b => fun g hs h => by
    unfold okE at h
    split at h
    · next j _ _ =>
      have e : b = j := by simpa using h
      subst e
      exact de_cst pe_bl fun _ _ => .bl b
    · cases h
  | .non => fun g hs h => by
    unfold okE at h
    split at h
    · exact de_cst pe_non fun _ _ => .non
    · cases h
  | .var i => fun g hs h => by
    unfold okE at h
    split at h
    · next x _ =>
      simp only [Bool.and_eq_true] at h
      exact de_var (by rw [g.hN]; exact of_decide_eq_true h.1.1) (by rw [hs]; exact visB_vis h.1.2) (notDebug_1 h.2) (notDebug_2 h.2)
    · cases h
  | .ty n => fun g hs h => by
    unfold okE at h
    split at h
    · next x _ =>
      simp only [Bool.and_eq_true] at h
      obtain ⟨b1, b2, b3⟩ := tyOk_boot h.1.1
      exact de_cst (pe_bltn (v := .ty n) (glB_gl hs h.1.2) (g.blt _ h.2) b1 rfl b2 b3) fun _ _ => .ty n
    · cases h
  | .cst d => fun g hs h => by
    unfold okE at h
    split at h
    · next x _ =>
      simp only [Bool.and_eq_true] at h
      obtain ⟨v, u, h1, h2, h3⟩ := g.cst _ _ h.1.1
      exact de_cst (pe_glob (glB_gl hs h.1.2) h1 h2 (notDebug_1 h.2)) h3
    · cases h
  | .bin op a b => fun g hs h => by
    unfold okE at h
    split at h
    · simp only [Bool.and_eq_true] at h
      have e := of_decide_eq_true h.1.1
      subst e
      exact de_bin (binF_ok op) (sE a g hs h.1.2) (sE b g hs h.2)
    · cases h
  | .cmp op a b => fun g hs h => by
    unfold okE at h
    split at h
    · simp only [Bool.and_eq_true] at h
      have e := of_decide_eq_true h.1.1.1
      subst e
      exact de_cmp (cmpF_ok g.units op) (sE a g hs h.1.2) (sE b g hs h.2) (behind_not h.1.1.2)
    · cases h
  | .chain op op2 a b c => fun g hs h => by
    unfold okE at h
    split at h
    · simp only [Bool.and_eq_true] at h
      obtain ⟨⟨⟨⟨⟨h1, h2⟩, h3⟩, h4⟩, h5⟩, h6⟩ := h
      have e1 := of_decide_eq_true h1
      have e2 := of_decide_eq_true h2
      subst e1 e2
      exact PE.imp (pe_chain (cmpF_ok g.units op) (cmpF_ok g.units op2) (sE a g hs h4) (sE b g hs h5) (sE c g hs h6) (last_not h3)) fun _ _ _ p => tChain_of p
    · cases h
  | .neg a => fun g hs h => by
    unfold okE at h
    split at h
    · exact de_un un_negF (sE a g hs h)
    · cases h
  | .not a => fun g hs h => by
    unfold okE at h
    split at h
    · exact de_not (sE a g hs h)
    · cases h
  | .and es => fun g hs h => by
    unfold okE at h
    split at h
    · exact sAnd es g hs h
    · cases h
  | .or es => fun g hs h => by
    unfold okE at h
    split at h
    · exact sOr es g hs h
    · cases h
  | .ife t a b => fun g hs h => by
    unfold okE at h
    split at h
    · simp only [Bool.and_eq_true] at h
      exact de_ife (sT t g hs h.1.1) (sE a g hs h.1.2) (sE b g hs h.2)
    · cases h
  | .tup es => fun g hs h => by
    unfold okE at h
    split at h
    · exact de_tup (sEs es g hs h)
    · cases h
  | .lst es => fun g hs h => by
    unfold okE at h
    split at h
    · exact de_lst (sEs es g hs h)
    · cases h
  | .ix a b => fun g hs h => by
    unfold okE at h
    split at h
    · simp only [Bool.and_eq_true] at h
      exact de_ix (sE a g hs h.1.2) (sE b g hs h.2) (plainIx_not h.1.1)
    · cases h
  | .sl a lo hi => fun g hs h => by
    unfold okE at h
    split at h
    · simp only [Bool.and_eq_true] at h
      exact de_slice (sE a g hs h.1.1) (sO lo g hs h.1.2) (sO hi g hs h.2)
    · cases h
  | .blt f es => fun g hs h => by
    unfold okE at h
    split at h
    · simp only [Bool.and_eq_true] at h
      obtain ⟨⟨⟨h1, h2⟩, h3⟩, h4⟩ := h
      exact blt_ok g h1 (glB_gl hs h2) (g.blt _ h3) (sEs es g hs h4) (okEs_star h4)
    · cases h
  | .lrg1 a => fun g hs h => by
    unfold okE at h
    split at h
    · simp only [Bool.and_eq_true] at h
      obtain ⟨⟨⟨⟨⟨⟨⟨h1, h2⟩, h3⟩, h4⟩, h5⟩, h6⟩, h7⟩, h8⟩ := h
      have e1 := eq_of_beq h1
      have e2 := eq_of_beq h2
      subst e1 e2
      exact de_lrg1 g.calm (glB_gl hs h3) (g.blt _ h4) (glB_gl hs h5) (g.blt _ h6) (sE a g hs h8) (star_cons h7)
    · cases h
  | .lrg2 a b => fun g hs h => by
    unfold okE at h
    split at h
    · simp only [Bool.and_eq_true] at h
      obtain ⟨⟨⟨⟨⟨⟨⟨⟨⟨h1, h2⟩, h3⟩, h4⟩, h5⟩, h6⟩, h7⟩, h8⟩, h9⟩, h10⟩ := h
      have e1 := eq_of_beq h1
      have e2 := eq_of_beq h2
      subst e1 e2
      exact de_lrg2 g.calm (glB_gl hs h3) (g.blt _ h4) (glB_gl hs h5) (g.blt _ h6) (sE a g hs h9) (sE b g hs h10) (star_cons h7) (star_cons h8) (star_any (by intro x hx; rw [List.mem_singleton.mp hx]; exact h8))
    · cases h
  | .trg1 a => fun g hs h => by
    unfold okE at h
    split at h
    · simp only [Bool.and_eq_true] at h
      obtain ⟨⟨⟨⟨⟨⟨⟨h1, h2⟩, h3⟩, h4⟩, h5⟩, h6⟩, h7⟩, h8⟩ := h
      have e1 := eq_of_beq h1
      have e2 := eq_of_beq h2
      subst e1 e2
      exact de_trg1 g.calm (glB_gl hs h3) (g.blt _ h4) (glB_gl hs h5) (g.blt _ h6) (sE a g hs h8) (star_cons h7)
    · cases h
  | .rev a => fun g hs h => by
    unfold okE at h
    split at h
    · exact de_rev (sE a g hs h)
    · cases h
  | .srtSet a => fun g hs h => by
    unfold okE at h
    split at h
    · simp only [Bool.and_eq_true] at h
      obtain ⟨⟨⟨⟨⟨⟨⟨h1, h2⟩, h3⟩, h4⟩, h5⟩, h6⟩, h7⟩, h8⟩ := h
      have e1 := eq_of_beq h1
      have e2 := eq_of_beq h2
      subst e1 e2
      exact de_srtSet g.calm (glB_gl hs h3) (g.blt _ h4) (glB_gl hs h5) (g.blt _ h6) (sE a g hs h8) (star_cons h7)
    · cases h
  | .call i n es => fun g hs h => by
    unfold okE at h
    split at h
    · simp only [Bool.and_eq_true] at h
      obtain ⟨⟨⟨h1, h2⟩, h3⟩, h4⟩ := h
      exact fn_ok g h1 (glB_gl hs h2) (notDebug_1 h3) (sEs es g hs h4) (okEs_star h4)
    · cases h
  | .meth f o es => fun g hs h => by
    unfold okE at h
    split at h
    · next x m ap ys cp =>
      simp only [Bool.and_eq_true] at h
      obtain ⟨⟨⟨⟨⟨⟨h1, h2⟩, h3⟩, h4⟩, h5⟩, h6⟩, h7⟩ := h
      refine mth_ok g h1 h2 h3 h4 (sE o g hs h5) (sEs es g hs h6) (okEs_star h6) h7 fun z => ?_
      subst z
      cases es with
      | nil => rfl
      | cons a b => cases h6
    · cases h
  | .comp it tg ifs elt own => fun g hs h => by
    unfold okE at h
    split at h
    · simp only [Bool.and_eq_true] at h
      obtain ⟨⟨⟨⟨⟨⟨⟨h1, h2⟩, h3⟩, h4⟩, h5⟩, h6⟩, h7⟩, h8⟩ := h
      refine de_lc ?_ g.calm g.nd (sI it g hs h1 h2) (blkOk_by (by rw [g.hN, hs]; exact h4)) (fun s H C c fp => ?_) (fun s H C c fp => ?_) (fun s H C c fp => ?_) (folded_not h3)
      · intro i hi
        have q := List.all_eq_true.mp h5 i hi
        exact List.contains_iff_mem.mp q
      · exact tg_ok (g.blk s H _ _ fp).hN (g.blk s H _ _ fp).nd (by rw [← hs]; rfl) (g.blk s H _ _ fp).fnall g.calm h6
      · exact sTs ifs (g.blk s H _ _ fp) (by rw [← hs]; rfl) h7
      · exact sE elt (g.blk s H _ _ fp) (by rw [← hs]; rfl) h8
    · cases h
theorem sO : (o : Option E) → ∀ {sc : Scope} {e : Option Expr} {W : Wh} {bl : Bool} {X : Cx}, Good N G call cl k W bl X → X.env.scope = sc → okO N G sc o e = true → PO X e (tG X.K cl RI W (evO call o))
  | none => fun g hs h => by
    unfold okO at h
    split at h
    · exact do_none
    · cases h
  | some a => fun g hs h => by
    unfold okO at h
    split at h
    · exact do_some (sE a g hs h)
    · cases h
theorem sEs : (es : List E) → ∀ {sc : Scope} {xs : List Expr} {W : Wh} {bl : Bool} {X : Cx}, Good N G call cl k W bl X → X.env.scope = sc → okEs N G sc es xs = true → PA X xs (tA X.K cl W (evEs call es))
  | [] => fun g hs h => by
    unfold okEs at h
    split at h
    · exact da_nil
    · cases h
  | a :: as => fun g hs h => by
    unfold okEs at h
    split at h
    · simp only [Bool.and_eq_true] at h
      exact da_cons (sE a g hs h.1.2) (sEs as g hs h.2) (star_cons h.1.1)
    · cases h
theorem sAnd : (es : List E) → ∀ {sc : Scope} {xs : List Expr} {W : Wh} {bl : Bool} {X : Cx} {pos : Pos}, Good N G call cl k W bl X → X.env.scope = sc → okEs N G sc es xs = true → PE X (.BoolOp .And xs pos) (tE X.K cl W (evAnd call es))
  | [] => fun g hs h => pe_bad fun _ _ => rfl
  | [a] => fun g hs h => by
    unfold okEs at h
    split at h
    · next x xs =>
      simp only [Bool.and_eq_true] at h
      cases xs with
      | nil => exact pe_one (sE a g hs h.1.2)
      | cons y ys => cases h.2
    · cases h
  | a :: b :: as => fun g hs h => by
    unfold okEs at h
    split at h
    · next x xs =>
      simp only [Bool.and_eq_true] at h
      cases xs with
      | nil => cases h.2
      | cons y ys => exact de_and (sE a g hs h.1.2) (sAnd (b :: as) g hs h.2)
    · cases h
theorem sOr : (es : List E) → ∀ {sc : Scope} {xs : List Expr} {W : Wh} {bl : Bool} {X : Cx} {pos : Pos}, Good N G call cl k W bl X → X.env.scope = sc → okEs N G sc es xs = true → PE X (.BoolOp .Or xs pos) (tE X.K cl W (evOr call es))
  | [] => fun g hs h => pe_bad fun _ _ => rfl
  | [a] => fun g hs h => by
    unfold okEs at h
    split at h
    · next x xs =>
      simp only [Bool.and_eq_true] at h
      cases xs with
      | nil => exact pe_one (sE a g hs h.1.2)
      | cons y ys => cases h.2
    · cases h
  | a :: b :: as => fun g hs h => by
    unfold okEs at h
    split at h
    · next x xs =>
      simp only [Bool.and_eq_true] at h
      cases xs with
      | nil => cases h.2
      | cons y ys => exact de_or (sE a g hs h.1.2) (sOr (b :: as) g hs h.2)
    · cases h
theorem sT : (t : T) → ∀ {sc : Scope} {e : Expr} {W : Wh} {bl : Bool} {X : Cx}, Good N G call cl k W bl X → X.env.scope = sc → okT N G sc t e = true → PT X e (tT X.K cl W (evT call t))
  | .tr a => fun g hs h => by
    unfold okT at h
    simp only [Bool.and_eq_true] at h
    exact dt_any (sE a g hs h.2) rfl (plainT_true h.1)
  | .cmp op a b => fun g hs h => by
    unfold okT at h
    split at h
    · simp only [Bool.and_eq_true] at h
      have e := of_decide_eq_true h.1.1.1
      subst e
      exact PT.imp (pt_cmpR (cmpF_ok g.units op) (sE a g hs h.1.2) (sE b g hs h.2) (behind_not h.1.1.2)) fun _ _ _ p => tOp_of (testF_split bin2_bl p)
    · cases h
  | .chain op op2 a b c => fun g hs h => by
    unfold okT at h
    split at h
    · simp only [Bool.and_eq_true] at h
      obtain ⟨⟨⟨⟨⟨h1, h2⟩, h3⟩, h4⟩, h5⟩, h6⟩ := h
      have e1 := of_decide_eq_true h1
      have e2 := of_decide_eq_true h2
      subst e1 e2
      exact PT.imp (pt_chain (cmpF_ok g.units op) (cmpF_ok g.units op2) (sE a g hs h4) (sE b g hs h5) (sE c g hs h6) (last_not h3)) fun _ _ _ p => tChain_of (testF_split chainF_bl p)
    · cases h
  | .not t => fun g hs h => by
    unfold okT at h
    split at h
    · exact dt_not (sT t g hs h)
    · cases h
  | .and ts => fun g hs h => by
    unfold okT at h
    split at h
    · exact (sAndT ts g hs h).pt
    · cases h
  | .or ts => fun g hs h => by
    unfold okT at h
    split at h
    · exact (sOrT ts g hs h).pt
    · cases h
theorem sAndT : (es : List T) → ∀ {sc : Scope} {xs : List Expr} {W : Wh} {bl : Bool} {X : Cx} {pos : Pos}, Good N G call cl k W bl X → X.env.scope = sc → okTs N G sc es xs = true → PW X (.BoolOp .And xs pos) (tT X.K cl W (evAndT call es))
  | [] => fun g hs h => pw_bad fun _ _ => rfl
  | [a] => fun g hs h => by
    unfold okTs at h
    split at h
    · next x xs =>
      simp only [Bool.and_eq_true] at h
      cases xs with
      | nil => exact pw_and1 (sT a g hs h.1)
      | cons y ys => cases h.2
    · cases h
  | a :: b :: as => fun g hs h => by
    unfold okTs at h
    split at h
    · next x xs =>
      simp only [Bool.and_eq_true] at h
      cases xs with
      | nil => cases h.2
      | cons y ys => exact dw_and (sT a g hs h.1) (sAndT (b :: as) g hs h.2)
    · cases h
theorem sOrT : (es : List T) → ∀ {sc : Scope} {xs : List Expr} {W : Wh} {bl : Bool} {X : Cx} {pos : Pos}, Good N G call cl k W bl X → X.env.scope = sc → okTs N G sc es xs = true → PW X (.BoolOp .Or xs pos) (tT X.K cl W (evOrT call es))
  | [] => fun g hs h => pw_bad fun _ _ => rfl
  | [a] => fun g hs h => by
    unfold okTs at h
    split at h
    · next x xs =>
      simp only [Bool.and_eq_true] at h
      cases xs with
      | nil => exact pw_or1 (sT a g hs h.1)
      | cons y ys => cases h.2
    · cases h
  | a :: b :: as => fun g hs h => by
    unfold okTs at h
    split at h
    · next x xs =>
      simp only [Bool.and_eq_true] at h
      cases xs with
      | nil => cases h.2
      | cons y ys => exact dw_or (sT a g hs h.1) (sOrT (b :: as) g hs h.2)
    · cases h
theorem sTs : (ts : List T) → ∀ {sc : Scope} {xs : List Expr} {W : Wh} {bl : Bool} {X : Cx}, Good N G call cl k W bl X → X.env.scope = sc → okTs N G sc ts xs = true → PTs X xs (tT X.K cl W (evTs call ts))
  | [] => fun g hs h => by
    unfold okTs at h
    split at h
    · exact pts_yes
    · cases h
  | [t] => fun g hs h => by
    unfold okTs at h
    split at h
    · next x xs =>
      simp only [Bool.and_eq_true] at h
      cases xs with
      | nil => exact pts_one (sT t g hs h.1)
      | cons y ys => cases h.2
    · cases h
  | a :: b :: as => fun g hs h => pts_bad fun _ _ => rfl
theorem sI : (it : It') → ∀ {sc : Scope} {e tg : Expr} {W : Wh} {bl : Bool} {X : Cx}, Good N G call cl k W bl X → X.env.scope = sc → okI N G sc it e = true → okShape it tg = true → PI X tg e (tI X.K cl W (evI call it))
  | .rng1 a => fun g hs h ht => by
    unfold okI at h
    split at h
    · simp only [Bool.and_eq_true] at h
      obtain ⟨⟨⟨⟨h1, h2⟩, h3⟩, h4⟩, h5⟩ := h
      have e1 := eq_of_beq h1
      subst e1
      exact di_rng1 (glB_gl hs h2) (g.blt _ h3) (da_cons (sE a g hs h5) da_nil (star_cons h4)) (star_cons h4)
    · cases h
  | .rng2 a b => fun g hs h ht => by
    unfold okI at h
    split at h
    · simp only [Bool.and_eq_true] at h
      obtain ⟨⟨⟨⟨⟨⟨h1, h2⟩, h3⟩, h4⟩, h5⟩, h6⟩, h7⟩ := h
      have e1 := eq_of_beq h1
      subst e1
      exact di_rng2 (glB_gl hs h2) (g.blt _ h3) (da_cons (sE a g hs h6) (da_cons (sE b g hs h7) da_nil (star_cons h5)) (star_cons h4)) (by rw [star_cons h4, star_cons h5]; rfl) (star_cons h5)
    · cases h
  | .seq a => fun g hs h ht => by
    unfold okI at h
    exact di_seq (sE a g hs h)
  | .zip a b => fun g hs h ht => by
    unfold okI at h
    split at h
    · simp only [Bool.and_eq_true] at h
      obtain ⟨⟨⟨⟨⟨⟨h1, h2⟩, h3⟩, h4⟩, h5⟩, h6⟩, h7⟩ := h
      have e1 := eq_of_beq h1
      subst e1
      obtain ⟨elts, kk, tp, rfl⟩ := isTupE_ex ht
      exact di_zip (glB_gl hs h2) (g.blt _ h3) (da_cons (sE a g hs h6) (da_cons (sE b g hs h7) da_nil (star_cons h5)) (star_cons h4)) (star_cons h4) (star_any (by intro x hx; rw [List.mem_singleton.mp hx]; exact h5))
    · cases h
  | .enm a => fun g hs h ht => by
    unfold okI at h
    split at h
    · simp only [Bool.and_eq_true] at h
      obtain ⟨⟨⟨⟨h1, h2⟩, h3⟩, h4⟩, h5⟩ := h
      have e1 := eq_of_beq h1
      subst e1
      obtain ⟨elts, kk, tp, rfl⟩ := isTupE_ex ht
      exact di_enm (glB_gl hs h2) (g.blt _ h3) (da_cons (sE a g hs h5) da_nil (star_cons h4)) (star_cons h4)
    · cases h
end
end
end Dx

/-! Dx10: statements of our own syntax, defs, the theorem about calls. -/
namespace Dx
open PySem PySem.Spec PyProof.Rows L2

inductive S where
  | expr (e : E)
  | ret (e : E)
  | retN
  | pass
  | brk
  | cont
  | set (tg : Tg) (e : E)
  | setc (i : Nat) (it : It') (tg : Tg) (ifs : List T) (elt : E) (own : List (Str × Nat))
  | par (i j : Nat) (a b : E)
  | setIx (o i e : E)
  | ife (t : T) (as bs : List S)
  | for_ (it : It') (tg : Tg) (body : List S)
  | whil (n : Nat) (t : T) (body : List S)
  | never

section
variable (call : Nat → List D → M D)
mutual
def evS : S → Env' → M Out
  | .expr e => dropF (evE call e)
  | .ret e => retF (evE call e)
  | .retN => fun _ h => .ok (.rt .non) h
  | .pass => nextF
  | .brk => fun ρ h => .ok (.bk ρ) h
  | .cont => fun ρ h => .ok (.ct ρ) h
  | .set tg e => asgF tg (evE call e)
  | .setc i it tg ifs elt own => asgF (.nm i) (lcF (evI call it) tg (evTs call ifs) (evE call elt) (own.map (·.2)))
  | .par i j a b => parF i j (consF (evE call a) (consF (evE call b) nilF))
  | .setIx o i e => setItF (evE call o) (evE call i) (evE call e)
  | .ife t as bs => iteF (evT call t) (evSs as) (evSs bs)
  | .for_ it tg body => forF (evI call it) tg (evSs body)
  | .whil n t body => whileF (evT call t) (evSs body) n
  | .never => fun _ => M.bad
def evSs : List S → Env' → M Out
  | [] => nextF
  | [s] => evS s
  | s :: ss => sqF (evS s) (evSs ss)
end
end

/-! ### the check -/
def nameLoc (sc : Scope) : Expr → Bool
  | .Name x _ => decide (sc.names.lookup x = some .local)
  | _ => false
/-- the stores of a display's items are not exchanged -/
def noSwap (sc : Scope) (ts : List Expr) : Expr → Bool
  | .Tuple vs _ _ => !(ts.length == 2 || ts.length == 3) || vs.length != ts.length
  | _ => true
def okPar (sc : Scope) (N : List Str) (i j : Nat) (x y : Str) (px py : Pos) (a b : Expr) : Bool :=
  decide (N[i]? = some x) && decide (N[j]? = some y) && decide (i ≠ j) && decide (sc.names.lookup x = some .local) && decide (sc.names.lookup y = some .local) && (py.line == px.line) && !(x == y) &&
    !([a, b].any fun | .Starred .. => true | _ => false) && !([a, b].all (foldedForSure 8)) && !([a, b].all (constantsAlone 8))
def scFun (sc : Scope) : Bool := match sc.kind with | .function => true | _ => false
def okCompTo (sc : Scope) (N : List Str) (i : Nat) (y : Str) (py pos : Pos) (s : Scope) : Bool :=
  decide (N[i]? = some y) && decide (sc.names.lookup y = some .local) && (py.line == pos.line) && !(s.names.any fun (n, k) => n == y && (k == .local || k == .cell))
def notLocal (sc : Scope) (e : Expr) (x : Str) : Bool := notComp e || !decide (sc.names.lookup x = some .local)
def isLC : Expr → Bool
  | .ListComp .. => true
  | _ => false
def notLocName (sc : Scope) : Expr → Bool
  | .Name x _ => !decide (sc.names.lookup x = some .local)
  | _ => false
/-- an assignment that keeps no name of its own over a comprehension -/
def noSw (sc : Scope) (t e : Expr) : Bool := notComp e || (isLC e && notLocName sc t)
section
variable (N : List Str) (G : GEnv)
mutual
def okS (sc : Scope) : S → Stmt → Bool
  | .expr a, st => match st with | .Expr e _ => notComp e && okE N G sc a e | _ => false
  | .ret a, st => match st with | .Return (some e) _ => okE N G sc a e | _ => false
  | .retN, st => match st with | .Return none _ => true | _ => false
  | .pass, st => match st with | .Pass _ => true | _ => false
  | .brk, st => match st with | .Break _ => true | _ => false
  | .cont, st => match st with | .Continue _ => true | _ => false
  | .set tg a, st => match st with
    | .Assign [t] e _ => noSw sc t e && okTg sc N false tg t && okE N G sc a e && (match tg, t with | .nm _, .Name .. => true | .tp _, .Tuple ts _ _ => noSwap sc ts e | _, _ => false)
    | _ => false
  | .setc i it tg ifs elt own, st => match st with
    | .Assign [.Name y py] (.ListComp x [⟨t, io, cs, 0⟩] s pos) _ => okI N G sc it io && okShape it t && notSet io && (L2.blkC N sc s own) && (tg.slots.all fun j => (own.map (·.2)).contains j) && okTg (relS s sc) N true tg t && okTs N G (relS s sc) ifs cs && okE N G (relS s sc) elt x && okCompTo sc N i y py pos s
    | _ => false
  | .par i j a b, st => match st with
    | .Assign [.Tuple [.Name x px, .Name y py] _ _] (.Tuple [p, q] _ _) _ => okPar sc N i j x y px py p q && notStar p && notStar q && okE N G sc a p && okE N G sc b q
    | _ => false
  | .setIx o i a, st => match st with
    | .Assign [.Subscript x y _] e _ => notSlice y && notComp e && okE N G sc o x && okE N G sc i y && okE N G sc a e
    | _ => false
  | .ife t as bs, st => match st with | .If c xs ys _ => okT N G sc t c && okSs sc as xs && okSs sc bs ys | _ => false
  | .for_ it tg body, st => match st with | .For t io xs [] _ => okI N G sc it io && okShape it t && notSet io && okTg sc N false tg t && okSs sc body xs | _ => false
  | .whil _ t body, st => match st with | .While c xs [] _ => okT N G sc t c && okSs sc body xs | _ => false
  | .never, _ => true
def okSs (sc : Scope) : List S → List Stmt → Bool
  | [], st => match st with | [] => true | _ => false
  | s :: ss, st => match st with | x :: xs => okS sc s x && okSs sc ss xs | _ => false
end
end

/-! ### facts of the text -/
theorem blockKind_of {env : Env} (h : env.scope.kind = .function) : env.blockKind = .function := by
  unfold Env.blockKind
  rw [h]
  rfl
theorem swapped_not {ts : List Expr} {kt : Nat} {pt : Pos} {sc : Scope} {e : Expr} {env : Env} (h : noSwap sc ts e = true) : swappedStores [.Tuple ts kt pt] e env = pure none := by
  cases e with
  | Tuple vs k2 p2 =>
    have h' : (!(ts.length == 2 || ts.length == 3) || vs.length != ts.length) = true := h
    unfold swappedStores
    dsimp only
    have : (!(ts.length == 2 || ts.length == 3) || vs.length != ts.length || env.blockKind != .function) = true := by rw [h']; rfl
    rw [this]
    rfl
  | _ => rfl
theorem swapped_name {x : Str} {p : Pos} {e : Expr} {env : Env} : swappedStores [.Name x p] e env = pure none := by
  cases e <;> rfl
theorem swapped_sub {x y : Expr} {p : Pos} {e : Expr} {env : Env} : swappedStores [.Subscript x y p] e env = pure none := by
  cases e <;> rfl
theorem swapped_par {sc : Scope} {N : List Str} {i j : Nat} {x y : Str} {px py pt pt2 : Pos} {a b : Expr} {kt k2 : Nat} {env : Env} (hs : env.scope = sc) (hk : env.scope.kind = .function) (h : okPar sc N i j x y px py a b = true) :
    swappedStores [.Tuple [.Name x px, .Name y py] kt pt] (.Tuple [a, b] k2 pt2) env = pure (some [x, y]) := by
  unfold okPar at h
  simp only [Bool.and_eq_true] at h
  obtain ⟨⟨⟨⟨⟨⟨⟨⟨⟨_, _⟩, _⟩, hx⟩, hy⟩, hl⟩, hxy⟩, h1⟩, h2⟩, h3⟩ := h
  have kx : env.kindOf x = some .local := by
    show env.scope.names.lookup x = _
    rw [hs]; exact of_decide_eq_true hx
  have ky : env.kindOf y = some .local := by
    show env.scope.names.lookup y = _
    rw [hs]; exact of_decide_eq_true hy
  have nxy : x ≠ y := fun z => by subst z; simp at hxy
  have nyx : (y == x) = false := by
    cases q : (y == x) with
    | false => rfl
    | true => exact absurd (eq_of_beq q).symm nxy
  unfold swappedStores
  dsimp only
  rw [show (!([Expr.Name x px, Expr.Name y py].length == 2 || [Expr.Name x px, Expr.Name y py].length == 3) || [a, b].length != [Expr.Name x px, Expr.Name y py].length || env.blockKind != ScopeKind.function) = false by rw [blockKind_of hk]; rfl]
  have h1' : ([a, b].any fun | .Starred .. => true | _ => false) = false := Bool.not_eq_true' _ |>.mp h1
  have h2' : [a, b].all (foldedForSure 8) = false := Bool.not_eq_true' _ |>.mp h2
  have h3' : [a, b].all (constantsAlone 8) = false := Bool.not_eq_true' _ |>.mp h3
  rw [if_neg Bool.false_ne_true]
  generalize hc : ([a, b].any _) = c
  have ec : c = false := by
    rw [← hc]
    exact h1'
  subst ec
  rw [if_neg Bool.false_ne_true]
  generalize hn : List.filterMap _ [Expr.Name x px, Expr.Name y py] = names
  have hl' : py.line = px.line := eq_of_beq hl
  have en : names = [x, y] := by
    rw [← hn]
    simp [kx, ky, Expr.pos, hl']
  subst en
  have ed : [x, y].eraseDups = [x, y] := by
    simp [List.eraseDups_cons, nyx]
  rw [ed, if_neg (by simp), if_neg (by rw [h2']; exact Bool.false_ne_true), if_neg (by rw [h3']; exact Bool.false_ne_true)]
theorem sw_lc_no {ex : Expr} {gs : List Comprehension} {scope : Scope} {pos py : Pos} {y : Str} {l : Nat} {env : Env} (hy : env.scope.names.lookup y ≠ some .local) : swapsWith (.ListComp ex gs scope pos) (some (.Name y py)) l env = pure false := by
  have ky : (env.kindOf y == some .local) = false := by
    cases q : (env.kindOf y == some .local) with
    | false => rfl
    | true => exact absurd (eq_of_beq q) hy
  unfold swapsWith
  simp only [ky, Bool.and_false, Bool.false_and]
theorem swaps_sole' {sc : Scope} {e t : Expr} {l : Nat} {env : Env} (hs : env.scope = sc) (h : noSw sc t e = true) : swapsWithSole [t] e l env = pure false := by
  unfold noSw at h
  rw [Bool.or_eq_true] at h
  rcases h with h | h
  · exact swaps_not (t := some t) h
  · rw [Bool.and_eq_true] at h
    cases e with
    | ListComp x gs s p =>
      cases t with
      | Name y q =>
        have hy : sc.names.lookup y ≠ some .local := of_decide_eq_false (Bool.not_eq_true' _ |>.mp h.2)
        exact sw_lc_no (l := l) (by rw [hs]; exact hy)
      | _ => cases h.2
    | _ => cases h.1
theorem swaps_sole {e t : Expr} {l : Nat} {env : Env} (h : notComp e = true) : swapsWithSole [t] e l env = pure false := swaps_not (t := some t) h

/-! ### the statements that pass the check -/
section
variable {N : List Str} {G : GEnv} {call : Nat → List D → M D} {cl : Nat → Value} {k : Nat}
mutual
theorem sS : (s : S) → ∀ {sc : Scope} {st : Stmt} {W : Wh} {X : Cx}, Good N G call cl k W false X → X.env.scope = sc → sc.kind = .function → okS N G sc s st = true → PS X st (tS X.K cl W (evS call s))
  | .expr a => fun g hs hk h => by
    unfold okS at h
    split at h
    · simp only [Bool.and_eq_true] at h
      exact ds_expr (sE a g hs h.2) (swaps_not h.1)
    · cases h
  | .ret a => fun g hs hk h => by
    unfold okS at h
    split at h
    · exact ds_ret (sE a g hs h)
    · cases h
  | .retN => fun g hs hk h => by
    unfold okS at h
    split at h
    · exact ds_retN
    · cases h
  | .pass => fun g hs hk h => by
    unfold okS at h
    split at h
    · exact ds_pass
    · cases h
  | .brk => fun g hs hk h => by
    unfold okS at h
    split at h
    · exact ds_break
    · cases h
  | .cont => fun g hs hk h => by
    unfold okS at h
    split at h
    · exact ds_cont
    · cases h
  | .set tg a => fun g hs hk h => by
    unfold okS at h
    split at h
    · next t e p =>
      simp only [Bool.and_eq_true] at h
      obtain ⟨⟨⟨h1, h2⟩, h3⟩, h4⟩ := h
      have pg := tg_ok (bl := false) g.hN g.nd hs g.fnall g.calm h2
      split at h4
      · exact ds_asg (sE a g hs h3) pg (swaps_sole' hs h1) swapped_name rfl
      · exact ds_asg (sE a g hs h3) pg (swaps_sole' hs h1) (swapped_not h4) rfl
      · cases h4
    · cases h
  | .setc i it tg ifs elt own => fun g hs hk h => by
    unfold okS at h
    split at h
    · simp only [Bool.and_eq_true] at h
      obtain ⟨⟨⟨⟨⟨⟨⟨⟨h1, h2⟩, h3⟩, h4⟩, h5⟩, h6⟩, h7⟩, h8⟩, h9⟩ := h
      unfold okCompTo at h9
      simp only [Bool.and_eq_true] at h9
      obtain ⟨⟨⟨k1, k2⟩, k3⟩, k4⟩ := h9
      have yl := of_decide_eq_true k2
      refine ds_setLc ?_ g.calm g.nd (by rw [g.hN]; exact of_decide_eq_true k1) (by rw [hs]; exact yl) (sw_true (by rw [hs]; exact hk) (by rw [hs]; exact yl) k3 (Bool.not_eq_true' _ |>.mp k4)) (sI it g hs h1 h2) (blkOk_by (by rw [g.hN, hs]; exact h4)) (fun s H C c fp => ?_) (fun s H C c fp => ?_) (fun s H C c fp => ?_) (folded_not h3)
      · intro i hi
        have q := List.all_eq_true.mp h5 i hi
        exact List.contains_iff_mem.mp q
      · exact tg_ok (g.blk s H _ _ fp).hN (g.blk s H _ _ fp).nd (by rw [← hs]; rfl) (g.blk s H _ _ fp).fnall g.calm h6
      · exact sTs ifs (g.blk s H _ _ fp) (by rw [← hs]; rfl) h7
      · exact sE elt (g.blk s H _ _ fp) (by rw [← hs]; rfl) h8
    · cases h
  | .par i j a b => fun g hs hk h => by
    unfold okS at h
    split at h
    · simp only [Bool.and_eq_true] at h
      obtain ⟨⟨⟨⟨h1, h2⟩, h3⟩, h4⟩, h5⟩ := h
      have hw := fun kt k2 pt pt2 => swapped_par (kt := kt) (k2 := k2) (pt := pt) (pt2 := pt2) hs (by rw [hs]; exact hk) h1
      unfold okPar at h1
      simp only [Bool.and_eq_true] at h1
      obtain ⟨⟨⟨⟨⟨⟨⟨⟨⟨q1, q2⟩, q3⟩, q4⟩, q5⟩, _⟩, _⟩, _⟩, _⟩, _⟩ := h1
      exact ds_par g.calm g.nd (by rw [g.hN]; exact of_decide_eq_true q1) (by rw [g.hN]; exact of_decide_eq_true q2) (of_decide_eq_true q3) (by rw [hs]; exact of_decide_eq_true q4) (by rw [hs]; exact of_decide_eq_true q5)
        (da_cons (sE a g hs h4) (da_cons (sE b g hs h5) da_nil (star_cons h3)) (star_cons h2)) (hw _ _ _ _) rfl
    · cases h
  | .setIx o i a => fun g hs hk h => by
    unfold okS at h
    split at h
    · next x y sp e p =>
      simp only [Bool.and_eq_true] at h
      obtain ⟨⟨⟨⟨h1, h2⟩, h3⟩, h4⟩, h5⟩ := h
      refine ds_setIt (sE o g hs h3) (sE i g hs h4) (sE a g hs h5) (fun v => ?_) (swaps_sole h2) swapped_sub rfl
      cases y <;> first | rfl | cases h1
    · cases h
  | .ife t as bs => fun g hs hk h => by
    unfold okS at h
    split at h
    · simp only [Bool.and_eq_true] at h
      exact ds_if (sT t g hs h.1.1) (sSs as g hs hk h.1.2) (sSs bs g hs hk h.2)
    · cases h
  | .for_ it tg body => fun g hs hk h => by
    unfold okS at h
    split at h
    · simp only [Bool.and_eq_true] at h
      obtain ⟨⟨⟨⟨h1, h2⟩, h3⟩, h4⟩, h5⟩ := h
      exact ds_for g.pass g.calm (sI it g hs h1 h2) (tg_ok (bl := false) g.hN g.nd hs g.fnall g.calm h4) (sSs body g hs hk h5) (folded_not h3)
    · cases h
  | .whil n t body => fun g hs hk h => by
    unfold okS at h
    split at h
    · simp only [Bool.and_eq_true] at h
      exact ds_while g.pass (sT t g hs h.1) (sSs body g hs hk h.2)
    · cases h
  | .never => fun g hs hk h => ds_never
theorem sSs : (ss : List S) → ∀ {sc : Scope} {sts : List Stmt} {W : Wh} {X : Cx}, Good N G call cl k W false X → X.env.scope = sc → sc.kind = .function → okSs N G sc ss sts = true → PSs X sts (tS X.K cl W (evSs call ss))
  | [] => fun g hs hk h => by
    unfold okSs at h
    split at h
    · exact dss_nil
    · cases h
  | [s] => fun g hs hk h => by
    unfold okSs at h
    split at h
    · next x xs =>
      simp only [Bool.and_eq_true] at h
      cases xs with
      | nil => exact dss_one (sS s g hs hk h.1)
      | cons y ys => cases h.2
    · cases h
  | s :: s2 :: ss => fun g hs hk h => by
    unfold okSs at h
    split at h
    · next x xs =>
      simp only [Bool.and_eq_true] at h
      exact dss_cons (sS s g hs hk h.1) (sSs (s2 :: ss) g hs hk h.2)
    · cases h
end
end

/-! ### defs -/
abbrev gb (x : Str) : Str × GK := (x, .blt)
abbrev gf (x : Str) (i n : Nat) : Str × GK := (x, .fn i n)
abbrev gc (x : Str) (d : D) : Str × GK := (x, .cst d)
structure Fn where
  N : List Str
  n : Nat
  body : List S
def startE (k : Nat) (ds : List D) : Env' := ds.map some ++ List.replicate (k - ds.length) none
def outD : Out → M D
  | .rt d => fun h => .ok d h
  | .nx _ => fun h => .ok .non h
  | _ => M.bad
abbrev Fns := List (Nat × Fn)
def callF (fs : Fns) : Nat → Nat → List D → M D
  | 0, _, _ => M.bad
  | k + 1, i, ds => match fs.lookup i with
    | none => M.bad
    | some f => if ds.length = f.n then M.bind (evSs (callF fs k) f.body (startE f.N.length ds)) outD else M.bad
/-- a def of the text, and ours -/
def FnIn (K : PySem.W.Frag) (mg : Str → Option Value) (G : GEnv) (fs : Fns) (x : Str) (i n : Nat) : Prop :=
  ∃ (st : Stmt) (f : Addr) (fd : FuncData) (ps : List Str) (fn : Fn), L2.Fun K x x st f fd ∧ mg x = some (.ref f) ∧ L2.Binds K fd ps [] ∧ FnScope fn.N ps (defScope st) ∧ ps.length = n ∧ fs.lookup i = some fn ∧ fn.n = n ∧ okSs fn.N G (defScope st) fn.body (defBody st) = true
theorem start_env {K : PySem.W.Frag} {m : List Addr} {H : Hp} {N : List Str} {ds : List D} {vs : List V} (q : RVs K m H ds vs) : REnv K m H (startE N.length ds) (L2.start N vs) := by
  refine ⟨by unfold startE L2.start; rw [List.length_append, List.length_append, List.length_map, List.length_map, List.length_replicate, List.length_replicate, q.len], fun i d e => ?_⟩
  unfold startE at e
  by_cases c : i < ds.length
  · rw [List.getElem?_append_left (by rw [List.length_map]; exact c), List.getElem?_map] at e
    cases hd : ds[i]? with
    | none => rw [hd] at e; cases e
    | some d' =>
      rw [hd] at e
      cases e
      obtain ⟨v, hv, r⟩ := q.get i hd
      refine ⟨v, ?_, r⟩
      unfold L2.start
      rw [List.getElem?_append_left (by rw [List.length_map, q.len]; exact c), List.getElem?_map, hv]
      rfl
  · rw [List.getElem?_append_right (by rw [List.length_map]; omega)] at e
    have := List.getElem?_eq_some_iff.mp e
    obtain ⟨h1, h2⟩ := this
    rw [List.getElem_replicate] at h2
    cases h2
section
variable {P : Program} {w : World} {K : PySem.W.Frag} {mg : Str → Option Value} {base : Heap} {G : GEnv} {fs : Fns} {cl : Nat → Value}
theorem all_ok (hb : ∀ x, G.blt x = true → mg x = none) (hc : ∀ x d, G.cst x d = true → ∃ v u, mg x = some u ∧ L2.RelV v u ∧ ∀ m H, RV K m H d v) (hf : ∀ x i n, G.fn x i n = true → FnIn K mg G fs x i n) :
    ∀ (k : Nat) (x : Str) (i n : Nat) (st : Stmt) (f : Addr) (fd : FuncData) (ps : List Str) (fn : Fn), L2.Fun K x x st f fd → mg x = some (.ref f) → L2.Binds K fd ps [] → FnScope fn.N ps (defScope st) → ps.length = n → fs.lookup i = some fn → fn.n = n → okSs fn.N G (defScope st) fn.body (defBody st) = true →
      FnOk P w K mg base (L2.CX P w) k f fd ps (spF K cl (callF fs k i) n) := by
  intro k
  induction k with
  | zero =>
    intro x i n st f fd ps fn F hm hbd sc hl hi hn ok
    refine ⟨fun vs H Q E q => q.1.trans hl.symm, fun A outer s H args us vs Q E hr e0 hb' r hs => ?_⟩
    obtain ⟨_, m, h, ds, _, _, p⟩ := hs
    exact p.elim
  | succ k ih =>
    intro x i n st f fd ps fn F hm hbd sc hl hi hn ok
    refine F.okX sc (fun vs H Q E q => q.1.trans hl.symm) fun cdv A outer s H vs Q E hr hsp => ?_
    obtain ⟨hv, m, h, ds, qs, r, p⟩ := hsp
    have g : Good fn.N G (callF fs k) cl k E false (cxOf (L2.CX P w) P w K mg base fn.N x (defScope st) f cdv A outer s H E) := by
      refine ⟨rfl, sc.nd, rfl, hr, passes_of rfl, takes_of rfl rfl rfl rfl, fun _ _ => rfl, hb, hc, fun y j n' hy => ?_⟩
      obtain ⟨st', f', fd', ps', fn', F', hm', hbd', sc', hl', hi', hn', ok'⟩ := hf y j n' hy
      exact ⟨f', fd', ps', hm', F'.kp, hbd', hl', ih y j n' st' f' fd' ps' fn' F' hm' hbd' sc' hl' hi' hn' ok'⟩
    refine ⟨_, sSs fn.body g rfl sc.kind ok, m, startE fn.N.length ds, h, start_env qs, r, ?_⟩
    unfold callF at p
    rw [hi] at p
    dsimp only at p
    rw [if_pos (by rw [← qs.len, hv, hn])] at p
    refine Post.mono (Post.bind p) fun o H1 ⟨m1, o', h1, x1, r1, q1, p1⟩ => ?_
    cases o' with
    | nx ρ =>
      cases o with
      | nx σ => exact Post.here (Q := Q) (b := V.non) (a := D.non) p1 r1 RV.non
      | _ => exact q1.elim
    | rt d =>
      cases o with
      | rt v => exact Post.here (Q := Q) (b := v) (a := d) p1 r1 q1
      | _ => exact q1.elim
    | _ => exact p1.elim
end
end Dx

/-! Dx11: from the rows of the frozen heap to the law's own end. -/
namespace Dx
open PySem PySem.Spec PyProof.Rows L2

def GOk (K : PySem.W.Frag) (mg : Str → Option Value) (G : GEnv) (fs : Fns) : Str × GK → Prop
  | (x, .blt) => mg x = none
  | (x, .fn i n) => FnIn K mg G fs x i n
  | (x, .cst d) => ∃ v u, mg x = some u ∧ L2.RelV v u ∧ ∀ m H, RV K m H d v
def GAll (K : PySem.W.Frag) (mg : Str → Option Value) (G : GEnv) (fs : Fns) : GEnv → Prop
  | [] => True
  | p :: ps => GOk K mg G fs p ∧ GAll K mg G fs ps
section
variable {K : PySem.W.Frag} {mg : Str → Option Value} {G : GEnv} {fs : Fns}
theorem GAll.at : ∀ {l : GEnv} {x : Str} {k : GK}, GAll K mg G fs l → l.lookup x = some k → GOk K mg G fs (x, k)
  | [], _, _, _, e => (nomatch e)
  | (y, j) :: l, x, k, h, e => by
    rw [List.lookup_cons] at e
    by_cases c : x == y
    · rw [c] at e
      cases e
      rw [eq_of_beq c]
      exact h.1
    · rw [Bool.eq_false_iff.mpr c] at e
      exact GAll.at h.2 e
theorem g_blt (h : GAll K mg G fs G) (x : Str) (e : G.blt x = true) : mg x = none := by
  unfold GEnv.blt at e
  split at e
  · next q => exact h.at q
  · cases e
theorem g_fn (h : GAll K mg G fs G) (x : Str) (i n : Nat) (e : G.fn x i n = true) : FnIn K mg G fs x i n := by
  unfold GEnv.fn at e
  split at e
  · next j k q =>
    rw [Bool.and_eq_true] at e
    have e1 := eq_of_beq e.1
    have e2 := eq_of_beq e.2
    subst e1 e2
    exact h.at q
  · cases e
theorem g_cst (h : GAll K mg G fs G) (x : Str) (d : D) (e : G.cst x d = true) : ∃ v u, mg x = some u ∧ L2.RelV v u ∧ ∀ m H, RV K m H d v := by
  unfold GEnv.cst at e
  split at e
  · next d2 q =>
    have := D.beq_eq _ _ e
    subst this
    exact h.at q
  · cases e
variable {hp : Heap}
theorem fn_in {x : Str} {st : Stmt} {f : Addr} {oc : Value} {od an : Option Addr} {osl : Array (Option Value)} {kV doc pm cdv ct : Value} {ps : List Str} {fn : Fn} {i n : Nat} (X : K.In hp) (Gn : hp.Ns mainGlobals mg)
    (a : PySem.W.nsIn K mainGlobals x = some (some (.ref f))) (l : K.lookup f = some ⟨oc, od, .func (PySem.W.fnOf x x (defArgs st) (defBody st) (defScope st) .none kV doc pm an cdv ct), osl⟩)
    (c : PySem.W.codeIn K cdv x = true) (k : PySem.W.keepIn K (.ref f) = true)
    (hb : ∀ (kV doc pm : Value) (an : Option Addr) (cdv ct : Value) (us : List Value), us.length = ps.length → bindArgs (PySem.W.fnOf x x (defArgs st) (defBody st) (defScope st) .none kV doc pm an cdv ct) ⟨us, []⟩ = pure (ps.zip us))
    (sc : FnScope fn.N ps (defScope st)) (hl : ps.length = n) (hi : fs.lookup i = some fn) (hn : fn.n = n) (ok : okSs fn.N G (defScope st) fn.body (defBody st) = true) : FnIn K mg G fs x i n :=
  have F := fun_mk (st := st) l c k
  ⟨st, f, _, ps, fn, F, PySem.W.mg_of X Gn a, F.binds hb, sc, hl, hi, hn, ok⟩
theorem blt_in {x : Str} (X : K.In hp) (Gn : hp.Ns mainGlobals mg) (a : PySem.W.nsIn K mainGlobals x = some none) : mg x = none := PySem.W.mg_none_of X Gn a
theorem cst_in {x : Str} {v : V} {u : Value} {d : D} (X : K.In hp) (Gn : hp.Ns mainGlobals mg) (a : PySem.W.nsIn K mainGlobals x = some (some u)) (r : L2.RelV v u) (q : ∀ m H, RV K m H d v) : ∃ v u, mg x = some u ∧ L2.RelV v u ∧ ∀ m H, RV K m H d v :=
  ⟨v, u, PySem.W.mg_of X Gn a, r, q⟩
end
/-- the law's entry -/
theorem law_entry {K : PySem.W.Frag} {cl : Nat → Value} {fs : Fns} {k i : Nat} (law : ∀ ns : List Int, ns.length ≤ 63 → ∃ h', callF fs k i [.loc 0] [.ro (ns.map D.int)] = .ok (.bl true) h') {H : Hp} {a : Addr} {ns : List Int}
    (hl : ns.length ≤ 63) (hS : SqL K H a (ns.map V.int)) : spF K cl (callF fs k i) 1 [.ref a] H (fun v _ => v = .bl true) fun _ _ _ => False := by
  have mk : ∀ ks : List Int, RVs K [a] H (ks.map D.int) (ks.map V.int) := fun ks => by
    induction ks with
    | nil => exact .nil
    | cons k ks ih => exact .cons (.int k) ih
  refine ⟨rfl, [a], [.ro (ns.map D.int)], [.loc 0], .cons (.loc rfl) .nil, ⟨rfl, fun l l' b e1 e2 ne => ?_, fun l b o e1 e2 => ?_⟩, ?_⟩
  · have p1 := get_lt e1
    have p2 := get_lt e2
    have z1 : l = 0 := by simp at p1; omega
    have z2 : l' = 0 := by simp at p2; omega
    exact absurd (z1.trans z2.symm) ne
  · have p1 := get_lt e1
    have z1 : l = 0 := by simp at p1; omega
    subst z1
    cases e1
    cases e2
    exact ⟨_, hS, mk ns⟩
  · obtain ⟨h', e⟩ := law ns hl
    rw [e]
    intro m' H' b _ _ q
    cases q
    rfl
theorem law_fn {l : PySem.W.OpenLaw} {w : World} {K : PySem.W.Frag} {hp : Heap} {mg : Str → Option Value} {fa : Addr} {G : GEnv} {fs : Fns} {cl : Nat → Value} {x p : Str} {i k : Nat} {fn : Fn}
    {st : Stmt} {f : Addr} {oc : Value} {od an : Option Addr} {osl : Array (Option Value)} {kV doc pm cdv ct : Value}
    (X : K.In hp) (Gn : hp.Ns mainGlobals mg) (hfa : mg x = some (.ref fa)) (GA : GAll K mg G fs G)
    (a : PySem.W.nsIn K mainGlobals x = some (some (.ref f))) (lk : K.lookup f = some ⟨oc, od, .func (PySem.W.fnOf x x (defArgs st) (defBody st) (defScope st) .none kV doc pm an cdv ct), osl⟩)
    (c : PySem.W.codeIn K cdv x = true) (kp : PySem.W.keepIn K (.ref f) = true)
    (hb : ∀ (kV doc pm : Value) (an : Option Addr) (cdv ct : Value) (us : List Value), us.length = [p].length → bindArgs (PySem.W.fnOf x x (defArgs st) (defBody st) (defScope st) .none kV doc pm an cdv ct) ⟨us, []⟩ = pure ([p].zip us))
    (sc : FnScope fn.N [p] (defScope st)) (hi : fs.lookup i = some fn) (hn : fn.n = 1) (ok : okSs fn.N G (defScope st) fn.body (defBody st) = true) :
    ∃ fd : FuncData, (∀ (s : Shared) (u : Value), BindsTo s fd ⟨[u], []⟩ [(p, u)]) ∧ ∀ base : Heap, K.In base → base.Ns mainGlobals mg → FnOk l.prog w K mg base (L2.CX l.prog w) k fa fd [p] (spF K cl (callF fs k i) 1) := by
  have e := hfa.symm.trans (PySem.W.mg_of X Gn a)
  cases e
  have F := fun_mk (st := st) lk c kp
  exact ⟨_, fun s u => .of_eq (hb kV doc pm an cdv ct [u] rfl), fun base _ _ => all_ok (g_blt GA) (g_cst GA) (g_fn GA) k x i 1 st _ _ [p] fn F hfa (F.binds hb) sc rfl hi hn ok⟩
theorem cx_false {P : Program} {w : World} {H : Hp} {s s' : Shared} {e : Value} : L2.CX P w [] H s (fun _ _ _ => False) e s' → False :=
  fun ⟨_, _, _, _, _, _, _, _, _, _, _, _, z⟩ => z
end Dx

/-! the defs in our own syntax (printed by gen.py). -/
namespace F
open PySem Dx

abbrev n_is_whole : Nat := 0
def f_is_whole : Fn := ⟨["thing", "low", "high"], 3,
  [.ret (.and [(.blt .isi [(.var 0), (.ty "int")]), (.not (.blt .isi [(.var 0), (.ty "bool")])), (.chain .LtE .LtE (.var 1) (.var 0) (.var 2))])]⟩
abbrev n_is_prime : Nat := 1
def f_is_prime : Fn := ⟨["n", "divisor"], 1,
  [.ife (.not (.tr (.call 0 3 [(.var 0), (.int 2), (.cst (D.int 65521))])))
    [.ret (.bl false)]
    [],
  .set (.nm 1) (.int 2),
  .whil 300 (.cmp .LtE (.bin .Mult (.var 1) (.var 1)) (.var 0))
    [.ife (.cmp .Eq (.bin .Mod (.var 0) (.var 1)) (.int 0))
      [.ret (.bl false)]
      [],
    .set (.nm 1) (.bin .Add (.var 1) (.int 1))],
  .ret (.bl true)]⟩
abbrev n_are_points : Nat := 3
def f_are_points : Fn := ⟨["p", "thing", "index"], 2,
  [.ife (.or [(.not (.tr (.blt .isi [(.var 1), (.ty "tuple")]))), (.not (.chain .LtE .LtE (.int 1) (.blt .len [(.var 1)]) (.cst (D.int 8))))])
    [.ret (.bl false)]
    [],
  .for_ (.rng1 (.blt .len [(.var 1)])) (.nm 2)
    [.ife (.or [(.not (.tr (.call 0 3 [(.ix (.var 1) (.var 2)), (.int 0), (.var 0)]))), (.cmp .In (.ix (.var 1) (.var 2)) (.sl (.var 1) none (some (.var 2))))])
      [.ret (.bl false)]
      []],
  .ret (.bl true)]⟩
abbrev n_made_ground : Nat := 4
def f_made_ground : Fn := ⟨["thing"], 1,
  [.ife (.or [(.not (.tr (.blt .isi [(.var 0), (.ty "tuple")]))), (.cmp .NotEq (.blt .len [(.var 0)]) (.int 3))])
    [.never]
    [],
  .ife (.not (.tr (.call 1 1 [(.ix (.var 0) (.int 0))])))
    [.never]
    [],
  .ife (.not (.tr (.call 0 3 [(.ix (.var 0) (.int 1)), (.int 1), (.cst (D.int 12))])))
    [.never]
    [],
  .ife (.not (.tr (.call 3 2 [(.ix (.var 0) (.int 0)), (.ix (.var 0) (.int 2))])))
    [.never]
    [],
  .ret (.var 0)]⟩
abbrev n_shelves : Nat := 5
def f_shelves : Fn := ⟨["ground"], 1,
  [.ret (.blt .len [(.ix (.call 4 1 [(.var 0)]) (.int 2))])]⟩
abbrev n_made_lengths : Nat := 7
def f_made_lengths : Fn := ⟨["ground", "thing", "many", "index"], 2,
  [.set (.nm 2) (.call 5 1 [(.var 0)]),
  .ife (.or [(.not (.tr (.blt .isi [(.var 1), (.ty "tuple")]))), (.cmp .NotEq (.blt .len [(.var 1)]) (.var 2))])
    [.never]
    [],
  .for_ (.rng1 (.var 2)) (.nm 3)
    [.ife (.not (.tr (.call 0 3 [(.ix (.var 1) (.var 3)), (.int 0), (.cst (D.int 1024))])))
      [.never]
      []],
  .ret (.var 1)]⟩
abbrev n__law_pool_v2 : Nat := 105
def f__law_pool_v2 : Fn := ⟨["script", "first", "size"], 1,
  [.set (.nm 1) (.ife (.cmp .Gt (.blt .len [(.var 0)]) (.int 0)) (.blt .int [(.ix (.var 0) (.int 0))]) (.int 0)),
  .set (.nm 2) (.ife (.cmp .GtE (.var 1) (.int 0)) (.bin .Mult (.int 2) (.var 1)) (.bin .Sub (.neg (.int 1)) (.bin .Mult (.int 2) (.var 1)))),
  .ret (.lst [(.ife (.cmp .GtE (.var 2) (.bin .Pow (.int 10) (.int 18))) (.var 2) (.int 0)), (.bin .Add (.bin .Mod (.blt .int [(.bin .Add (.bin .Mult (.var 2) (.int 48271)) (.int 1009))]) (.int 2147483629)) (.int 3)), (.blt .list [(.sl (.var 0) (some (.int 1)) none)])])]⟩
abbrev n__law_draw : Nat := 106
def f__law_draw : Fn := ⟨["pool", "many", "cell", "size", "found"], 2,
  [.ife (.and [(.cmp .Eq (.ix (.var 0) (.int 0)) (.int 0)), (.cmp .NotEq (.ix (.var 0) (.int 2)) (.lst []))])
    [.set (.nm 2) (.blt .int [(.meth .popAt (.ix (.var 0) (.int 2)) [(.int 0)])]),
    .set (.nm 3) (.ife (.cmp .GtE (.var 2) (.int 0)) (.bin .Mult (.int 2) (.var 2)) (.bin .Sub (.neg (.int 1)) (.bin .Mult (.int 2) (.var 2)))),
    .setIx (.var 0) (.int 0) (.ife (.cmp .GtE (.var 3) (.bin .Pow (.int 10) (.int 18))) (.var 3) (.int 0)),
    .setIx (.var 0) (.int 1) (.bin .Add (.bin .Mod (.blt .int [(.bin .Add (.ix (.var 0) (.int 1)) (.bin .Mult (.var 3) (.int 69621)))]) (.int 2147483629)) (.int 3))]
    [],
  .ife (.cmp .Gt (.ix (.var 0) (.int 0)) (.int 0))
    [.set (.nm 4) (.bin .Mod (.blt .int [(.ix (.var 0) (.int 0))]) (.var 1)),
    .setIx (.var 0) (.int 0) (.bin .FloorDiv (.ix (.var 0) (.int 0)) (.var 1)),
    .ret (.var 4)]
    [],
  .setIx (.var 0) (.int 1) (.bin .Mod (.blt .int [(.bin .Add (.bin .Mult (.ix (.var 0) (.int 1)) (.int 48271)) (.int 11))]) (.int 2147483647)),
  .ret (.bin .Mod (.bin .FloorDiv (.bin .Mod (.blt .int [(.bin .Mult (.ix (.var 0) (.int 1)) (.ix (.var 0) (.int 1)))]) (.int 2147483629)) (.int 32)) (.var 1))]⟩
abbrev n__law_turned_v2 : Nat := 108
def f__law_turned_v2 : Fn := ⟨["pool", "many", "left", "found", "turn"], 2,
  [.par 2 3 (.lrg1 (.var 1)) (.lst []),
  .for_ (.rng1 (.var 1)) (.nm 4)
    [.expr (.meth .append (.var 3) [(.meth .popAt (.var 2) [(.call 106 2 [(.var 0), (.blt .len [(.var 2)])])])])],
  .ret (.var 3)]⟩
abbrev n__law_batch : Nat := 110
def f__law_batch : Fn := ⟨["pool", "ground", "p", "k", "points", "place", "at"], 2,
  [.set (.tp [2, 3, 4]) (.var 1),
  .ife (.cmp .Gt (.call 106 2 [(.var 0), (.int 4)]) (.int 0))
    [.ret (.blt .tuple [(.comp (.rng1 (.var 3)) (.nm 5) [] (.call 106 2 [(.var 0), (.var 2)]) [("place", 5)])])]
    [],
  .set (.nm 5) (.call 106 2 [(.var 0), (.var 3)]),
  .ret (.blt .tuple [(.comp (.rng1 (.var 3)) (.nm 6) [] (.ife (.cmp .Eq (.var 6) (.var 5)) (.bin .Sub (.var 2) (.int 1)) (.int 0)) [("at", 6)])])]⟩
abbrev n_times : Nat := 163
def f_times : Fn := ⟨["p", "f", "g", "found", "i", "j"], 3,
  [.set (.nm 3) (.bin .Mult (.lst [(.int 0)]) (.bin .Sub (.bin .Add (.blt .len [(.var 1)]) (.blt .len [(.var 2)])) (.int 1))),
  .for_ (.rng1 (.blt .len [(.var 1)])) (.nm 4)
    [.for_ (.rng1 (.blt .len [(.var 2)])) (.nm 5)
      [.setIx (.var 3) (.bin .Add (.var 4) (.var 5)) (.bin .Mod (.bin .Add (.ix (.var 3) (.bin .Add (.var 4) (.var 5))) (.bin .Mult (.ix (.var 1) (.var 4)) (.ix (.var 2) (.var 5)))) (.var 0))]],
  .ret (.blt .tuple [(.var 3)])]⟩
abbrev n_line : Nat := 165
def f_line : Fn := ⟨["p", "point"], 2,
  [.ret (.ife (.cmp .Eq (.var 1) (.var 0)) (.tup [(.int 1), (.int 0)]) (.tup [(.bin .Mod (.neg (.var 1)) (.var 0)), (.int 1)]))]⟩
abbrev n_product : Nat := 166
def f_product : Fn := ⟨["ground", "lengths", "p", "k", "points", "many", "found", "point", "length", "turn"], 2,
  [.set (.tp [2, 3, 4]) (.call 4 1 [(.var 0)]),
  .set (.nm 5) (.call 7 2 [(.var 0), (.var 1)]),
  .ife (.cmp .Gt (.blt .sum [(.var 5)]) (.cst (D.int 98)))
    [.never]
    [],
  .set (.nm 6) (.tup [(.int 1)]),
  .for_ (.zip (.var 4) (.var 5)) (.tp [7, 8])
    [.for_ (.rng1 (.var 8)) (.nm 9)
      [.set (.nm 6) (.call 163 3 [(.var 2), (.var 6), (.call 165 2 [(.var 2), (.var 7)])])]],
  .ret (.var 6)]⟩
abbrev n__law_written_out : Nat := 175
def f__law_written_out : Fn := ⟨["p", "form", "point", "found", "number", "longer", "at"], 3,
  [.ife (.cmp .Eq (.var 2) (.var 0))
    [.ret (.blt .list [(.rev (.var 1))])]
    [],
  .set (.nm 3) (.lst []),
  .for_ (.seq (.rev (.var 1))) (.nm 4)
    [.set (.nm 5) (.bin .Add (.var 3) (.lst [(.int 0)])),
    .setc 3 (.rng1 (.blt .len [(.var 5)])) (.nm 6) [] (.bin .Mod (.blt .int [(.bin .Add (.bin .Mult (.var 2) (.ix (.var 5) (.var 6))) (.ife (.cmp .Gt (.var 6) (.int 0)) (.ix (.var 5) (.bin .Sub (.var 6) (.int 1))) (.int 0)))]) (.var 0)) [("at", 6)],
    .setIx (.var 3) (.int 0) (.bin .Mod (.blt .int [(.bin .Add (.ix (.var 3) (.int 0)) (.var 4))]) (.var 0))],
  .ret (.var 3)]⟩
abbrev n_ways_left : Nat := 734
def f_ways_left : Fn := ⟨["ground", "lengths", "total"], 2,
  [.set (.nm 2) (.blt .sum [(.call 7 2 [(.var 0), (.var 1)])]),
  .ret (.blt .max [(.int 0), (.bin .Sub (.ix (.var 0) (.int 1)) (.var 2))])]⟩
abbrev n_early : Nat := 735
def f_early : Fn := ⟨["ground", "lengths", "k", "free", "lines", "found", "place", "at"], 2,
  [.par 2 3 (.ix (.call 4 1 [(.var 0)]) (.int 1)) (.call 734 2 [(.var 0), (.var 1)]),
  .ife (.cmp .Eq (.var 3) (.int 0))
    [.ret (.trg1 (.var 2))]
    [],
  .set (.nm 4) (.call 166 2 [(.var 0), (.var 1)]),
  .set (.nm 5) (.lst []),
  .for_ (.rng1 (.var 2)) (.nm 6)
    [.ife (.cmp .Eq (.comp (.rng2 (.blt .max [(.int 0), (.bin .Add (.bin .Sub (.var 6) (.var 3)) (.int 1))]) (.blt .min [(.bin .Add (.var 6) (.int 1)), (.blt .len [(.var 4)])])) (.nm 7) [(.cmp .NotEq (.ix (.var 4) (.var 7)) (.int 0))] (.int 1) [("at", 7)]) (.lst []))
      [.expr (.meth .append (.var 5) [(.var 6)])]
      []],
  .ret (.blt .tuple [(.var 5)])]⟩
abbrev n__law_lengths_v2 : Nat := 1315
def f__law_lengths_v2 : Fn := ⟨["pool", "ground", "most", "point"], 3,
  [.ret (.blt .tuple [(.comp (.seq (.ix (.var 1) (.int 2))) (.nm 3) [] (.call 106 2 [(.var 0), (.bin .Add (.var 2) (.int 1))]) [("point", 3)])])]⟩
abbrev n__law_listed_v3 : Nat := 1332
def f__law_listed_v3 : Fn := ⟨["p", "k", "found", "turn", "longer", "batch", "number"], 2,
  [.set (.nm 2) (.lst [(.tup [])]),
  .for_ (.rng1 (.var 1)) (.nm 3)
    [.set (.nm 4) (.lst []),
    .for_ (.seq (.var 2)) (.nm 5)
      [.expr (.meth .extend (.var 4) [(.comp (.rng1 (.var 0)) (.nm 6) [] (.bin .Add (.var 5) (.tup [(.var 6)])) [("number", 6)])])],
    .set (.nm 2) (.var 4)],
  .ret (.var 2)]⟩
abbrev n__law_begun : Nat := 1339
def f__law_begun : Fn := ⟨["ground", "batch", "lengths", "found", "point", "length"], 3,
  [.set (.nm 3) (.lst []),
  .for_ (.zip (.ix (.var 0) (.int 2)) (.var 2)) (.tp [4, 5])
    [.expr (.meth .append (.var 3) [(.blt .tuple [(.sl (.call 175 3 [(.ix (.var 0) (.int 0)), (.var 1), (.var 4)]) none (some (.var 5)))])])],
  .ret (.blt .tuple [(.var 3)])]⟩
abbrev n_law_v49 : Nat := 1340
def f_law_v49 : Fn := ⟨["script", "pool", "p", "points", "ground", "lengths", "batch", "own", "alike", "many", "turn", "told", "place", "numbers", "counts", "other", "number"], 1,
  [.set (.nm 1) (.call 105 1 [(.var 0)]),
  .set (.nm 2) (.bin .Add (.int 2) (.call 106 2 [(.var 1), (.int 2)])),
  .set (.nm 3) (.sl (.call 108 2 [(.var 1), (.bin .Add (.var 2) (.int 1))]) none (some (.bin .Add (.int 1) (.call 106 2 [(.var 1), (.blt .min [(.int 4), (.bin .Add (.var 2) (.int 1))])])))),
  .set (.nm 4) (.tup [(.var 2), (.bin .Add (.int 1) (.call 106 2 [(.var 1), (.ife (.cmp .Eq (.var 2) (.int 2)) (.int 6) (.int 4))])), (.blt .tuple [(.var 3)])]),
  .set (.nm 5) (.call 1315 3 [(.var 1), (.var 4), (.bin .Add (.int 1) (.call 106 2 [(.var 1), (.int 3)]))]),
  .ife (.cmp .Gt (.blt .sum [(.var 5)]) (.ix (.var 4) (.int 1)))
    [.set (.nm 5) (.bin .Add (.tup [(.call 106 2 [(.var 1), (.bin .Add (.ix (.var 4) (.int 1)) (.int 1))])]) (.bin .Mult (.tup [(.int 0)]) (.bin .Sub (.blt .len [(.var 5)]) (.int 1))))]
    [],
  .set (.nm 6) (.call 110 2 [(.var 1), (.var 4)]),
  .set (.nm 7) (.call 1339 3 [(.var 4), (.var 6), (.var 5)]),
  .setc 8 (.seq (.call 1332 2 [(.var 2), (.ix (.var 4) (.int 1))])) (.nm 15) [(.cmp .Eq (.call 1339 3 [(.var 4), (.var 15), (.var 5)]) (.var 7))] (.var 15) [("other", 15)],
  .set (.nm 9) (.int 1),
  .for_ (.rng1 (.call 734 2 [(.var 4), (.var 5)])) (.nm 10)
    [.set (.nm 9) (.bin .Mult (.var 9) (.var 2))],
  .ife (.cmp .NotEq (.blt .len [(.var 8)]) (.var 9))
    [.ret (.bl false)]
    [],
  .set (.nm 11) (.call 735 2 [(.var 4), (.var 5)]),
  .for_ (.rng1 (.ix (.var 4) (.int 1))) (.nm 12)
    [.set (.nm 13) (.comp (.seq (.var 8)) (.nm 15) [] (.ix (.var 15) (.var 12)) [("other", 15)]),
    .setc 14 (.rng1 (.var 2)) (.nm 16) [] (.meth .count (.var 13) [(.var 16)]) [("number", 16)],
    .ife (.and [(.cmp .In (.var 12) (.var 11)), (.cmp .NotEq (.ix (.var 14) (.ix (.var 6) (.var 12))) (.var 9))])
      [.ret (.bl false)]
      [],
    .ife (.and [(.cmp .NotIn (.var 12) (.var 11)), (.cmp .NotEq (.var 14) (.bin .Mult (.lst [(.bin .FloorDiv (.var 9) (.var 2))]) (.var 2)))])
      [.ret (.bl false)]
      []],
  .ret (.cmp .Eq (.blt .list [(.var 11)]) (.srtSet (.blt .list [(.var 11)])))]⟩
end F

/-! Dy0: reasoning about the evaluator: what a run answers (Wp), which lists it leaves alone (Kp), rules for loops. -/
namespace Dx
open PySem L2

theorem p62 : (2 : Int) ^ 62 = 4611686018427387904 := by decide
theorem p63 : (2 : Int) ^ 63 = 9223372036854775808 := by decide
/-- an equation that simp does not take for one by definition -/
theorem nrfl {α : Sort _} {a b : α} (e : a = b) : a = b := e
abbrev Xc := Nat → D → HA → Prop
def Wp {α : Type} (E : Xc) (r : R α) (Q : α → HA → Prop) : Prop := match r with
  | .ok a h => Q a h
  | .ex c w h => E c w h
  | .bad => False
section
variable {α β γ : Type} {E : Xc} {h : HA} {ρ : Env'} {call : Nat → List D → M D}
theorem Wp.mono {r : R α} {Q Q' : α → HA → Prop} (p : Wp E r Q) (i : ∀ a h, Q a h → Q' a h) : Wp E r Q' := by
  cases r with
  | ok a h => exact i a h p
  | ex c w h => exact p
  | bad => exact p
theorem Wp.ok {r : R α} {Q : α → HA → Prop} (p : Wp (fun _ _ _ => False) r Q) : ∃ a h, r = .ok a h ∧ Q a h := by
  cases r with
  | ok a h => exact ⟨a, h, rfl, p⟩
  | ex c w h => exact p.elim
  | bad => exact p.elim
theorem wp_ok {a : α} {Q : α → HA → Prop} : Wp E (.ok a h) Q = Q a h := nrfl rfl
theorem wp_bad {Q : α → HA → Prop} : Wp E (.bad : R α) Q = False := nrfl rfl
theorem wp_mbad {Q : α → HA → Prop} : Wp E ((M.bad : M α) h) Q = False := nrfl rfl
theorem wp_bind {x : M α} {f : α → M β} {Q : β → HA → Prop} : Wp E (M.bind x f h) Q = Wp E (x h) (fun a h' => Wp E (f a h') Q) := by
  unfold M.bind
  cases x h <;> rfl
theorem wp_if {c : Prop} [Decidable c] {r s : R α} {Q : α → HA → Prop} : Wp E (if c then r else s) Q = if c then Wp E r Q else Wp E s Q := by
  split <;> rfl
theorem wp_ifM {c : Prop} [Decidable c] {r s : M α} {Q : α → HA → Prop} : Wp E ((if c then r else s) h) Q = if c then Wp E (r h) Q else Wp E (s h) Q := by
  split <;> rfl
theorem wp_guard {c : Prop} [Decidable c] {r : R α} {Q : α → HA → Prop} : Wp E (if c then r else .bad) Q = (c ∧ Wp E r Q) := by
  by_cases z : c
  · rw [if_pos z]; exact propext ⟨fun q => ⟨z, q⟩, fun q => q.2⟩
  · rw [if_neg z]; exact propext ⟨fun q => q.elim, fun q => absurd q.1 z⟩
/-- what follows a choice -/
def brF {α : Type} (c : D) (A B : M α) : M α := match c with
  | .bl true => A
  | .bl false => B
  | _ => M.bad
theorem wp_br {b : Bool} {A B : M α} {Q : α → HA → Prop} : Wp E (brF (.bl b) A B h) Q = if b = true then Wp E (A h) Q else Wp E (B h) Q := by
  cases b <;> rfl

/-! ### expressions -/
variable {Q : D → HA → Prop} {a b c : Dx.E} {es : List Dx.E} {op op2 : CmpOp}
theorem we_int {i : Int} : Wp E (evE call (.int i) ρ h) Q = Q (.int i) h := nrfl rfl
theorem we_str {x : Str} : Wp E (evE call (.str x) ρ h) Q = Q (.str x) h := nrfl rfl
theorem we_bl {x : Bool} : Wp E (evE call (.bl x) ρ h) Q = Q (.bl x) h := nrfl rfl
theorem we_non : Wp E (evE call .non ρ h) Q = Q .non h := nrfl rfl
theorem we_ty {x : String} : Wp E (evE call (.ty x) ρ h) Q = Q (.ty x) h := nrfl rfl
theorem we_cst {d : D} : Wp E (evE call (.cst d) ρ h) Q = Q d h := nrfl rfl
theorem we_var {i : Nat} : Wp E (evE call (.var i) ρ h) Q = ∃ d, ρ[i]? = some (some d) ∧ Q d h := by
  show Wp E (varF i ρ h) Q = _
  unfold varF
  cases e : ρ[i]? with
  | none => exact propext ⟨fun q => q.elim, fun ⟨_, q, _⟩ => nomatch q⟩
  | some x =>
    cases x with
    | none => exact propext ⟨fun q => q.elim, fun ⟨_, q, _⟩ => nomatch q⟩
    | some d => exact propext ⟨fun q => ⟨d, rfl, q⟩, fun ⟨d', q, r⟩ => by cases q; exact r⟩
theorem we_bin {o : Operator} : Wp E (evE call (.bin o a b) ρ h) Q = Wp E (evE call a ρ h) fun x h1 => Wp E (evE call b ρ h1) fun y h2 => Wp E (binF o x y h2) Q := by
  show Wp E (M.bind _ _ h) Q = _
  rw [wp_bind]; simp only [wp_bind]
theorem we_cmp : Wp E (evE call (.cmp op a b) ρ h) Q = Wp E (evE call a ρ h) fun x h1 => Wp E (evE call b ρ h1) fun y h2 => Wp E (cmpF op x y h2) Q := by
  show Wp E (M.bind _ _ h) Q = _
  rw [wp_bind]; simp only [wp_bind]
theorem chain_br {fa fb fc : Env' → M D} : chainF op op2 fa fb fc ρ = M.bind (fa ρ) fun x => M.bind (fb ρ) fun y => M.bind (cmpF op x y) fun c => brF c (M.bind (fc ρ) fun z => cmpF op2 y z) (fun h => .ok (.bl false) h) := by
  unfold chainF brF
  rfl
theorem we_chain : Wp E (evE call (.chain op op2 a b c) ρ h) Q = Wp E (evE call a ρ h) fun x h1 => Wp E (evE call b ρ h1) fun y h2 => Wp E (cmpF op x y h2) fun d h3 => Wp E (brF d (M.bind (evE call c ρ) fun z => cmpF op2 y z) (fun h => .ok (.bl false) h) h3) Q := by
  show Wp E (chainF op op2 _ _ _ ρ h) Q = _
  rw [chain_br, wp_bind]; simp only [wp_bind]
theorem we_neg : Wp E (evE call (.neg a) ρ h) Q = Wp E (evE call a ρ h) fun x h1 => Wp E (negF x h1) Q := wp_bind
theorem we_not : Wp E (evE call (.not a) ρ h) Q = Wp E (evE call a ρ h) fun x h1 => Wp E (brF x (fun h => .ok (.bl false) h) (fun h => .ok (.bl true) h) h1) Q := by
  show Wp E (notF _ ρ h) Q = _
  unfold notF
  rw [wp_bind]
  refine congrArg _ (funext fun d => funext fun h1 => ?_)
  cases d with
  | bl b => cases b <;> rfl
  | _ => rfl
theorem we_and1 : Wp E (evE call (.and [a]) ρ h) Q = Wp E (evE call a ρ h) Q := nrfl rfl
theorem we_and2 : Wp E (evE call (.and (a :: b :: es)) ρ h) Q = Wp E (evE call a ρ h) fun d h1 => Wp E (brF d (evE call (.and (b :: es)) ρ) (fun h => .ok (.bl false) h) h1) Q := by
  show Wp E (M.bind _ _ h) Q = _
  rw [wp_bind]
  refine congrArg _ (funext fun d => funext fun h1 => ?_)
  cases d with
  | bl b => cases b <;> rfl
  | _ => rfl
theorem we_or1 : Wp E (evE call (.or [a]) ρ h) Q = Wp E (evE call a ρ h) Q := nrfl rfl
theorem we_or2 : Wp E (evE call (.or (a :: b :: es)) ρ h) Q = Wp E (evE call a ρ h) fun d h1 => Wp E (brF d (fun h => .ok (.bl true) h) (evE call (.or (b :: es)) ρ) h1) Q := by
  show Wp E (M.bind _ _ h) Q = _
  rw [wp_bind]
  refine congrArg _ (funext fun d => funext fun h1 => ?_)
  cases d with
  | bl b => cases b <;> rfl
  | _ => rfl
theorem we_ife {t : T} : Wp E (evE call (.ife t a b) ρ h) Q = Wp E (evT call t ρ h) fun c h1 => if c = true then Wp E (evE call a ρ h1) Q else Wp E (evE call b ρ h1) Q := by
  show Wp E (M.bind _ _ h) Q = _
  rw [wp_bind]; simp only [wp_ifM]
theorem we_tup : Wp E (evE call (.tup es) ρ h) Q = Wp E (evEs call es ρ h) fun ds h1 => ds.length ≤ sizeLine ∧ Q (.tup ds) h1 := by
  show Wp E (M.bind _ _ h) Q = _
  rw [wp_bind]; simp only [wp_guard, wp_ok] <;> rfl
theorem we_lst : Wp E (evE call (.lst es) ρ h) Q = Wp E (evEs call es ρ h) fun ds h1 => ds.length ≤ sizeLine ∧ Q (.loc h1.length) (h1 ++ [.lst ds]) := by
  show Wp E (M.bind _ _ h) Q = _
  rw [wp_bind]; simp only [wp_guard, wp_ok] <;> rfl
theorem we_ix : Wp E (evE call (.ix a b) ρ h) Q = Wp E (evE call a ρ h) fun x h1 => Wp E (evE call b ρ h1) fun y h2 => Wp E (ixF x y h2) Q := by
  show Wp E (M.bind _ _ h) Q = _
  rw [wp_bind]; simp only [wp_bind]
theorem we_sl {lo hi : Option Dx.E} : Wp E (evE call (.sl a lo hi) ρ h) Q = Wp E (evE call a ρ h) fun x h1 => Wp E (evO call lo ρ h1) fun i h2 => Wp E (evO call hi ρ h2) fun j h3 => Wp E (slF x i j h3) Q := by
  show Wp E (M.bind _ _ h) Q = _
  rw [wp_bind]; simp only [wp_bind]
theorem wo_none {Q : Option Int → HA → Prop} : Wp E (evO call none ρ h) Q = Q none h := nrfl rfl
theorem wo_some {Q : Option Int → HA → Prop} : Wp E (evO call (some a) ρ h) Q = Wp E (evE call a ρ h) fun d h1 => ∃ i, d = .int i ∧ Q (some i) h1 := by
  show Wp E (M.bind _ _ h) Q = _
  rw [wp_bind]
  refine congrArg _ (funext fun d => funext fun h1 => ?_)
  cases d with
  | int i => exact propext ⟨fun q => ⟨i, rfl, q⟩, fun ⟨j, e, q⟩ => by cases e; exact q⟩
  | _ => exact propext ⟨fun q => q.elim, fun ⟨j, e, q⟩ => nomatch e⟩
theorem we_blt {f : Blt} : Wp E (evE call (.blt f es) ρ h) Q = Wp E (evEs call es ρ h) fun ds h1 => Wp E (bltF f ds h1) Q := wp_bind
theorem we_call {i n : Nat} : Wp E (evE call (.call i n es) ρ h) Q = Wp E (evEs call es ρ h) fun ds h1 => ds.length = n ∧ Wp E (call i ds h1) Q := by
  show Wp E (M.bind _ _ h) Q = _
  rw [wp_bind]
  refine congrArg _ (funext fun ds => funext fun h1 => ?_)
  unfold callN
  by_cases c : ds.length = n
  · rw [if_pos c]; exact propext ⟨fun q => ⟨c, q⟩, fun q => q.2⟩
  · rw [if_neg c]; exact propext ⟨fun q => q.elim, fun q => absurd q.1 c⟩
theorem we_meth {f : Mth} : Wp E (evE call (.meth f a es) ρ h) Q = Wp E (evE call a ρ h) fun d h1 => tyName d h1 = some "list" ∧ Wp E (evEs call es ρ h1) fun ds h2 => Wp E (mthF f d ds h2) Q := by
  show Wp E (M.bind _ _ h) Q = _
  rw [wp_bind]
  refine congrArg _ (funext fun d => funext fun h1 => ?_)
  rw [wp_bind]
  unfold chkT
  rw [wp_guard, wp_ok, wp_bind]
theorem we_rev : Wp E (evE call (.rev a) ρ h) Q = Wp E (evE call a ρ h) fun d h1 => Wp E (revF d h1) Q := wp_bind
theorem we_srt : Wp E (evE call (.srtSet a) ρ h) Q = Wp E (evE call a ρ h) fun d h1 => Wp E (srtSetF d h1) Q := wp_bind
theorem lrg_wp {fa fb : Env' → M D} : Wp E (lrgF fa fb ρ h) Q = Wp E (fa ρ h) fun d h1 => Wp E (fb ρ h1) fun e h2 => ∃ i, d = .int i ∧ ∃ j, e = .int j ∧ rgOk i j ∧ Q (.loc h2.length) (h2 ++ [.lst (rgD i j)]) := by
  unfold lrgF
  rw [wp_bind]
  refine congrArg _ (funext fun d => funext fun h1 => ?_)
  rw [wp_bind]
  refine congrArg _ (funext fun e => funext fun h2 => ?_)
  cases d with
  | int i =>
    cases e with
    | int j => dsimp only; rw [wp_guard, wp_ok]; exact propext ⟨fun q => ⟨i, rfl, j, rfl, q⟩, fun ⟨i', e1, j', e2, q⟩ => by cases e1; cases e2; exact q⟩
    | _ => exact propext ⟨fun q => q.elim, fun ⟨_, _, _, e2, _⟩ => nomatch e2⟩
  | _ => exact propext ⟨fun q => q.elim, fun ⟨_, e1, _⟩ => nomatch e1⟩
theorem we_lrg1 : Wp E (evE call (.lrg1 a) ρ h) Q = Wp E (evE call a ρ h) fun e h2 => ∃ j, e = .int j ∧ rgOk 0 j ∧ Q (.loc h2.length) (h2 ++ [.lst (rgD 0 j)]) := by
  show Wp E (lrgF _ _ ρ h) Q = _
  rw [lrg_wp]
  show Wp E (evE call a ρ h) _ = _
  refine congrArg _ (funext fun e => funext fun h2 => propext ⟨fun ⟨i, e1, j, e2, q⟩ => ⟨j, e2, by cases e1; exact q⟩, fun ⟨j, e, q⟩ => ⟨0, rfl, j, e, q⟩⟩)
theorem we_lrg2 : Wp E (evE call (.lrg2 a b) ρ h) Q = Wp E (evE call a ρ h) fun d h1 => Wp E (evE call b ρ h1) fun e h2 => ∃ i, d = .int i ∧ ∃ j, e = .int j ∧ rgOk i j ∧ Q (.loc h2.length) (h2 ++ [.lst (rgD i j)]) := lrg_wp
theorem we_trg1 : Wp E (evE call (.trg1 a) ρ h) Q = Wp E (evE call a ρ h) fun e h2 => ∃ j, e = .int j ∧ rgOk 0 j ∧ Q (.tup (rgD 0 j)) h2 := by
  show Wp E (trgF _ _ ρ h) Q = _
  unfold trgF
  rw [wp_bind]
  show Wp E (M.bind (evE call a ρ) _ h) Q = _
  rw [wp_bind]
  refine congrArg _ (funext fun e => funext fun h2 => ?_)
  cases e with
  | int j => dsimp only; rw [wp_guard, wp_ok]; exact propext ⟨fun q => ⟨j, rfl, q⟩, fun ⟨j', e1, q⟩ => by cases e1; exact q⟩
  | _ => exact propext ⟨fun q => q.elim, fun ⟨_, e1, _⟩ => nomatch e1⟩
theorem ws_nil {Q : List D → HA → Prop} : Wp E (evEs call [] ρ h) Q = Q [] h := nrfl rfl
theorem ws_cons {Q : List D → HA → Prop} : Wp E (evEs call (a :: es) ρ h) Q = Wp E (evE call a ρ h) fun d h1 => Wp E (evEs call es ρ h1) fun ds h2 => Q (d :: ds) h2 := by
  show Wp E (M.bind _ _ h) Q = _
  rw [wp_bind]; simp only [wp_bind, wp_ok] <;> rfl

/-! ### tests -/
section
variable {QB : Bool → HA → Prop} {t : T} {ts : List T}
theorem wt_tr : Wp E (evT call (.tr a) ρ h) QB = Wp E (evE call a ρ h) fun d h1 => Wp E (truth d h1) QB := wp_bind
theorem wt_cmp : Wp E (evT call (.cmp op a b) ρ h) QB = Wp E (evE call (.cmp op a b) ρ h) fun d h1 => Wp E (truth d h1) QB := wp_bind
theorem wt_chain : Wp E (evT call (.chain op op2 a b c) ρ h) QB = Wp E (evE call (.chain op op2 a b c) ρ h) fun d h1 => Wp E (truth d h1) QB := wp_bind
theorem wt_not : Wp E (evT call (.not t) ρ h) QB = Wp E (evT call t ρ h) fun b h1 => QB (!b) h1 := wp_bind
theorem wt_and1 : Wp E (evT call (.and [t]) ρ h) QB = Wp E (evT call t ρ h) QB := nrfl rfl
theorem wt_and2 {u : T} : Wp E (evT call (.and (t :: u :: ts)) ρ h) QB = Wp E (evT call t ρ h) fun b h1 => if b = true then Wp E (evT call (.and (u :: ts)) ρ h1) QB else QB false h1 := by
  show Wp E (M.bind _ _ h) QB = _
  rw [wp_bind]; simp only [wp_ifM, wp_ok]; rfl
theorem wt_or1 : Wp E (evT call (.or [t]) ρ h) QB = Wp E (evT call t ρ h) QB := nrfl rfl
theorem wt_or2 {u : T} : Wp E (evT call (.or (t :: u :: ts)) ρ h) QB = Wp E (evT call t ρ h) fun b h1 => if b = true then QB true h1 else Wp E (evT call (.or (u :: ts)) ρ h1) QB := by
  show Wp E (M.bind _ _ h) QB = _
  rw [wp_bind]; simp only [wp_ifM, wp_ok]; rfl
theorem wts_nil : Wp E (evTs call [] ρ h) QB = QB true h := nrfl rfl
theorem wts_one : Wp E (evTs call [t] ρ h) QB = Wp E (evT call t ρ h) QB := nrfl rfl
theorem wr_bl {b : Bool} : Wp E (truth (.bl b) h) QB = QB b h := nrfl rfl
theorem wr_non : Wp E (truth .non h) QB = QB false h := nrfl rfl
theorem wr_int {i : Int} : Wp E (truth (.int i) h) QB = QB (i != 0) h := nrfl rfl
theorem wr_tup {xs : List D} : Wp E (truth (.tup xs) h) QB = QB (!xs.isEmpty) h := nrfl rfl
end

/-! ### operations on numbers -/
section
variable {i j : Int} {xs ys : List D}
theorem wn_add : Wp E (binF .Add (.int i) (.int j) h) Q = Q (.int (i + j)) h := nrfl rfl
theorem wn_sub : Wp E (binF .Sub (.int i) (.int j) h) Q = Q (.int (i - j)) h := nrfl rfl
theorem wn_mul : Wp E (binF .Mult (.int i) (.int j) h) Q = (mulOk i j = true ∧ Q (.int (i * j)) h) := wp_guard
theorem wn_div : Wp E (binF .FloorDiv (.int i) (.int j) h) Q = ((0 < j ∧ j < 1073741824) ∧ Q (.int (i / j)) h) := wp_guard
theorem wn_mod : Wp E (binF .Mod (.int i) (.int j) h) Q = (0 < j ∧ Q (.int (i % j)) h) := wp_guard
theorem wn_pow : Wp E (binF .Pow (.int i) (.int j) h) Q = ((0 ≤ j ∧ j ≤ 1000000 ∧ i.natAbs < 18446744073709551616) ∧ Q (.int (i ^ j.toNat)) h) := wp_guard
theorem wn_neg : Wp E (negF (.int i) h) Q = Q (.int (-i)) h := nrfl rfl
theorem wn_cat : Wp E (binF .Add (.tup xs) (.tup ys) h) Q = (xs.length + ys.length ≤ sizeLine ∧ Q (.tup (xs ++ ys)) h) := wp_guard
theorem wn_tmul : Wp E (binF .Mult (.tup xs) (.int j) h) Q = ((-9223372036854775808 ≤ j ∧ j ≤ 1000 ∧ xs.length ≤ 1000) ∧ Q (.tup (List.replicate j.toNat xs).flatten) h) := by
  rw [← p63]; exact wp_guard
theorem wn_lmul {l : Nat} : Wp E (binF .Mult (.loc l) (.int j) h) Q = ∃ xs, h[l]? = some (.lst xs) ∧ (-9223372036854775808 ≤ j ∧ j < 9223372036854775808 ∧ xs.length * j.toNat ≤ sizeLine) ∧ Q (.loc h.length) (h ++ [.lst (List.replicate j.toNat xs).flatten]) := by
  rw [← p63]
  show Wp E (match h[l]? with | some (.lst xs) => _ | _ => .bad) Q = _
  split
  · next ys e => rw [wp_guard, wp_ok]; exact propext ⟨fun q => ⟨ys, e, q⟩, fun ⟨zs, e2, q⟩ => by cases e.symm.trans e2; exact q⟩
  · next e => exact propext ⟨fun q => q.elim, fun ⟨zs, e2, _⟩ => (e _ e2).elim⟩
theorem wn_ladd {l m : Nat} : Wp E (binF .Add (.loc l) (.loc m) h) Q = ∃ xs, h[l]? = some (.lst xs) ∧ ∃ ys, h[m]? = some (.lst ys) ∧ xs.length + ys.length ≤ sizeLine ∧ Q (.loc h.length) (h ++ [.lst (xs ++ ys)]) := by
  show Wp E (match h[l]?, h[m]? with | some (.lst xs), some (.lst ys) => _ | _, _ => .bad) Q = _
  split
  · next xs ys e f => rw [wp_guard, wp_ok]; exact propext ⟨fun q => ⟨xs, e, ys, f, q⟩, fun ⟨zs, e2, us, f2, q⟩ => by cases e.symm.trans e2; cases f.symm.trans f2; exact q⟩
  · next e => exact propext ⟨fun q => q.elim, fun ⟨zs, e2, us, f2, _⟩ => (e _ _ e2 f2).elim⟩
theorem wc_lt : Wp E (cmpF .Lt (.int i) (.int j) h) Q = Q (.bl (decide (i < j))) h := nrfl rfl
theorem wc_le : Wp E (cmpF .LtE (.int i) (.int j) h) Q = Q (.bl (decide (i ≤ j))) h := nrfl rfl
theorem wc_gt : Wp E (cmpF .Gt (.int i) (.int j) h) Q = Q (.bl (decide (j < i))) h := nrfl rfl
theorem wc_ge : Wp E (cmpF .GtE (.int i) (.int j) h) Q = Q (.bl (decide (j ≤ i))) h := nrfl rfl
theorem wc_eq : Wp E (cmpF .Eq (.int i) (.int j) h) Q = Q (.bl (decide (i = j))) h := by
  show Q (.bl (PyData.eqv (.int i) (.int j))) h = _
  have : PyData.eqv (.int i) (.int j) = decide (i = j) := by
    show (i == j) = _
    exact (Bool.beq_eq_decide_eq i j)
  rw [this]
theorem wc_ne : Wp E (cmpF .NotEq (.int i) (.int j) h) Q = Q (.bl (decide (i ≠ j))) h := by
  show Q (.bl (!PyData.eqv (.int i) (.int j))) h = _
  have : (!PyData.eqv (.int i) (.int j)) = decide (i ≠ j) := by
    show (!(i == j)) = _
    rw [Bool.beq_eq_decide_eq, decide_not]
  rw [this]
theorem wc_isnon {d : D} : Wp E (cmpF .Is d .non h) Q = Q (.bl (isNon d)) h := by cases d <;> rfl
theorem wc_isnt {d : D} : Wp E (cmpF .IsNot d .non h) Q = Q (.bl (!isNon d)) h := by cases d <;> rfl
end

/-! ### places -/
section
variable {i : Int} {l : Nat} {xs : List D}
theorem wx_tup : Wp E (ixF (.tup xs) (.int i) h) Q = ∃ d, atI xs i = some d ∧ Q d h := by
  show Wp E (match atI xs i with | some d => _ | none => .bad) Q = _
  cases e : atI xs i with
  | none => exact propext ⟨fun q => q.elim, fun ⟨_, z, _⟩ => nomatch z⟩
  | some d => exact propext ⟨fun q => ⟨d, rfl, q⟩, fun ⟨d', z, q⟩ => by cases z; exact q⟩
theorem wx_loc : Wp E (ixF (.loc l) (.int i) h) Q = ∃ xs, items? h (.loc l) = some xs ∧ ∃ d, atI xs i = some d ∧ Q d h := by
  show Wp E (match (items? h (.loc l)).bind fun xs => atI xs i with | some d => _ | none => .bad) Q = _
  cases e : items? h (.loc l) with
  | none => exact propext ⟨fun q => q.elim, fun ⟨_, z, _⟩ => nomatch z⟩
  | some xs =>
    rw [Option.bind_some]
    cases f : atI xs i with
    | none => exact propext ⟨fun q => q.elim, fun ⟨ys, z, d, z2, q⟩ => by cases z; cases f.symm.trans z2⟩
    | some d => exact propext ⟨fun q => ⟨xs, rfl, d, f, q⟩, fun ⟨ys, z, d', z2, q⟩ => by cases z; cases f.symm.trans z2; exact q⟩
theorem items_lst {xs : List D} (e : h[l]? = some (.lst xs)) : items? h (.loc l) = some xs := by
  unfold items?; simp only [e]
theorem items_ro {xs : List D} (e : h[l]? = some (.ro xs)) : items? h (.loc l) = some xs := by
  unfold items?; simp only [e]
theorem items_tup : items? h (.tup xs) = some xs := nrfl rfl
theorem wl_tup {lo hi : Option Int} : Wp E (slF (.tup xs) lo hi h) Q = Q (.tup (cutD xs lo hi)) h := nrfl rfl
theorem wl_loc {lo hi : Option Int} : Wp E (slF (.loc l) lo hi h) Q = ∃ xs, items? h (.loc l) = some xs ∧ Q (.loc h.length) (h ++ [.lst (cutD xs lo hi)]) := by
  show Wp E (match items? h (.loc l) with | some xs => _ | none => .bad) Q = _
  cases e : items? h (.loc l) with
  | none => exact propext ⟨fun q => q.elim, fun ⟨_, z, _⟩ => nomatch z⟩
  | some xs => exact propext ⟨fun q => ⟨xs, rfl, q⟩, fun ⟨ys, z, q⟩ => by cases z; exact q⟩
theorem wv_tup : Wp E (revF (.tup xs) h) Q = Q (.tup xs.reverse) h := nrfl rfl
end

/-! ### built-ins -/
section
variable {i j : Int} {l : Nat} {d : D} {xs : List D} {n : String}
theorem wb_len_tup : Wp E (bltF .len [.tup xs] h) Q = Q (.int xs.length) h := nrfl rfl
theorem wb_len_loc : Wp E (bltF .len [.loc l] h) Q = ∃ xs, items? h (.loc l) = some xs ∧ Q (.int xs.length) h := by
  show Wp E (match items? h (.loc l) with | some xs => _ | none => .bad) Q = _
  cases e : items? h (.loc l) with
  | none => exact propext ⟨fun q => q.elim, fun ⟨_, z, _⟩ => nomatch z⟩
  | some xs => exact propext ⟨fun q => ⟨xs, rfl, q⟩, fun ⟨ys, z, q⟩ => by cases z; exact q⟩
theorem wb_int : Wp E (bltF .int [.int i] h) Q = Q (.int i) h := nrfl rfl
theorem wb_list : Wp E (bltF .list [d] h) Q = ∃ xs, items? h d = some xs ∧ Q (.loc h.length) (h ++ [.lst xs]) := by
  show Wp E (match items? h d with | some xs => _ | none => .bad) Q = _
  cases e : items? h d with
  | none => exact propext ⟨fun q => q.elim, fun ⟨_, z, _⟩ => nomatch z⟩
  | some xs => exact propext ⟨fun q => ⟨xs, rfl, q⟩, fun ⟨ys, z, q⟩ => by cases z; exact q⟩
theorem wb_tuple : Wp E (bltF .tuple [d] h) Q = ∃ xs, items? h d = some xs ∧ Q (.tup xs) h := by
  show Wp E (match items? h d with | some xs => _ | none => .bad) Q = _
  cases e : items? h d with
  | none => exact propext ⟨fun q => q.elim, fun ⟨_, z, _⟩ => nomatch z⟩
  | some xs => exact propext ⟨fun q => ⟨xs, rfl, q⟩, fun ⟨ys, z, q⟩ => by cases z; exact q⟩
theorem wb_sum : Wp E (bltF .sum [d] h) Q = ∃ ns : List Int, items? h d = some (ns.map D.int) ∧ Q (.int ns.sum) h := by
  show Wp E (match (items? h d).bind intsOf with | some ns => _ | none => .bad) Q = _
  cases e : items? h d with
  | none => exact propext ⟨fun q => q.elim, fun ⟨_, z, _⟩ => nomatch z⟩
  | some xs =>
    rw [Option.bind_some]
    cases f : intsOf xs with
    | none => exact propext ⟨fun q => q.elim, fun ⟨ns, z, _⟩ => by cases z; rw [intsOf_map] at f; cases f⟩
    | some ns =>
      have := intsOf_eq f
      subst this
      exact propext ⟨fun q => ⟨ns, rfl, q⟩, fun ⟨ms, z, q⟩ => by
        have e2 := congrArg intsOf (Option.some.inj z)
        rw [intsOf_map, intsOf_map] at e2
        cases e2
        exact q⟩
theorem wb_min : Wp E (bltF .min [.int i, .int j] h) Q = Q (.int (if j < i then j else i)) h := nrfl rfl
theorem wb_max : Wp E (bltF .max [.int i, .int j] h) Q = Q (.int (if j > i then j else i)) h := nrfl rfl
theorem wi_int_int : Wp E (bltF .isi [.int i, .ty "int"] h) Q = Q (.bl true) h := nrfl rfl
theorem wi_int_bool : Wp E (bltF .isi [.int i, .ty "bool"] h) Q = Q (.bl false) h := nrfl rfl
theorem wi_int_tup : Wp E (bltF .isi [.int i, .ty "tuple"] h) Q = Q (.bl false) h := nrfl rfl
theorem wi_tup_tup : Wp E (bltF .isi [.tup xs, .ty "tuple"] h) Q = Q (.bl true) h := nrfl rfl
theorem wi_tup_int : Wp E (bltF .isi [.tup xs, .ty "int"] h) Q = Q (.bl false) h := nrfl rfl
theorem ty_loc (e : h[l]? = some (.lst xs)) : tyName (.loc l) h = some "list" := by
  unfold tyName; simp only [e]
end

/-! ### methods -/
section
variable {l : Nat} {d : D} {i : Int}
theorem wm_append : Wp E (mthF .append (.loc l) [d] h) Q = ∃ xs, h[l]? = some (.lst xs) ∧ xs.length < sizeLine ∧ Q .non (h.set l (.lst (xs ++ [d]))) := by
  show Wp E (match h[l]? with | some (.lst xs) => _ | _ => .bad) Q = _
  split
  · next ys e => rw [wp_guard, wp_ok]; exact propext ⟨fun q => ⟨ys, e, q⟩, fun ⟨zs, e2, q⟩ => by cases e.symm.trans e2; exact q⟩
  · next e => exact propext ⟨fun q => q.elim, fun ⟨zs, e2, _⟩ => (e _ e2).elim⟩
theorem wm_extend {b : Nat} : Wp E (mthF .extend (.loc l) [.loc b] h) Q = ∃ xs, h[l]? = some (.lst xs) ∧ ∃ ys, h[b]? = some (.lst ys) ∧ xs.length + ys.length ≤ sizeLine ∧ Q .non (h.set l (.lst (xs ++ ys))) := by
  show Wp E (match h[l]?, h[b]? with | some (.lst xs), some (.lst ys) => _ | _, _ => .bad) Q = _
  split
  · next xs ys e f => rw [wp_guard, wp_ok]; exact propext ⟨fun q => ⟨xs, e, ys, f, q⟩, fun ⟨zs, e2, us, f2, q⟩ => by cases e.symm.trans e2; cases f.symm.trans f2; exact q⟩
  · next e => exact propext ⟨fun q => q.elim, fun ⟨zs, e2, us, f2, _⟩ => (e _ _ e2 f2).elim⟩
theorem wm_popAt : Wp E (mthF .popAt (.loc l) [.int i] h) Q = ∃ xs, h[l]? = some (.lst xs) ∧ (-9223372036854775808 ≤ i ∧ i < 9223372036854775808) ∧ ∃ k, seqIndex? i xs.length = some k ∧ ∃ d, xs[k]? = some d ∧ Q d (h.set l (.lst (xs.eraseIdx k))) := by
  rw [← p63]
  show Wp E (match h[l]? with | some (.lst xs) => _ | _ => .bad) Q = _
  split
  · next ys e =>
    rw [wp_guard]
    cases f : seqIndex? i ys.length with
    | none => exact propext ⟨fun q => q.2.elim, fun ⟨zs, e2, _, k, f2, _⟩ => by cases e.symm.trans e2; cases f.symm.trans f2⟩
    | some k =>
      dsimp only
      cases g : ys[k]? with
      | none => exact propext ⟨fun q => q.2.elim, fun ⟨zs, e2, _, k, f2, d, g2, _⟩ => by cases e.symm.trans e2; cases f.symm.trans f2; cases g.symm.trans g2⟩
      | some d => exact propext ⟨fun q => ⟨ys, e, q.1, k, f, d, g, q.2⟩, fun ⟨zs, e2, c, k, f2, d, g2, q⟩ => by cases e.symm.trans e2; cases f.symm.trans f2; cases g.symm.trans g2; exact ⟨c, q⟩⟩
  · next e => exact propext ⟨fun q => q.elim, fun ⟨zs, e2, _⟩ => (e _ e2).elim⟩
theorem wm_count {k : Int} : Wp E (mthF .count (.loc l) [.int k] h) Q = ∃ ns : List Int, items? h (.loc l) = some (ns.map D.int) ∧ Q (.int (ns.count k : Nat)) h := by
  show Wp E (match (items? h (.loc l)).bind intsOf with | some ns => _ | none => .bad) Q = _
  cases e : items? h (.loc l) with
  | none => exact propext ⟨fun q => q.elim, fun ⟨_, z, _⟩ => nomatch z⟩
  | some xs =>
    rw [Option.bind_some]
    cases f : intsOf xs with
    | none => exact propext ⟨fun q => q.elim, fun ⟨ns, z, _⟩ => by cases z; rw [intsOf_map] at f; cases f⟩
    | some ns =>
      have := intsOf_eq f
      subst this
      exact propext ⟨fun q => ⟨ns, rfl, q⟩, fun ⟨ms, z, q⟩ => by
        have e2 := congrArg intsOf (Option.some.inj z)
        rw [intsOf_map, intsOf_map] at e2
        cases e2
        exact q⟩
end
end

/-! ### statements -/
section
variable {E : Xc} {h : HA} {ρ : Env'} {call : Nat → List D → M D} {Q : Out → HA → Prop} {a b c : Dx.E} {s s2 : S} {ss : List S} {t : T}
/-- what follows a statement -/
def seqK (E : Xc) (g : Env' → M Out) (Q : Out → HA → Prop) : Out → HA → Prop
  | .nx ρ, h => Wp E (g ρ h) Q
  | o, h => Q o h
theorem seqK_nx {g : Env' → M Out} : seqK E g Q (.nx ρ) h = Wp E (g ρ h) Q := nrfl rfl
theorem seqK_rt {g : Env' → M Out} {d : D} : seqK E g Q (.rt d) h = Q (.rt d) h := nrfl rfl
theorem seqK_bk {g : Env' → M Out} : seqK E g Q (.bk ρ) h = Q (.bk ρ) h := nrfl rfl
theorem seqK_ct {g : Env' → M Out} : seqK E g Q (.ct ρ) h = Q (.ct ρ) h := nrfl rfl
theorem wss_nil : Wp E (evSs call [] ρ h) Q = Q (.nx ρ) h := nrfl rfl
theorem wss_one : Wp E (evSs call [s] ρ h) Q = Wp E (evS call s ρ h) Q := nrfl rfl
theorem wss_cons : Wp E (evSs call (s :: s2 :: ss) ρ h) Q = Wp E (evS call s ρ h) (seqK E (evSs call (s2 :: ss)) Q) := by
  show Wp E (M.bind _ _ h) Q = _
  rw [wp_bind]
  refine congrArg _ (funext fun o => funext fun h1 => ?_)
  cases o <;> rfl
theorem wq_expr : Wp E (evS call (.expr a) ρ h) Q = Wp E (evE call a ρ h) fun _ h1 => Q (.nx ρ) h1 := wp_bind
theorem wq_ret : Wp E (evS call (.ret a) ρ h) Q = Wp E (evE call a ρ h) fun d h1 => Q (.rt d) h1 := wp_bind
theorem wq_retN : Wp E (evS call .retN ρ h) Q = Q (.rt .non) h := nrfl rfl
theorem wq_pass : Wp E (evS call .pass ρ h) Q = Q (.nx ρ) h := nrfl rfl
theorem wq_brk : Wp E (evS call .brk ρ h) Q = Q (.bk ρ) h := nrfl rfl
theorem wq_cont : Wp E (evS call .cont ρ h) Q = Q (.ct ρ) h := nrfl rfl
theorem wq_asg {T : Tg} {f : Env' → M D} : Wp E (asgF T f ρ h) Q = Wp E (f ρ h) fun d h1 => ∃ ρ1, tgF T d ρ = some ρ1 ∧ Q (.nx ρ1) h1 := by
  unfold asgF
  rw [wp_bind]
  refine congrArg _ (funext fun d => funext fun h1 => ?_)
  rw [wp_bind]
  cases e : tgF T d ρ with
  | none => exact propext ⟨fun q => q.elim, fun ⟨_, z, _⟩ => nomatch z⟩
  | some x => exact propext ⟨fun q => ⟨x, rfl, q⟩, fun ⟨y, z, q⟩ => by cases z; exact q⟩
theorem wq_set {tg : Tg} : Wp E (evS call (.set tg a) ρ h) Q = Wp E (evE call a ρ h) fun d h1 => ∃ ρ1, tgF tg d ρ = some ρ1 ∧ Q (.nx ρ1) h1 := wq_asg
theorem wq_setc {i : Nat} {it : It'} {tg : Tg} {ifs : List T} {own : List (Str × Nat)} : Wp E (evS call (.setc i it tg ifs a own) ρ h) Q = Wp E (evE call (.comp it tg ifs a own) ρ h) fun d h1 => Q (.nx (ρ.set i (some d))) h1 := by
  show Wp E (asgF _ _ ρ h) Q = _
  rw [wq_asg]
  refine congrArg _ (funext fun d => funext fun h1 => propext ⟨fun ⟨_, z, q⟩ => by cases z; exact q, fun q => ⟨_, rfl, q⟩⟩)
theorem wq_par {i j : Nat} : Wp E (evS call (.par i j a b) ρ h) Q = Wp E (evE call a ρ h) fun d h1 => Wp E (evE call b ρ h1) fun e h2 => Q (.nx ((ρ.set i (some d)).set j (some e))) h2 := by
  show Wp E (M.bind _ _ h) Q = _
  rw [wp_bind]
  have : evEs call [a, b] ρ = consF (evE call a) (consF (evE call b) nilF) ρ := rfl
  rw [show Wp E (consF (evE call a) (consF (evE call b) nilF) ρ h) _ = Wp E (evEs call [a, b] ρ h) _ from rfl]
  simp only [ws_cons, ws_nil]
  rfl
theorem wq_setIx : Wp E (evS call (.setIx a b c) ρ h) Q = Wp E (evE call c ρ h) fun d h1 => Wp E (evE call a ρ h1) fun o h2 => Wp E (evE call b ρ h2) fun i h3 => Wp E (setIxF o i d h3) fun _ h4 => Q (.nx ρ) h4 := by
  show Wp E (M.bind _ _ h) Q = _
  rw [wp_bind]; simp only [wp_bind, wp_ok] <;> rfl
theorem ws_setIx {l : Nat} {k : Int} {d : D} {Q : Unit → HA → Prop} : Wp E (setIxF (.loc l) (.int k) d h) Q = ∃ xs, h[l]? = some (.lst xs) ∧ ∃ j, ixN xs.length k = some j ∧ Q () (h.set l (.lst (xs.set j d))) := by
  show Wp E (match h[l]? with | some (.lst xs) => _ | _ => .bad) Q = _
  split
  · next ys e =>
    cases f : ixN ys.length k with
    | none => exact propext ⟨fun q => q.elim, fun ⟨zs, e2, j, f2, _⟩ => by cases e.symm.trans e2; cases f.symm.trans f2⟩
    | some j => exact propext ⟨fun q => ⟨ys, e, j, f, q⟩, fun ⟨zs, e2, j', f2, q⟩ => by cases e.symm.trans e2; cases f.symm.trans f2; exact q⟩
  · next e => exact propext ⟨fun q => q.elim, fun ⟨zs, e2, _⟩ => (e _ e2).elim⟩
theorem wq_ife {as bs : List S} : Wp E (evS call (.ife t as bs) ρ h) Q = Wp E (evT call t ρ h) fun b h1 => if b = true then Wp E (evSs call as ρ h1) Q else Wp E (evSs call bs ρ h1) Q := by
  show Wp E (M.bind _ _ h) Q = _
  rw [wp_bind]; simp only [wp_ifM]
theorem wq_for {it : It'} {tg : Tg} {body : List S} : Wp E (evS call (.for_ it tg body) ρ h) Q = Wp E (evI call it ρ h) fun S h1 => Wp E (loopF S tg (evSs call body) S.items ρ h1) Q := wp_bind
theorem wq_whil {n : Nat} {body : List S} : Wp E (evS call (.whil n t body) ρ h) Q = Wp E (whileF (evT call t) (evSs call body) n ρ h) Q := nrfl rfl
theorem wq_never : Wp E (evS call .never ρ h) Q = False := nrfl rfl
def nones : Nat → Env'
  | 0 => []
  | n + 1 => none :: nones n
theorem startE_eq {n : Nat} {ds : List D} : startE n ds = ds.map some ++ nones (n - ds.length) := by
  unfold startE
  generalize n - ds.length = m
  refine congrArg _ ?_
  induction m with
  | zero => rfl
  | succ m ih => rw [List.replicate_succ, ih]; rfl
/-- a def's end -/
def outK (Q : D → HA → Prop) : Out → HA → Prop
  | .rt d, h => Q d h
  | .nx _, h => Q .non h
  | _, _ => False
theorem outK_rt {Q : D → HA → Prop} {d : D} : outK Q (.rt d) h = Q d h := nrfl rfl
theorem outK_nx {Q : D → HA → Prop} : outK Q (.nx ρ) h = Q .non h := nrfl rfl
theorem wp_call {Q : D → HA → Prop} {fs : Fns} {k i : Nat} {ds : List D} {f : Fn} (hf : fs.lookup i = some f) (hn : ds.length = f.n) (p : Wp E (evSs (callF fs k) f.body (startE f.N.length ds) h) (outK Q)) : Wp E (callF fs (k + 1) i ds h) Q := by
  unfold callF
  rw [hf]
  dsimp only
  rw [if_pos hn, wp_bind]
  refine p.mono fun o h1 q => ?_
  cases o <;> first | exact q | exact q.elim
end

/-! ### what loops walk -/
section
variable {E : Xc} {h : HA} {ρ : Env'} {call : Nat → List D → M D} {Q : Src → HA → Prop} {a b : Dx.E}
theorem wv_rng1 : Wp E (evI call (.rng1 a) ρ h) Q = Wp E (evE call a ρ h) fun d h1 => ∃ j, d = .int j ∧ (-4611686018427387904 ≤ j ∧ j < 4611686018427387904) ∧ Q (.rng 0 j.toNat) h1 := by
  show Wp E (M.bind _ _ h) Q = _
  rw [wp_bind, show Wp E (consF (evE call a) nilF ρ h) _ = Wp E (evEs call [a] ρ h) _ from rfl, ws_cons]
  refine congrArg _ (funext fun d => funext fun h1 => ?_)
  rw [ws_nil]
  cases d with
  | int j => show Wp E (if _ then _ else _) Q = _; rw [wp_guard, wp_ok, p62]; exact propext ⟨fun q => ⟨j, rfl, q⟩, fun ⟨j', z, q⟩ => by cases z; exact q⟩
  | _ => exact propext ⟨fun q => q.elim, fun ⟨_, z, _⟩ => nomatch z⟩
theorem wv_rng2 : Wp E (evI call (.rng2 a b) ρ h) Q = Wp E (evE call a ρ h) fun d h1 => Wp E (evE call b ρ h1) fun e h2 => ∃ i, d = .int i ∧ ∃ j, e = .int j ∧ (-4611686018427387904 ≤ i ∧ i < 4611686018427387904 ∧ -4611686018427387904 ≤ j ∧ j < 4611686018427387904) ∧ Q (.rng i (j - i).toNat) h2 := by
  show Wp E (M.bind _ _ h) Q = _
  rw [wp_bind, show Wp E (consF (evE call a) (consF (evE call b) nilF) ρ h) _ = Wp E (evEs call [a, b] ρ h) _ from rfl, ws_cons]
  refine congrArg _ (funext fun d => funext fun h1 => ?_)
  rw [ws_cons]
  refine congrArg _ (funext fun e => funext fun h2 => ?_)
  rw [ws_nil]
  cases d with
  | int i =>
    cases e with
    | int j => show Wp E (if _ then _ else _) Q = _; rw [wp_guard, wp_ok, p62]; exact propext ⟨fun q => ⟨i, rfl, j, rfl, q⟩, fun ⟨i', z, j', z2, q⟩ => by cases z; cases z2; exact q⟩
    | _ => exact propext ⟨fun q => q.elim, fun ⟨_, _, _, z, _⟩ => nomatch z⟩
  | _ => exact propext ⟨fun q => q.elim, fun ⟨_, z, _⟩ => nomatch z⟩
theorem wv_seq : Wp E (evI call (.seq a) ρ h) Q = Wp E (evE call a ρ h) fun d h1 => Wp E (seqOf d h1) Q := wp_bind
theorem wv_seq_tup {xs : List D} : Wp E (seqOf (.tup xs) h) Q = Q (.tup xs) h := nrfl rfl
theorem wv_seq_loc {l : Nat} : Wp E (seqOf (.loc l) h) Q = ∃ xs, items? h (.loc l) = some xs ∧ Q (.lst l xs) h := by
  show Wp E (match items? h (.loc l) with | some xs => _ | none => .bad) Q = _
  cases e : items? h (.loc l) with
  | none => exact propext ⟨fun q => q.elim, fun ⟨_, z, _⟩ => nomatch z⟩
  | some xs => exact propext ⟨fun q => ⟨xs, rfl, q⟩, fun ⟨ys, z, q⟩ => by cases z; exact q⟩
theorem wv_zip : Wp E (evI call (.zip a b) ρ h) Q = Wp E (evE call a ρ h) fun d h1 => Wp E (evE call b ρ h1) fun e h2 => Wp E (zipOf [d, e] h2) Q := by
  show Wp E (M.bind _ _ h) Q = _
  rw [wp_bind, show Wp E (consF (evE call a) (consF (evE call b) nilF) ρ h) _ = Wp E (evEs call [a, b] ρ h) _ from rfl, ws_cons]
  refine congrArg _ (funext fun d => funext fun h1 => ?_)
  rw [ws_cons]
  rfl
theorem wv_zip_tup {xs ys : List D} : Wp E (zipOf [.tup xs, .tup ys] h) Q = Q (.zipT xs ys) h := nrfl rfl
end

/-! ### which lists stay -/
structure Kp (S : List Nat) (h h' : HA) : Prop where
  len : h.length ≤ h'.length
  at_ : ∀ l, l < h.length → l ∉ S → h'[l]? = h[l]?
section
variable {S S' : List Nat} {h h1 h2 : HA} {l : Nat} {o : O}
theorem Kp.refl : Kp S h h := ⟨Nat.le_refl _, fun _ _ _ => rfl⟩
theorem Kp.trans (a : Kp S h h1) (b : Kp S h1 h2) : Kp S h h2 := ⟨Nat.le_trans a.len b.len, fun l hl hs => (b.at_ l (Nat.lt_of_lt_of_le hl a.len) hs).trans (a.at_ l hl hs)⟩
theorem Kp.mono (a : Kp S h h1) (i : ∀ l, l ∈ S → l ∈ S') : Kp S' h h1 := ⟨a.len, fun l hl hs => a.at_ l hl fun z => hs (i l z)⟩
theorem Kp.nil (a : Kp [] h h1) : Kp S h h1 := a.mono fun _ z => nomatch z
theorem Kp.app (a : Kp S h h1) : Kp S h (h1 ++ [o]) := ⟨by rw [List.length_append]; exact Nat.le_add_right_of_le a.len, fun l hl hs => by rw [List.getElem?_append_left (Nat.lt_of_lt_of_le hl a.len)]; exact a.at_ l hl hs⟩
theorem Kp.set (a : Kp S h h1) (i : l ∈ S ∨ h.length ≤ l) : Kp S h (h1.set l o) := ⟨by rw [List.length_set]; exact a.len, fun j hj hs => by
  have ne : l ≠ j := by
    rintro rfl
    rcases i with i | i
    · exact hs i
    · omega
  rw [List.getElem?_set_ne ne]
  exact a.at_ j hj hs⟩
theorem Kp.get (a : Kp S h h1) (e : h[l]? = some o) (hs : l ∉ S) : h1[l]? = some o := (a.at_ l (List.getElem?_eq_some_iff.mp e).1 hs).trans e
/-- as seen from an elder heap: what lies behind it may be changed -/
theorem Kp.over (a : Kp S h h1) (b : Kp S' h1 h2) (i : ∀ l, l ∈ S' → l ∈ S ∨ h.length ≤ l) : Kp S h h2 := ⟨Nat.le_trans a.len b.len, fun l hl hs => by
  rw [b.at_ l (Nat.lt_of_lt_of_le hl a.len) fun z => (i l z).elim hs (fun q => by omega)]
  exact a.at_ l hl hs⟩
theorem get_app (e : h[l]? = some o) {o' : O} : (h ++ [o'])[l]? = some o := by rw [List.getElem?_append_left (List.getElem?_eq_some_iff.mp e).1]; exact e
theorem get_new {o : O} : (h ++ [o])[h.length]? = some o := by rw [List.getElem?_append_right (Nat.le_refl _), Nat.sub_self]; rfl
theorem get_set {o' : O} (e : h[l]? = some o) : (h.set l o')[l]? = some o' := by rw [List.getElem?_set_self (List.getElem?_eq_some_iff.mp e).1]
theorem get_set_ne {l' : Nat} {o' : O} (e : h[l]? = some o) (ne : l' ≠ l) : (h.set l' o')[l]? = some o := by rw [List.getElem?_set_ne ne]; exact e
theorem get_lt' (e : h[l]? = some o) : l < h.length := (List.getElem?_eq_some_iff.mp e).1
end

/-! ### loops -/
section
variable {E : Xc} {h : HA} {ρ : Env'}
theorem wp_loop {S : Src} {T : Tg} {body : Env' → M Out} {Q : Out → HA → Prop} (I : Nat → Env' → HA → Prop) (chk : ∀ i ρ h, I i ρ h → S.chk h = true)
    (step : ∀ i x ρ h, S.items[i]? = some x → I i ρ h → ∃ ρ1, tgF T x ρ = some ρ1 ∧ Wp E (body ρ1 h) fun o h1 => match o with
      | .nx ρ2 => I (i + 1) ρ2 h1
      | .ct ρ2 => I (i + 1) ρ2 h1
      | .bk ρ2 => Q (.nx ρ2) h1
      | .rt d => Q (.rt d) h1)
    (done : ∀ ρ h, I S.items.length ρ h → Q (.nx ρ) h) : ∀ {ρ : Env'} {h : HA}, I 0 ρ h → Wp E (loopF S T body S.items ρ h) Q := by
  have key : ∀ (rest : List D) (i : Nat) (ρ : Env') (h : HA), S.items.drop i = rest → i + rest.length = S.items.length → I i ρ h → Wp E (loopF S T body rest ρ h) Q := by
    intro rest
    induction rest with
    | nil =>
      intro i ρ h hd hl hi
      unfold loopF
      rw [if_pos (chk i ρ h hi)]
      have : i = S.items.length := by simpa using hl
      subst this
      exact done ρ h hi
    | cons x xs ih =>
      intro i ρ h hd hl hi
      unfold loopF
      rw [if_pos (chk i ρ h hi)]
      have hx : S.items[i]? = some x := by
        have := congrArg (·[0]?) hd
        simp only [List.getElem?_drop, Nat.add_zero, List.getElem?_cons_zero] at this
        exact this
      obtain ⟨ρ1, e, p⟩ := step i x ρ h hx hi
      rw [e]
      dsimp only
      rw [wp_bind]
      have hd2 : S.items.drop (i + 1) = xs := by rw [← List.drop_drop, hd]; rfl
      have hl2 : i + 1 + xs.length = S.items.length := by rw [List.length_cons] at hl; omega
      refine p.mono fun o h1 q => ?_
      cases o with
      | nx ρ2 => exact ih (i + 1) ρ2 h1 hd2 hl2 q
      | ct ρ2 => exact ih (i + 1) ρ2 h1 hd2 hl2 q
      | bk ρ2 => exact q
      | rt d => exact q
  intro ρ h hi
  exact key S.items 0 ρ h rfl (by omega) hi
theorem wp_lcLoop {S : Src} {T : Tg} {test : Env' → M Bool} {elt : Env' → M D} {l : Nat} {Q : Unit → HA → Prop} (I : Nat → List D → HA → Prop) (chk : ∀ i acc h, I i acc h → S.chk h = true)
    (step : ∀ i x acc h, S.items[i]? = some x → I i acc h → ∃ ρ1, tgF T x ρ = some ρ1 ∧ Wp E (test ρ1 h) fun b h1 => if b = true then Wp E (elt ρ1 h1) fun d h2 => h2[l]? = some (.lst acc) ∧ acc.length < sizeLine ∧ I (i + 1) (acc ++ [d]) (h2.set l (.lst (acc ++ [d]))) else I (i + 1) acc h1)
    (done : ∀ acc h, I S.items.length acc h → Q () h) {h : HA} (h0 : I 0 [] h) : Wp E (lcLoop S T test elt l ρ S.items h) Q := by
  have key : ∀ (rest : List D) (i : Nat) (acc : List D) (h : HA), S.items.drop i = rest → i + rest.length = S.items.length → I i acc h → Wp E (lcLoop S T test elt l ρ rest h) Q := by
    intro rest
    induction rest with
    | nil =>
      intro i acc h hd hl hi
      unfold lcLoop
      rw [if_pos (chk i acc h hi)]
      have : i = S.items.length := by simpa using hl
      subst this
      exact done acc h hi
    | cons x xs ih =>
      intro i acc h hd hl hi
      unfold lcLoop
      rw [if_pos (chk i acc h hi)]
      have hx : S.items[i]? = some x := by
        have := congrArg (·[0]?) hd
        simp only [List.getElem?_drop, Nat.add_zero, List.getElem?_cons_zero] at this
        exact this
      obtain ⟨ρ1, e, p⟩ := step i x acc h hx hi
      rw [e]
      dsimp only
      rw [wp_bind]
      have hd2 : S.items.drop (i + 1) = xs := by rw [← List.drop_drop, hd]; rfl
      have hl2 : i + 1 + xs.length = S.items.length := by rw [List.length_cons] at hl; omega
      refine p.mono fun b h1 q => ?_
      split at q
      · next c =>
        rw [if_pos c, wp_bind]
        refine q.mono fun d h2 ⟨q1, q2, q3⟩ => ?_
        rw [wp_bind]
        show Wp E (mthF .append (.loc l) [d] h2) _
        rw [wm_append]
        exact ⟨acc, q1, q2, ih (i + 1) _ _ hd2 hl2 q3⟩
      · next c =>
        rw [if_neg c]
        exact ih (i + 1) _ _ hd2 hl2 q
  exact key S.items 0 [] h rfl (by omega) h0
theorem wp_noEx {α : Type} {x : M α} {Q : α → HA → Prop} (p : Wp (fun _ _ _ => False) (x h) Q) : Wp E (noEx x h) Q := by
  unfold noEx
  cases e : x h with
  | ok a h' => rw [e] at p; exact p
  | ex c w h' => rw [e] at p; exact p.elim
  | bad => rw [e] at p; exact p.elim
theorem we_comp {call : Nat → List D → M D} {Q : D → HA → Prop} {it : It'} {tg : Tg} {ifs : List T} {a : Dx.E} {own : List (Str × Nat)} : Wp E (evE call (.comp it tg ifs a own) ρ h) Q = Wp E (evI call it ρ h) fun S h1 => Wp E (noEx (lcLoop S tg (evTs call ifs) (evE call a) h1.length (wipeE ρ (own.map (·.2))) S.items) (h1 ++ [.lst []])) fun _ h2 => Q (.loc h1.length) h2 := by
  show Wp E (M.bind _ _ h) Q = _
  rw [wp_bind]
  refine congrArg _ (funext fun S => funext fun h1 => ?_)
  rw [wp_bind]
  rfl
theorem chk_kp {S : Src} {h h' : HA} (c : S.chk h = true) (k : Kp [] h h') : S.chk h' = true := by
  have st : ∀ l xs, still h l xs = true → still h' l xs = true := fun l xs e => still_of ((still_eq e).imp (fun z => k.get z (by simp)) (fun z => k.get z (by simp)))
  cases S with
  | lst l xs => exact st l xs c
  | zipL a b xs ys =>
    unfold Src.chk at c ⊢
    rw [Bool.and_eq_true] at c ⊢
    exact ⟨st _ _ c.1, st _ _ c.2⟩
  | enm l xs => exact st l xs c
  | _ => rfl
/-- a comprehension whose items change nothing -/
theorem wp_comp {S : Src} {T : Tg} {test : Env' → M Bool} {elt : Env' → M D} {h1 : HA} {Q : Unit → HA → Prop} (g : D → Option D) (chk : S.chk h1 = true) (small : S.items.length ≤ sizeLine)
    (step : ∀ x, x ∈ S.items → ∀ h', Kp [] h1 h' → ∃ ρ1, tgF T x ρ = some ρ1 ∧ Wp (fun _ _ _ => False) (test ρ1 h') fun b h2 => Kp [] h' h2 ∧ if b = true then Wp (fun _ _ _ => False) (elt ρ1 h2) fun d h3 => Kp [] h' h3 ∧ g x = some d else g x = none)
    (done : ∀ h', Kp [] h1 h' → h'[h1.length]? = some (.lst (S.items.filterMap g)) → Q () h') : Wp E (noEx (lcLoop S T test elt h1.length ρ S.items) (h1 ++ [.lst []])) Q := by
  refine wp_noEx (wp_lcLoop (fun i acc h' => acc = (S.items.take i).filterMap g ∧ Kp [] h1 h' ∧ h'[h1.length]? = some (.lst acc)) (fun i acc h' ⟨_, k, _⟩ => chk_kp chk k) (fun i x acc h' hx ⟨ea, k, ha⟩ => ?_) (fun acc h' ⟨ea, k, ha⟩ => ?_) ⟨rfl, Kp.refl.app, get_new⟩)
  · have hi : i < S.items.length := (List.getElem?_eq_some_iff.mp hx).1
    have tk : S.items.take (i + 1) = S.items.take i ++ [x] := by rw [List.take_add_one, hx]; rfl
    obtain ⟨ρ1, e, p⟩ := step x (List.mem_of_getElem? hx) h' k
    refine ⟨ρ1, e, p.mono fun b h2 ⟨k2, q⟩ => ?_⟩
    split at q
    · next c =>
      rw [if_pos c]
      refine q.mono fun d h3 ⟨k3, gd⟩ => ?_
      have ha3 : h3[h1.length]? = some (.lst acc) := k3.get ha (by simp)
      refine ⟨ha3, ?_, ?_, (k.trans k3).set (.inr (Nat.le_refl _)), get_set ha3⟩
      · rw [ea]
        refine Nat.lt_of_le_of_lt (List.length_filterMap_le _ _) ?_
        rw [List.length_take]
        omega
      · rw [tk, List.filterMap_append, ← ea]
        simp [gd]
    · next c =>
      rw [if_neg c]
      refine ⟨?_, k.trans k2, k2.get ha (by simp)⟩
      rw [tk, List.filterMap_append, ← ea]
      simp [q]
  · rw [List.take_length] at ea
    subst ea
    exact done h' k ha
end

section
variable {E : Xc}
theorem wp_while {t : Env' → M Bool} {body : Env' → M Out} {Q : Out → HA → Prop} (I : Nat → Env' → HA → Prop)
    (step : ∀ m ρ h, I m ρ h → Wp E (t ρ h) fun b h1 => if b = true then Wp E (body ρ h1) fun o h2 => (match o with
      | .nx ρ2 => ∃ m', m' < m ∧ I m' ρ2 h2
      | .ct ρ2 => ∃ m', m' < m ∧ I m' ρ2 h2
      | .bk ρ2 => Q (.nx ρ2) h2
      | .rt d => Q (.rt d) h2) else Q (.nx ρ) h1) : ∀ (n m : Nat) (ρ : Env') (h : HA), m < n → I m ρ h → Wp E (whileF t body n ρ h) Q
  | 0, m, ρ, h, hm, hi => absurd hm (Nat.not_lt_zero m)
  | n + 1, m, ρ, h, hm, hi => by
    unfold whileF
    rw [wp_bind]
    refine (step m ρ h hi).mono fun b h1 q => ?_
    split at q
    · next c =>
      rw [if_pos c, wp_bind]
      refine q.mono fun o h2 q2 => ?_
      cases o with
      | nx ρ2 => obtain ⟨m', lt, i2⟩ := q2; exact wp_while I step n m' ρ2 h2 (by omega) i2
      | ct ρ2 => obtain ⟨m', lt, i2⟩ := q2; exact wp_while I step n m' ρ2 h2 (by omega) i2
      | bk ρ2 => exact q2
      | rt d => exact q2
    · next c => rw [if_neg c]; exact q
end
end Dx

/-! Dy1: equality of plain data. -/
namespace Dx
open PySem L2
abbrev ti (xs : List Int) : D := .tup (xs.map D.int)
class Has (fs : Fns) (i : Nat) (f : Fn) : Prop where
  has : fs.lookup i = some f
theorem small2 {n : Nat} (c : n ≤ 1000000) : n ≤ sizeLine := by rw [sizeLine_eq]; omega
theorem eq_of_wp {α : Type} {r : R α} {x : α} {h : HA} (p : Wp (fun _ _ _ => False) r fun a h' => a = x ∧ h' = h) : r = .ok x h := by
  obtain ⟨a, h', e, rfl, rfl⟩ := p.ok
  exact e
theorem atI_of {α : Type} {xs : List α} {i : Int} {n : Nat} {x : α} (e : i = (n : Int)) (g : xs[n]? = some x) : atI xs i = some x := by
  subst e
  exact atI_nat g
theorem ti_at {xs : List Int} {i : Nat} (hi : i < xs.length) : atI (xs.map D.int) (i : Int) = some (D.int xs[i]) := atI_of rfl (by rw [List.getElem?_map, List.getElem?_eq_getElem hi]; rfl)
mutual
/-- plain data: numbers, texts, none, tuples of them, not deeper than n -/
def okD : Nat → D → Bool
  | _, .non => true
  | _, .int _ => true
  | _, .str _ => true
  | n + 1, .tup xs => okDs n xs
  | _, _ => false
def okDs : Nat → List D → Bool
  | _, [] => true
  | n, x :: xs => okD n x && okDs n xs
end
mutual
def pd : D → PyData
  | .non => .none
  | .int i => .int i
  | .str x => .str x
  | .tup xs => .tuple (pds xs)
  | _ => .none
def pds : List D → List PyData
  | [] => []
  | x :: xs => pd x :: pds xs
end
mutual
theorem toP_ok (h : HA) : ∀ (n : Nat) (d : D), okD n d = true → toP h n d = some (pd d)
  | _, .non, _ => by unfold toP pd; rfl
  | _, .int i, _ => by unfold toP pd; rfl
  | _, .str x, _ => by unfold toP pd; rfl
  | n + 1, .tup xs, e => by
    unfold okD at e
    unfold toP pd
    rw [toPs_ok h n xs e]; rfl
  | 0, .tup xs, e => by unfold okD at e; cases e
  | n, .bl b, e => by cases n <;> (unfold okD at e; cases e)
  | n, .loc b, e => by cases n <;> (unfold okD at e; cases e)
  | n, .ty b, e => by cases n <;> (unfold okD at e; cases e)
theorem toPs_ok (h : HA) : ∀ (n : Nat) (ds : List D), okDs n ds = true → ds.mapM (toP h n) = some (pds ds)
  | n, [], _ => by unfold pds; rfl
  | n, x :: xs, e => by
    unfold okDs at e
    rw [Bool.and_eq_true] at e
    unfold pds
    rw [List.mapM_cons, toP_ok h n x e.1, toPs_ok h n xs e.2]; rfl
end
mutual
theorem eqv_pd : ∀ (n m : Nat) (a b : D), okD n a = true → okD m b = true → PyData.eqv (pd a) (pd b) = D.beq a b
  | n, m, .non, b, e, f => by cases b <;> first | (unfold pd D.beq; rfl) | (cases m <;> (unfold okD at f; cases f)) 
  | n, m, .int i, b, e, f => by cases b <;> first | (unfold pd D.beq; rfl) | (cases m <;> (unfold okD at f; cases f)) | (unfold pd D.beq; unfold PyData.eqv; rfl)
  | n, m, .str i, b, e, f => by cases b <;> first | (unfold pd D.beq; rfl) | (cases m <;> (unfold okD at f; cases f)) | (unfold pd D.beq; unfold PyData.eqv; rfl)
  | n + 1, m, .tup xs, b, e, f => by
    cases b with
    | tup ys =>
      cases m with
      | zero => unfold okD at f; cases f
      | succ m =>
        unfold okD at e f
        unfold pd D.beq
        rw [PyData.eqv]
        exact eqv_pds n m xs ys e f
    | _ => first | (unfold pd D.beq; rfl) | (cases m <;> (unfold okD at f; cases f))
  | 0, m, .tup xs, b, e, f => by unfold okD at e; cases e
  | n, m, .bl _, b, e, f => by cases n <;> (unfold okD at e; cases e)
  | n, m, .loc _, b, e, f => by cases n <;> (unfold okD at e; cases e)
  | n, m, .ty _, b, e, f => by cases n <;> (unfold okD at e; cases e)
theorem eqv_pds : ∀ (n m : Nat) (a b : List D), okDs n a = true → okDs m b = true → PyData.eqvAll (pds a) (pds b) = D.beqs a b
  | n, m, [], b, e, f => by cases b <;> (unfold pds D.beqs PyData.eqvAll; rfl)
  | n, m, x :: xs, b, e, f => by
    cases b with
    | nil => unfold pds D.beqs PyData.eqvAll; rfl
    | cons y ys =>
      unfold okDs at e f
      rw [Bool.and_eq_true] at e f
      unfold pds D.beqs
      rw [PyData.eqvAll, eqv_pd n m x y e.1 f.1, eqv_pds n m xs ys e.2 f.2]
end
theorem beq_iff {a b : D} : D.beq a b = true ↔ a = b := ⟨D.beq_eq a b, fun e => e ▸ D.beq_refl a⟩
theorem beqs_iff {a b : List D} : D.beqs a b = true ↔ a = b := ⟨D.beqs_eq a b, fun e => e ▸ D.beqs_refl a⟩
theorem map_int_inj {xs ys : List Int} : xs.map D.int = ys.map D.int ↔ xs = ys := by
  constructor
  · intro e
    have := congrArg intsOf e
    rw [intsOf_map, intsOf_map] at this
    exact Option.some.inj this
  · intro e; rw [e]
theorem beqs_int {xs ys : List Int} : D.beqs (xs.map D.int) (ys.map D.int) = decide (xs = ys) := by
  rw [Bool.eq_iff_iff, beqs_iff, map_int_inj, decide_eq_true_eq]
theorem okDs_int {n : Nat} : ∀ xs : List Int, okDs n (xs.map D.int) = true
  | [] => by unfold okDs; rfl
  | x :: xs => by rw [List.map_cons]; unfold okDs; rw [okDs_int xs]; cases n <;> (unfold okD; rfl)
theorem okDs_all {n : Nat} : ∀ {xs : List D}, (∀ x ∈ xs, okD n x = true) → okDs n xs = true
  | [], _ => by unfold okDs; rfl
  | x :: xs, h => by unfold okDs; rw [h x List.mem_cons_self, okDs_all fun y hy => h y (List.mem_cons_of_mem _ hy)]; rfl
theorem beqs_nil {xs : List D} : D.beqs xs [] = xs.isEmpty := by cases xs <;> (unfold D.beqs; rfl)
theorem okD_ti {n : Nat} {xs : List Int} : okD (n + 1) (ti xs) = true := by unfold okD; exact okDs_int xs
section
variable {E : Xc} {h : HA} {Q : D → HA → Prop} {a b : D} {l m : Nat} {xs ys : List D}
theorem wc_eqD (ha : okD 40 a = true) (hb : okD 40 b = true) : Wp E (cmpF .Eq a b h) Q = Q (.bl (D.beq a b)) h := by
  show Wp E (eqF a b h) Q = _
  unfold eqF
  rw [toP_ok h 40 a ha, toP_ok h 40 b hb, ← eqv_pd 40 40 a b ha hb]; rfl
theorem wc_neD (ha : okD 40 a = true) (hb : okD 40 b = true) : Wp E (cmpF .NotEq a b h) Q = Q (.bl (!D.beq a b)) h := by
  show Wp E (neF a b h) Q = _
  unfold neF
  rw [toP_ok h 40 a ha, toP_ok h 40 b hb, ← eqv_pd 40 40 a b ha hb]; rfl
theorem toP_lst {n : Nat} (e : items? h (.loc l) = some xs) (o : okDs n xs = true) : toP h (n + 1) (.loc l) = some (.list (pds xs)) := by
  unfold items? at e
  unfold toP
  dsimp only at e
  split at e
  · next ys hy => cases e; simp only [hy, toPs_ok h n xs o]; rfl
  · next ys hy => cases e; simp only [hy, toPs_ok h n xs o]; rfl
  · cases e
theorem wc_eqL (e : items? h (.loc l) = some xs) (f : items? h (.loc m) = some ys) (ha : okDs 39 xs = true) (hb : okDs 39 ys = true) : Wp E (cmpF .Eq (.loc l) (.loc m) h) Q = Q (.bl (D.beqs xs ys)) h := by
  show Wp E (eqF _ _ h) Q = _
  unfold eqF
  rw [toP_lst e ha, toP_lst f hb, ← eqv_pds 39 39 xs ys ha hb]; rfl
theorem wc_neL (e : items? h (.loc l) = some xs) (f : items? h (.loc m) = some ys) (ha : okDs 39 xs = true) (hb : okDs 39 ys = true) : Wp E (cmpF .NotEq (.loc l) (.loc m) h) Q = Q (.bl (!D.beqs xs ys)) h := by
  show Wp E (neF _ _ h) Q = _
  unfold neF
  rw [toP_lst e ha, toP_lst f hb, ← eqv_pds 39 39 xs ys ha hb]; rfl
theorem any_pds (ha : okD 40 a = true) : ∀ {xs : List D}, okDs 40 xs = true → ((pds xs).any fun y => PyData.eqv y (pd a)) = xs.any fun y => D.beq y a
  | [], _ => by unfold pds; rfl
  | x :: xs, e => by
    unfold okDs at e
    rw [Bool.and_eq_true] at e
    unfold pds
    rw [List.any_cons, List.any_cons, any_pds ha e.2, eqv_pd 40 40 x a e.1 ha]
theorem wc_in (e : items? h b = some xs) (ha : okD 40 a = true) (hb : okDs 40 xs = true) : Wp E (cmpF .In a b h) Q = Q (.bl (xs.any fun y => D.beq y a)) h := by
  show Wp E (inF _ _ h) Q = _
  unfold inF
  rw [toP_ok h 40 a ha, e, Option.bind_some, toPs_ok h 40 xs hb, ← any_pds ha hb]; rfl
theorem wc_nin (e : items? h b = some xs) (ha : okD 40 a = true) (hb : okDs 40 xs = true) : Wp E (cmpF .NotIn a b h) Q = Q (.bl (!xs.any fun y => D.beq y a)) h := by
  show Wp E (ninF _ _ h) Q = _
  unfold ninF
  rw [toP_ok h 40 a ha, e, Option.bind_some, toPs_ok h 40 xs hb, ← any_pds ha hb]; rfl
theorem any_int {i : Int} : ∀ {ns : List Int}, ((ns.map D.int).any fun y => D.beq y (.int i)) = decide (i ∈ ns)
  | [] => rfl
  | n :: ns => by
    rw [List.map_cons, List.any_cons, any_int]
    have : D.beq (.int n) (.int i) = decide (n = i) := by rw [Bool.eq_iff_iff, beq_iff, decide_eq_true_eq]; exact ⟨fun e => by cases e; rfl, fun e => by rw [e]⟩
    rw [this, Bool.eq_iff_iff]
    simp only [Bool.or_eq_true, decide_eq_true_eq, List.mem_cons]
    exact ⟨fun q => q.imp Eq.symm id, fun q => q.imp Eq.symm id⟩
theorem wc_in_int {i : Int} {ns : List Int} (e : items? h b = some (ns.map D.int)) : Wp E (cmpF .In (.int i) b h) Q = Q (.bl (decide (i ∈ ns))) h := by
  rw [wc_in e rfl (okDs_int ns), any_int]
theorem wc_nin_int {i : Int} {ns : List Int} (e : items? h b = some (ns.map D.int)) : Wp E (cmpF .NotIn (.int i) b h) Q = Q (.bl (!decide (i ∈ ns))) h := by
  rw [wc_nin e rfl (okDs_int ns), any_int]
theorem cut_to {α : Type} {xs : List α} {j : Nat} : (xs.drop (HT.sIx xs.length 0 none)).take (HT.sIx xs.length xs.length (some (j : Int)) - HT.sIx xs.length 0 none) = xs.take j := by
  rw [HT.sIx_none, HT.sIx_nat, Nat.sub_zero, List.drop_zero]
  by_cases c : j ≤ xs.length
  · rw [Nat.min_eq_left c]
  · rw [Nat.min_eq_right (by omega), List.take_length, List.take_of_length_le (by omega)]
theorem cutD_to {xs : List D} {i : Int} {j : Nat} (e : i = j) : cutD xs none (some i) = xs.take j := by
  subst e
  exact cut_to
theorem cutD_int {xs : List Int} {j : Nat} : cutD (xs.map D.int) none (some (j : Int)) = (xs.take j).map D.int := by rw [cutD_to rfl, List.map_take]
theorem cut_from {xs : List D} {i : Int} {j : Nat} (e : i = j) : cutD xs (some i) none = xs.drop j := by
  subst e
  unfold cutD
  rw [HT.sIx_nat, HT.sIx_none]
  by_cases c : j ≤ xs.length
  · rw [Nat.min_eq_left c, List.take_of_length_le (by rw [List.length_drop]; omega)]
  · rw [Nat.min_eq_right (by omega), List.drop_of_length_le (by omega), List.drop_of_length_le (by omega), List.take_nil]
end
end Dx

/-! PGround: the ground and its makers. -/
namespace Dx
open PySem L2
variable {E : Xc} {fs : Fns} {k : Nat} {h : HA}
def wholeB (i lo hi : Int) : Bool := decide (lo ≤ i) && decide (i ≤ hi)
theorem wholeB_true {i lo hi : Int} : wholeB i lo hi = true ↔ lo ≤ i ∧ i ≤ hi := by unfold wholeB; simp
def PrimeI (n : Int) : Prop := 2 ≤ n ∧ ∀ d : Int, 2 ≤ d → d * d ≤ n → n % d ≠ 0
section
variable [hW : Has fs F.n_is_whole F.f_is_whole]
theorem is_whole_ok {i lo hi : Int} : callF fs (k + 1) F.n_is_whole [.int i, .int lo, .int hi] h = .ok (.bl (wholeB i lo hi)) h := by
  refine eq_of_wp (wp_call hW.has rfl ?_)
  unfold F.f_is_whole
  simp only [we_int, we_str, we_bl, we_non, we_ty, we_cst, we_var, we_bin, we_cmp, we_chain, we_neg, we_not, we_and1, we_and2, we_or1, we_or2, we_ife, we_tup, we_lst, we_ix, we_sl, wo_none, wo_some, we_blt, we_call, we_meth, we_rev, we_srt, we_lrg1, we_lrg2, we_trg1, ws_nil, ws_cons, wt_tr, wt_cmp, wt_chain, wt_not, wt_and1, wt_and2, wt_or1, wt_or2, wts_nil, wts_one, wr_bl, wr_non, wr_int, wr_tup, wn_add, wn_sub, wn_mul, wn_div, wn_mod, wn_pow, wn_neg, wn_cat, wn_tmul, wn_lmul, wn_ladd, wc_lt, wc_le, wc_gt, wc_ge, wc_eq, wc_ne, wc_isnon, wc_isnt, wx_tup, wx_loc, wl_tup, wl_loc, wv_tup, wb_len_tup, wb_len_loc, wb_int, wb_list, wb_tuple, wb_sum, wb_min, wb_max, wi_int_int, wi_int_bool, wi_int_tup, wi_tup_tup, wi_tup_int, wm_append, wm_extend, wm_popAt, wm_count, wss_nil, wss_one, wss_cons, seqK_nx, seqK_rt, seqK_bk, seqK_ct, wq_expr, wq_ret, wq_retN, wq_pass, wq_brk, wq_cont, wq_set, wq_setc, wq_par, wq_setIx, ws_setIx, wq_ife, wq_for, wq_whil, wq_never, outK_rt, outK_nx, wv_rng1, wv_rng2, wv_seq, wv_seq_tup, wv_seq_loc, wv_zip, wv_zip_tup, we_comp, wp_ok, wp_bad, wp_br, wp_bind, items_tup, tgF, setAll, startE_eq, nones, List.getElem?_cons_zero, List.getElem?_cons_succ, List.set_cons_zero, List.set_cons_succ, List.map_cons, List.map_nil, List.cons_append, List.nil_append, List.length_cons, List.length_nil, Nat.reduceAdd, Nat.reduceSub, Nat.reduceMul, Nat.reduceLT, Nat.reduceLeDiff, Nat.reduceEqDiff, Option.some.injEq, D.int.injEq, D.tup.injEq, D.loc.injEq, D.bl.injEq, exists_eq_left, exists_eq_left', exists_eq_right, true_and, and_true, if_true, if_false, ite_true, ite_false, reduceIte, Bool.false_eq_true, decide_eq_true_eq, eq_self, exists_const, Bool.not_true, Bool.not_false, Bool.not_eq_true', Bool.and_true, Bool.true_and, Bool.and_false, Bool.false_and, ne_eq, not_true_eq_false, not_false_eq_true, reduceCtorEq, Int.cast_ofNat_Int, Bool.not_eq_true, Bool.true_eq_false]
  unfold wholeB
  by_cases c : lo ≤ i
  · simp [c]
  · simp [c]
theorem is_whole_bl {b : Bool} {lo hi : Int} : callF fs (k + 1) F.n_is_whole [.bl b, .int lo, .int hi] h = .ok (.bl false) h := by
  refine eq_of_wp (wp_call hW.has rfl ?_)
  unfold F.f_is_whole
  simp only [we_int, we_str, we_bl, we_non, we_ty, we_cst, we_var, we_bin, we_cmp, we_chain, we_neg, we_not, we_and1, we_and2, we_or1, we_or2, we_ife, we_tup, we_lst, we_ix, we_sl, wo_none, wo_some, we_blt, we_call, we_meth, we_rev, we_srt, we_lrg1, we_lrg2, we_trg1, ws_nil, ws_cons, wt_tr, wt_cmp, wt_chain, wt_not, wt_and1, wt_and2, wt_or1, wt_or2, wts_nil, wts_one, wr_bl, wr_non, wr_int, wr_tup, wn_add, wn_sub, wn_mul, wn_div, wn_mod, wn_pow, wn_neg, wn_cat, wn_tmul, wn_lmul, wn_ladd, wc_lt, wc_le, wc_gt, wc_ge, wc_eq, wc_ne, wc_isnon, wc_isnt, wx_tup, wx_loc, wl_tup, wl_loc, wv_tup, wb_len_tup, wb_len_loc, wb_int, wb_list, wb_tuple, wb_sum, wb_min, wb_max, wi_int_int, wi_int_bool, wi_int_tup, wi_tup_tup, wi_tup_int, wm_append, wm_extend, wm_popAt, wm_count, wss_nil, wss_one, wss_cons, seqK_nx, seqK_rt, seqK_bk, seqK_ct, wq_expr, wq_ret, wq_retN, wq_pass, wq_brk, wq_cont, wq_set, wq_setc, wq_par, wq_setIx, ws_setIx, wq_ife, wq_for, wq_whil, wq_never, outK_rt, outK_nx, wv_rng1, wv_rng2, wv_seq, wv_seq_tup, wv_seq_loc, wv_zip, wv_zip_tup, we_comp, wp_ok, wp_bad, wp_br, wp_bind, items_tup, tgF, setAll, startE_eq, nones, List.getElem?_cons_zero, List.getElem?_cons_succ, List.set_cons_zero, List.set_cons_succ, List.map_cons, List.map_nil, List.cons_append, List.nil_append, List.length_cons, List.length_nil, Nat.reduceAdd, Nat.reduceSub, Nat.reduceMul, Nat.reduceLT, Nat.reduceLeDiff, Nat.reduceEqDiff, Option.some.injEq, D.int.injEq, D.tup.injEq, D.loc.injEq, D.bl.injEq, exists_eq_left, exists_eq_left', exists_eq_right, true_and, and_true, if_true, if_false, ite_true, ite_false, reduceIte, Bool.false_eq_true, decide_eq_true_eq, eq_self, exists_const, Bool.not_true, Bool.not_false, Bool.not_eq_true', Bool.and_true, Bool.true_and, Bool.and_false, Bool.false_and, ne_eq, not_true_eq_false, not_false_eq_true, reduceCtorEq, Int.cast_ofNat_Int, Bool.not_eq_true, Bool.true_eq_false]
  rw [show ∀ E Q, Wp E (bltF .isi [.bl b, .ty "int"] h) Q = Q (.bl true) h from fun _ _ => rfl]
  simp only [we_int, we_str, we_bl, we_non, we_ty, we_cst, we_var, we_bin, we_cmp, we_chain, we_neg, we_not, we_and1, we_and2, we_or1, we_or2, we_ife, we_tup, we_lst, we_ix, we_sl, wo_none, wo_some, we_blt, we_call, we_meth, we_rev, we_srt, we_lrg1, we_lrg2, we_trg1, ws_nil, ws_cons, wt_tr, wt_cmp, wt_chain, wt_not, wt_and1, wt_and2, wt_or1, wt_or2, wts_nil, wts_one, wr_bl, wr_non, wr_int, wr_tup, wn_add, wn_sub, wn_mul, wn_div, wn_mod, wn_pow, wn_neg, wn_cat, wn_tmul, wn_lmul, wn_ladd, wc_lt, wc_le, wc_gt, wc_ge, wc_eq, wc_ne, wc_isnon, wc_isnt, wx_tup, wx_loc, wl_tup, wl_loc, wv_tup, wb_len_tup, wb_len_loc, wb_int, wb_list, wb_tuple, wb_sum, wb_min, wb_max, wi_int_int, wi_int_bool, wi_int_tup, wi_tup_tup, wi_tup_int, wm_append, wm_extend, wm_popAt, wm_count, wss_nil, wss_one, wss_cons, seqK_nx, seqK_rt, seqK_bk, seqK_ct, wq_expr, wq_ret, wq_retN, wq_pass, wq_brk, wq_cont, wq_set, wq_setc, wq_par, wq_setIx, ws_setIx, wq_ife, wq_for, wq_whil, wq_never, outK_rt, outK_nx, wv_rng1, wv_rng2, wv_seq, wv_seq_tup, wv_seq_loc, wv_zip, wv_zip_tup, we_comp, wp_ok, wp_bad, wp_br, wp_bind, items_tup, tgF, setAll, startE_eq, nones, List.getElem?_cons_zero, List.getElem?_cons_succ, List.set_cons_zero, List.set_cons_succ, List.map_cons, List.map_nil, List.cons_append, List.nil_append, List.length_cons, List.length_nil, Nat.reduceAdd, Nat.reduceSub, Nat.reduceMul, Nat.reduceLT, Nat.reduceLeDiff, Nat.reduceEqDiff, Option.some.injEq, D.int.injEq, D.tup.injEq, D.loc.injEq, D.bl.injEq, exists_eq_left, exists_eq_left', exists_eq_right, true_and, and_true, if_true, if_false, ite_true, ite_false, reduceIte, Bool.false_eq_true, decide_eq_true_eq, eq_self, exists_const, Bool.not_true, Bool.not_false, Bool.not_eq_true', Bool.and_true, Bool.true_and, Bool.and_false, Bool.false_and, ne_eq, not_true_eq_false, not_false_eq_true, reduceCtorEq, Int.cast_ofNat_Int, Bool.not_eq_true, Bool.true_eq_false]
  rw [show ∀ E Q, Wp E (bltF .isi [.bl b, .ty "bool"] h) Q = Q (.bl true) h from fun _ _ => rfl]
  simp only [we_int, we_str, we_bl, we_non, we_ty, we_cst, we_var, we_bin, we_cmp, we_chain, we_neg, we_not, we_and1, we_and2, we_or1, we_or2, we_ife, we_tup, we_lst, we_ix, we_sl, wo_none, wo_some, we_blt, we_call, we_meth, we_rev, we_srt, we_lrg1, we_lrg2, we_trg1, ws_nil, ws_cons, wt_tr, wt_cmp, wt_chain, wt_not, wt_and1, wt_and2, wt_or1, wt_or2, wts_nil, wts_one, wr_bl, wr_non, wr_int, wr_tup, wn_add, wn_sub, wn_mul, wn_div, wn_mod, wn_pow, wn_neg, wn_cat, wn_tmul, wn_lmul, wn_ladd, wc_lt, wc_le, wc_gt, wc_ge, wc_eq, wc_ne, wc_isnon, wc_isnt, wx_tup, wx_loc, wl_tup, wl_loc, wv_tup, wb_len_tup, wb_len_loc, wb_int, wb_list, wb_tuple, wb_sum, wb_min, wb_max, wi_int_int, wi_int_bool, wi_int_tup, wi_tup_tup, wi_tup_int, wm_append, wm_extend, wm_popAt, wm_count, wss_nil, wss_one, wss_cons, seqK_nx, seqK_rt, seqK_bk, seqK_ct, wq_expr, wq_ret, wq_retN, wq_pass, wq_brk, wq_cont, wq_set, wq_setc, wq_par, wq_setIx, ws_setIx, wq_ife, wq_for, wq_whil, wq_never, outK_rt, outK_nx, wv_rng1, wv_rng2, wv_seq, wv_seq_tup, wv_seq_loc, wv_zip, wv_zip_tup, we_comp, wp_ok, wp_bad, wp_br, wp_bind, items_tup, tgF, setAll, startE_eq, nones, List.getElem?_cons_zero, List.getElem?_cons_succ, List.set_cons_zero, List.set_cons_succ, List.map_cons, List.map_nil, List.cons_append, List.nil_append, List.length_cons, List.length_nil, Nat.reduceAdd, Nat.reduceSub, Nat.reduceMul, Nat.reduceLT, Nat.reduceLeDiff, Nat.reduceEqDiff, Option.some.injEq, D.int.injEq, D.tup.injEq, D.loc.injEq, D.bl.injEq, exists_eq_left, exists_eq_left', exists_eq_right, true_and, and_true, if_true, if_false, ite_true, ite_false, reduceIte, Bool.false_eq_true, decide_eq_true_eq, eq_self, exists_const, Bool.not_true, Bool.not_false, Bool.not_eq_true', Bool.and_true, Bool.true_and, Bool.and_false, Bool.false_and, ne_eq, not_true_eq_false, not_false_eq_true, reduceCtorEq, Int.cast_ofNat_Int, Bool.not_eq_true, Bool.true_eq_false]
theorem is_whole_tup {xs : List D} {lo hi : Int} : callF fs (k + 1) F.n_is_whole [.tup xs, .int lo, .int hi] h = .ok (.bl false) h := by
  refine eq_of_wp (wp_call hW.has rfl ?_)
  unfold F.f_is_whole
  simp only [we_int, we_str, we_bl, we_non, we_ty, we_cst, we_var, we_bin, we_cmp, we_chain, we_neg, we_not, we_and1, we_and2, we_or1, we_or2, we_ife, we_tup, we_lst, we_ix, we_sl, wo_none, wo_some, we_blt, we_call, we_meth, we_rev, we_srt, we_lrg1, we_lrg2, we_trg1, ws_nil, ws_cons, wt_tr, wt_cmp, wt_chain, wt_not, wt_and1, wt_and2, wt_or1, wt_or2, wts_nil, wts_one, wr_bl, wr_non, wr_int, wr_tup, wn_add, wn_sub, wn_mul, wn_div, wn_mod, wn_pow, wn_neg, wn_cat, wn_tmul, wn_lmul, wn_ladd, wc_lt, wc_le, wc_gt, wc_ge, wc_eq, wc_ne, wc_isnon, wc_isnt, wx_tup, wx_loc, wl_tup, wl_loc, wv_tup, wb_len_tup, wb_len_loc, wb_int, wb_list, wb_tuple, wb_sum, wb_min, wb_max, wi_int_int, wi_int_bool, wi_int_tup, wi_tup_tup, wi_tup_int, wm_append, wm_extend, wm_popAt, wm_count, wss_nil, wss_one, wss_cons, seqK_nx, seqK_rt, seqK_bk, seqK_ct, wq_expr, wq_ret, wq_retN, wq_pass, wq_brk, wq_cont, wq_set, wq_setc, wq_par, wq_setIx, ws_setIx, wq_ife, wq_for, wq_whil, wq_never, outK_rt, outK_nx, wv_rng1, wv_rng2, wv_seq, wv_seq_tup, wv_seq_loc, wv_zip, wv_zip_tup, we_comp, wp_ok, wp_bad, wp_br, wp_bind, items_tup, tgF, setAll, startE_eq, nones, List.getElem?_cons_zero, List.getElem?_cons_succ, List.set_cons_zero, List.set_cons_succ, List.map_cons, List.map_nil, List.cons_append, List.nil_append, List.length_cons, List.length_nil, Nat.reduceAdd, Nat.reduceSub, Nat.reduceMul, Nat.reduceLT, Nat.reduceLeDiff, Nat.reduceEqDiff, Option.some.injEq, D.int.injEq, D.tup.injEq, D.loc.injEq, D.bl.injEq, exists_eq_left, exists_eq_left', exists_eq_right, true_and, and_true, if_true, if_false, ite_true, ite_false, reduceIte, Bool.false_eq_true, decide_eq_true_eq, eq_self, exists_const, Bool.not_true, Bool.not_false, Bool.not_eq_true', Bool.and_true, Bool.true_and, Bool.and_false, Bool.false_and, ne_eq, not_true_eq_false, not_false_eq_true, reduceCtorEq, Int.cast_ofNat_Int, Bool.not_eq_true, Bool.true_eq_false]
variable [hP : Has fs F.n_is_prime F.f_is_prime]
theorem is_prime_ok {n : Int} (hn : n ≤ 65521) (hp : PrimeI n) : callF fs (k + 2) F.n_is_prime [.int n] h = .ok (.bl true) h := by
  refine eq_of_wp (wp_call hP.has rfl ?_)
  unfold F.f_is_prime
  simp only [we_int, we_str, we_bl, we_non, we_ty, we_cst, we_var, we_bin, we_cmp, we_chain, we_neg, we_not, we_and1, we_and2, we_or1, we_or2, we_ife, we_tup, we_lst, we_ix, we_sl, wo_none, wo_some, we_blt, we_call, we_meth, we_rev, we_srt, we_lrg1, we_lrg2, we_trg1, ws_nil, ws_cons, wt_tr, wt_cmp, wt_chain, wt_not, wt_and1, wt_and2, wt_or1, wt_or2, wts_nil, wts_one, wr_bl, wr_non, wr_int, wr_tup, wn_add, wn_sub, wn_mul, wn_div, wn_mod, wn_pow, wn_neg, wn_cat, wn_tmul, wn_lmul, wn_ladd, wc_lt, wc_le, wc_gt, wc_ge, wc_eq, wc_ne, wc_isnon, wc_isnt, wx_tup, wx_loc, wl_tup, wl_loc, wv_tup, wb_len_tup, wb_len_loc, wb_int, wb_list, wb_tuple, wb_sum, wb_min, wb_max, wi_int_int, wi_int_bool, wi_int_tup, wi_tup_tup, wi_tup_int, wm_append, wm_extend, wm_popAt, wm_count, wss_nil, wss_one, wss_cons, seqK_nx, seqK_rt, seqK_bk, seqK_ct, wq_expr, wq_ret, wq_retN, wq_pass, wq_brk, wq_cont, wq_set, wq_setc, wq_par, wq_setIx, ws_setIx, wq_ife, wq_for, wq_whil, wq_never, outK_rt, outK_nx, wv_rng1, wv_rng2, wv_seq, wv_seq_tup, wv_seq_loc, wv_zip, wv_zip_tup, we_comp, wp_ok, wp_bad, wp_br, wp_bind, items_tup, tgF, setAll, startE_eq, nones, List.getElem?_cons_zero, List.getElem?_cons_succ, List.set_cons_zero, List.set_cons_succ, List.map_cons, List.map_nil, List.cons_append, List.nil_append, List.length_cons, List.length_nil, Nat.reduceAdd, Nat.reduceSub, Nat.reduceMul, Nat.reduceLT, Nat.reduceLeDiff, Nat.reduceEqDiff, Option.some.injEq, D.int.injEq, D.tup.injEq, D.loc.injEq, D.bl.injEq, exists_eq_left, exists_eq_left', exists_eq_right, true_and, and_true, if_true, if_false, ite_true, ite_false, reduceIte, Bool.false_eq_true, decide_eq_true_eq, eq_self, exists_const, Bool.not_true, Bool.not_false, Bool.not_eq_true', Bool.and_true, Bool.true_and, Bool.and_false, Bool.false_and, ne_eq, not_true_eq_false, not_false_eq_true, reduceCtorEq, Int.cast_ofNat_Int, Bool.not_eq_true, Bool.true_eq_false, is_whole_ok, show wholeB n 2 65521 = true from wholeB_true.mpr ⟨hp.1, hn⟩]
  refine wp_while (fun m ρ h' => ∃ d : Int, ρ = [some (.int n), some (.int d)] ∧ 2 ≤ d ∧ d ≤ 257 ∧ m = (257 - d).toNat ∧ h' = h) (fun m ρ h' ⟨d, e, d2, d3, em, eh⟩ => ?_) 300 255 _ _ (by omega) ⟨2, rfl, by omega, by omega, rfl, rfl⟩
  subst e eh
  simp only [we_int, we_str, we_bl, we_non, we_ty, we_cst, we_var, we_bin, we_cmp, we_chain, we_neg, we_not, we_and1, we_and2, we_or1, we_or2, we_ife, we_tup, we_lst, we_ix, we_sl, wo_none, wo_some, we_blt, we_call, we_meth, we_rev, we_srt, we_lrg1, we_lrg2, we_trg1, ws_nil, ws_cons, wt_tr, wt_cmp, wt_chain, wt_not, wt_and1, wt_and2, wt_or1, wt_or2, wts_nil, wts_one, wr_bl, wr_non, wr_int, wr_tup, wn_add, wn_sub, wn_mul, wn_div, wn_mod, wn_pow, wn_neg, wn_cat, wn_tmul, wn_lmul, wn_ladd, wc_lt, wc_le, wc_gt, wc_ge, wc_eq, wc_ne, wc_isnon, wc_isnt, wx_tup, wx_loc, wl_tup, wl_loc, wv_tup, wb_len_tup, wb_len_loc, wb_int, wb_list, wb_tuple, wb_sum, wb_min, wb_max, wi_int_int, wi_int_bool, wi_int_tup, wi_tup_tup, wi_tup_int, wm_append, wm_extend, wm_popAt, wm_count, wss_nil, wss_one, wss_cons, seqK_nx, seqK_rt, seqK_bk, seqK_ct, wq_expr, wq_ret, wq_retN, wq_pass, wq_brk, wq_cont, wq_set, wq_setc, wq_par, wq_setIx, ws_setIx, wq_ife, wq_for, wq_whil, wq_never, outK_rt, outK_nx, wv_rng1, wv_rng2, wv_seq, wv_seq_tup, wv_seq_loc, wv_zip, wv_zip_tup, we_comp, wp_ok, wp_bad, wp_br, wp_bind, items_tup, tgF, setAll, startE_eq, nones, List.getElem?_cons_zero, List.getElem?_cons_succ, List.set_cons_zero, List.set_cons_succ, List.map_cons, List.map_nil, List.cons_append, List.nil_append, List.length_cons, List.length_nil, Nat.reduceAdd, Nat.reduceSub, Nat.reduceMul, Nat.reduceLT, Nat.reduceLeDiff, Nat.reduceEqDiff, Option.some.injEq, D.int.injEq, D.tup.injEq, D.loc.injEq, D.bl.injEq, exists_eq_left, exists_eq_left', exists_eq_right, true_and, and_true, if_true, if_false, ite_true, ite_false, reduceIte, Bool.false_eq_true, decide_eq_true_eq, eq_self, exists_const, Bool.not_true, Bool.not_false, Bool.not_eq_true', Bool.and_true, Bool.true_and, Bool.and_false, Bool.false_and, ne_eq, not_true_eq_false, not_false_eq_true, reduceCtorEq, Int.cast_ofNat_Int, Bool.not_eq_true, Bool.true_eq_false]
  have dd : mulOk d d = true := by unfold mulOk; simp; omega
  refine ⟨dd, ?_⟩
  split
  · next c =>
    have hd : n % d ≠ 0 := hp.2 d d2 c
    refine ⟨by omega, ?_⟩
    rw [if_neg hd]
    have h256 : d ≤ 256 := by
      by_cases z : d ≤ 256
      · exact z
      · have : 257 * 257 ≤ d * d := Int.mul_le_mul (by omega) (by omega) (by omega) (by omega)
        omega
    exact ⟨(257 - (d + 1)).toNat, by omega, d + 1, rfl, by omega, by omega, rfl⟩
  · trivial
variable [hA : Has fs F.n_are_points F.f_are_points]
theorem are_points_ok {p : Int} {xs : List Int} (h1 : 1 ≤ xs.length) (h8 : xs.length ≤ 8) (hr : ∀ x ∈ xs, 0 ≤ x ∧ x ≤ p) (hd : xs.Nodup) : callF fs (k + 2) F.n_are_points [.int p, ti xs] h = .ok (.bl true) h := by
  refine eq_of_wp (wp_call hA.has rfl ?_)
  unfold F.f_are_points
  simp only [we_int, we_str, we_bl, we_non, we_ty, we_cst, we_var, we_bin, we_cmp, we_chain, we_neg, we_not, we_and1, we_and2, we_or1, we_or2, we_ife, we_tup, we_lst, we_ix, we_sl, wo_none, wo_some, we_blt, we_call, we_meth, we_rev, we_srt, we_lrg1, we_lrg2, we_trg1, ws_nil, ws_cons, wt_tr, wt_cmp, wt_chain, wt_not, wt_and1, wt_and2, wt_or1, wt_or2, wts_nil, wts_one, wr_bl, wr_non, wr_int, wr_tup, wn_add, wn_sub, wn_mul, wn_div, wn_mod, wn_pow, wn_neg, wn_cat, wn_tmul, wn_lmul, wn_ladd, wc_lt, wc_le, wc_gt, wc_ge, wc_eq, wc_ne, wc_isnon, wc_isnt, wx_tup, wx_loc, wl_tup, wl_loc, wv_tup, wb_len_tup, wb_len_loc, wb_int, wb_list, wb_tuple, wb_sum, wb_min, wb_max, wi_int_int, wi_int_bool, wi_int_tup, wi_tup_tup, wi_tup_int, wm_append, wm_extend, wm_popAt, wm_count, wss_nil, wss_one, wss_cons, seqK_nx, seqK_rt, seqK_bk, seqK_ct, wq_expr, wq_ret, wq_retN, wq_pass, wq_brk, wq_cont, wq_set, wq_setc, wq_par, wq_setIx, ws_setIx, wq_ife, wq_for, wq_whil, wq_never, outK_rt, outK_nx, wv_rng1, wv_rng2, wv_seq, wv_seq_tup, wv_seq_loc, wv_zip, wv_zip_tup, we_comp, wp_ok, wp_bad, wp_br, wp_bind, items_tup, tgF, setAll, startE_eq, nones, List.getElem?_cons_zero, List.getElem?_cons_succ, List.set_cons_zero, List.set_cons_succ, List.map_cons, List.map_nil, List.cons_append, List.nil_append, List.length_cons, List.length_nil, Nat.reduceAdd, Nat.reduceSub, Nat.reduceMul, Nat.reduceLT, Nat.reduceLeDiff, Nat.reduceEqDiff, Option.some.injEq, D.int.injEq, D.tup.injEq, D.loc.injEq, D.bl.injEq, exists_eq_left, exists_eq_left', exists_eq_right, true_and, and_true, if_true, if_false, ite_true, ite_false, reduceIte, Bool.false_eq_true, decide_eq_true_eq, eq_self, exists_const, Bool.not_true, Bool.not_false, Bool.not_eq_true', Bool.and_true, Bool.true_and, Bool.and_false, Bool.false_and, ne_eq, not_true_eq_false, not_false_eq_true, reduceCtorEq, Int.cast_ofNat_Int, Bool.not_eq_true, Bool.true_eq_false, List.length_map]
  rw [if_pos (by omega), if_neg (by simp; omega)]
  refine ⟨by omega, ?_⟩
  refine wp_loop (fun i ρ h' => (∃ x2, ρ = [some (.int p), some (ti xs), x2]) ∧ h' = h) (fun _ _ _ _ => rfl) (fun i x ρ h' hx ⟨⟨x2, e⟩, eh⟩ => ?_) (fun ρ h' ⟨⟨x2, e⟩, eh⟩ => ?_) ⟨⟨none, rfl⟩, rfl⟩
  · subst e eh
    have hi : i < xs.length := by
      have := (List.getElem?_eq_some_iff.mp hx).1
      simpa [Src.items] using this
    have ex : x = .int (i : Int) := by
      simp [Src.items, hi] at hx
      exact hx.symm
    subst ex
    refine ⟨_, rfl, ?_⟩
    simp only [we_int, we_str, we_bl, we_non, we_ty, we_cst, we_var, we_bin, we_cmp, we_chain, we_neg, we_not, we_and1, we_and2, we_or1, we_or2, we_ife, we_tup, we_lst, we_ix, we_sl, wo_none, wo_some, we_blt, we_call, we_meth, we_rev, we_srt, we_lrg1, we_lrg2, we_trg1, ws_nil, ws_cons, wt_tr, wt_cmp, wt_chain, wt_not, wt_and1, wt_and2, wt_or1, wt_or2, wts_nil, wts_one, wr_bl, wr_non, wr_int, wr_tup, wn_add, wn_sub, wn_mul, wn_div, wn_mod, wn_pow, wn_neg, wn_cat, wn_tmul, wn_lmul, wn_ladd, wc_lt, wc_le, wc_gt, wc_ge, wc_eq, wc_ne, wc_isnon, wc_isnt, wx_tup, wx_loc, wl_tup, wl_loc, wv_tup, wb_len_tup, wb_len_loc, wb_int, wb_list, wb_tuple, wb_sum, wb_min, wb_max, wi_int_int, wi_int_bool, wi_int_tup, wi_tup_tup, wi_tup_int, wm_append, wm_extend, wm_popAt, wm_count, wss_nil, wss_one, wss_cons, seqK_nx, seqK_rt, seqK_bk, seqK_ct, wq_expr, wq_ret, wq_retN, wq_pass, wq_brk, wq_cont, wq_set, wq_setc, wq_par, wq_setIx, ws_setIx, wq_ife, wq_for, wq_whil, wq_never, outK_rt, outK_nx, wv_rng1, wv_rng2, wv_seq, wv_seq_tup, wv_seq_loc, wv_zip, wv_zip_tup, we_comp, wp_ok, wp_bad, wp_br, wp_bind, items_tup, tgF, setAll, startE_eq, nones, List.getElem?_cons_zero, List.getElem?_cons_succ, List.set_cons_zero, List.set_cons_succ, List.map_cons, List.map_nil, List.cons_append, List.nil_append, List.length_cons, List.length_nil, Nat.reduceAdd, Nat.reduceSub, Nat.reduceMul, Nat.reduceLT, Nat.reduceLeDiff, Nat.reduceEqDiff, Option.some.injEq, D.int.injEq, D.tup.injEq, D.loc.injEq, D.bl.injEq, exists_eq_left, exists_eq_left', exists_eq_right, true_and, and_true, if_true, if_false, ite_true, ite_false, reduceIte, Bool.false_eq_true, decide_eq_true_eq, eq_self, exists_const, Bool.not_true, Bool.not_false, Bool.not_eq_true', Bool.and_true, Bool.true_and, Bool.and_false, Bool.false_and, ne_eq, not_true_eq_false, not_false_eq_true, reduceCtorEq, Int.cast_ofNat_Int, Bool.not_eq_true, Bool.true_eq_false, ti_at hi, is_whole_ok]
    have ok := hr _ (List.getElem_mem hi)
    rw [show wholeB xs[i] 0 p = true from wholeB_true.mpr ok, if_neg (by simp)]
    simp only [we_int, we_str, we_bl, we_non, we_ty, we_cst, we_var, we_bin, we_cmp, we_chain, we_neg, we_not, we_and1, we_and2, we_or1, we_or2, we_ife, we_tup, we_lst, we_ix, we_sl, wo_none, wo_some, we_blt, we_call, we_meth, we_rev, we_srt, we_lrg1, we_lrg2, we_trg1, ws_nil, ws_cons, wt_tr, wt_cmp, wt_chain, wt_not, wt_and1, wt_and2, wt_or1, wt_or2, wts_nil, wts_one, wr_bl, wr_non, wr_int, wr_tup, wn_add, wn_sub, wn_mul, wn_div, wn_mod, wn_pow, wn_neg, wn_cat, wn_tmul, wn_lmul, wn_ladd, wc_lt, wc_le, wc_gt, wc_ge, wc_eq, wc_ne, wc_isnon, wc_isnt, wx_tup, wx_loc, wl_tup, wl_loc, wv_tup, wb_len_tup, wb_len_loc, wb_int, wb_list, wb_tuple, wb_sum, wb_min, wb_max, wi_int_int, wi_int_bool, wi_int_tup, wi_tup_tup, wi_tup_int, wm_append, wm_extend, wm_popAt, wm_count, wss_nil, wss_one, wss_cons, seqK_nx, seqK_rt, seqK_bk, seqK_ct, wq_expr, wq_ret, wq_retN, wq_pass, wq_brk, wq_cont, wq_set, wq_setc, wq_par, wq_setIx, ws_setIx, wq_ife, wq_for, wq_whil, wq_never, outK_rt, outK_nx, wv_rng1, wv_rng2, wv_seq, wv_seq_tup, wv_seq_loc, wv_zip, wv_zip_tup, we_comp, wp_ok, wp_bad, wp_br, wp_bind, items_tup, tgF, setAll, startE_eq, nones, List.getElem?_cons_zero, List.getElem?_cons_succ, List.set_cons_zero, List.set_cons_succ, List.map_cons, List.map_nil, List.cons_append, List.nil_append, List.length_cons, List.length_nil, Nat.reduceAdd, Nat.reduceSub, Nat.reduceMul, Nat.reduceLT, Nat.reduceLeDiff, Nat.reduceEqDiff, Option.some.injEq, D.int.injEq, D.tup.injEq, D.loc.injEq, D.bl.injEq, exists_eq_left, exists_eq_left', exists_eq_right, true_and, and_true, if_true, if_false, ite_true, ite_false, reduceIte, Bool.false_eq_true, decide_eq_true_eq, eq_self, exists_const, Bool.not_true, Bool.not_false, Bool.not_eq_true', Bool.and_true, Bool.true_and, Bool.and_false, Bool.false_and, ne_eq, not_true_eq_false, not_false_eq_true, reduceCtorEq, Int.cast_ofNat_Int, Bool.not_eq_true, Bool.true_eq_false, ti_at hi, cutD_int, wc_in_int items_tup]
    have no : xs[i] ∉ xs.take i := by
      intro z
      obtain ⟨j, hj, e⟩ := List.getElem_of_mem z
      rw [List.length_take] at hj
      rw [List.getElem_take] at e
      have := (List.getElem_inj hd).mp e
      omega
    rw [if_neg no]
    exact ⟨_, rfl⟩
  · subst e eh
    simp only [we_int, we_str, we_bl, we_non, we_ty, we_cst, we_var, we_bin, we_cmp, we_chain, we_neg, we_not, we_and1, we_and2, we_or1, we_or2, we_ife, we_tup, we_lst, we_ix, we_sl, wo_none, wo_some, we_blt, we_call, we_meth, we_rev, we_srt, we_lrg1, we_lrg2, we_trg1, ws_nil, ws_cons, wt_tr, wt_cmp, wt_chain, wt_not, wt_and1, wt_and2, wt_or1, wt_or2, wts_nil, wts_one, wr_bl, wr_non, wr_int, wr_tup, wn_add, wn_sub, wn_mul, wn_div, wn_mod, wn_pow, wn_neg, wn_cat, wn_tmul, wn_lmul, wn_ladd, wc_lt, wc_le, wc_gt, wc_ge, wc_eq, wc_ne, wc_isnon, wc_isnt, wx_tup, wx_loc, wl_tup, wl_loc, wv_tup, wb_len_tup, wb_len_loc, wb_int, wb_list, wb_tuple, wb_sum, wb_min, wb_max, wi_int_int, wi_int_bool, wi_int_tup, wi_tup_tup, wi_tup_int, wm_append, wm_extend, wm_popAt, wm_count, wss_nil, wss_one, wss_cons, seqK_nx, seqK_rt, seqK_bk, seqK_ct, wq_expr, wq_ret, wq_retN, wq_pass, wq_brk, wq_cont, wq_set, wq_setc, wq_par, wq_setIx, ws_setIx, wq_ife, wq_for, wq_whil, wq_never, outK_rt, outK_nx, wv_rng1, wv_rng2, wv_seq, wv_seq_tup, wv_seq_loc, wv_zip, wv_zip_tup, we_comp, wp_ok, wp_bad, wp_br, wp_bind, items_tup, tgF, setAll, startE_eq, nones, List.getElem?_cons_zero, List.getElem?_cons_succ, List.set_cons_zero, List.set_cons_succ, List.map_cons, List.map_nil, List.cons_append, List.nil_append, List.length_cons, List.length_nil, Nat.reduceAdd, Nat.reduceSub, Nat.reduceMul, Nat.reduceLT, Nat.reduceLeDiff, Nat.reduceEqDiff, Option.some.injEq, D.int.injEq, D.tup.injEq, D.loc.injEq, D.bl.injEq, exists_eq_left, exists_eq_left', exists_eq_right, true_and, and_true, if_true, if_false, ite_true, ite_false, reduceIte, Bool.false_eq_true, decide_eq_true_eq, eq_self, exists_const, Bool.not_true, Bool.not_false, Bool.not_eq_true', Bool.and_true, Bool.true_and, Bool.and_false, Bool.false_and, ne_eq, not_true_eq_false, not_false_eq_true, reduceCtorEq, Int.cast_ofNat_Int, Bool.not_eq_true, Bool.true_eq_false]
structure Gd (p q : Int) (xs : List Int) : Prop where
  prime : PrimeI p
  hp : p ≤ 65521
  q1 : 1 ≤ q
  q12 : q ≤ 12
  x1 : 1 ≤ xs.length
  x8 : xs.length ≤ 8
  xr : ∀ x ∈ xs, 0 ≤ x ∧ x ≤ p
  xd : xs.Nodup
abbrev gD (p q : Int) (xs : List Int) : D := .tup [.int p, .int q, ti xs]
theorem gD_0 {p q : Int} {xs : List Int} : atI [D.int p, .int q, ti xs] 0 = some (.int p) := rfl
theorem gD_1 {p q : Int} {xs : List Int} : atI [D.int p, .int q, ti xs] 1 = some (.int q) := rfl
theorem gD_2 {p q : Int} {xs : List Int} : atI [D.int p, .int q, ti xs] 2 = some (ti xs) := rfl
variable [hG : Has fs F.n_made_ground F.f_made_ground]
theorem made_ground_ok {p q : Int} {xs : List Int} (g : Gd p q xs) : callF fs (k + 3) F.n_made_ground [gD p q xs] h = .ok (gD p q xs) h := by
  refine eq_of_wp (wp_call hG.has rfl ?_)
  unfold F.f_made_ground
  simp only [we_int, we_str, we_bl, we_non, we_ty, we_cst, we_var, we_bin, we_cmp, we_chain, we_neg, we_not, we_and1, we_and2, we_or1, we_or2, we_ife, we_tup, we_lst, we_ix, we_sl, wo_none, wo_some, we_blt, we_call, we_meth, we_rev, we_srt, we_lrg1, we_lrg2, we_trg1, ws_nil, ws_cons, wt_tr, wt_cmp, wt_chain, wt_not, wt_and1, wt_and2, wt_or1, wt_or2, wts_nil, wts_one, wr_bl, wr_non, wr_int, wr_tup, wn_add, wn_sub, wn_mul, wn_div, wn_mod, wn_pow, wn_neg, wn_cat, wn_tmul, wn_lmul, wn_ladd, wc_lt, wc_le, wc_gt, wc_ge, wc_eq, wc_ne, wc_isnon, wc_isnt, wx_tup, wx_loc, wl_tup, wl_loc, wv_tup, wb_len_tup, wb_len_loc, wb_int, wb_list, wb_tuple, wb_sum, wb_min, wb_max, wi_int_int, wi_int_bool, wi_int_tup, wi_tup_tup, wi_tup_int, wm_append, wm_extend, wm_popAt, wm_count, wss_nil, wss_one, wss_cons, seqK_nx, seqK_rt, seqK_bk, seqK_ct, wq_expr, wq_ret, wq_retN, wq_pass, wq_brk, wq_cont, wq_set, wq_setc, wq_par, wq_setIx, ws_setIx, wq_ife, wq_for, wq_whil, wq_never, outK_rt, outK_nx, wv_rng1, wv_rng2, wv_seq, wv_seq_tup, wv_seq_loc, wv_zip, wv_zip_tup, we_comp, wp_ok, wp_bad, wp_br, wp_bind, items_tup, tgF, setAll, startE_eq, nones, List.getElem?_cons_zero, List.getElem?_cons_succ, List.set_cons_zero, List.set_cons_succ, List.map_cons, List.map_nil, List.cons_append, List.nil_append, List.length_cons, List.length_nil, Nat.reduceAdd, Nat.reduceSub, Nat.reduceMul, Nat.reduceLT, Nat.reduceLeDiff, Nat.reduceEqDiff, Option.some.injEq, D.int.injEq, D.tup.injEq, D.loc.injEq, D.bl.injEq, exists_eq_left, exists_eq_left', exists_eq_right, true_and, and_true, if_true, if_false, ite_true, ite_false, reduceIte, Bool.false_eq_true, decide_eq_true_eq, eq_self, exists_const, Bool.not_true, Bool.not_false, Bool.not_eq_true', Bool.and_true, Bool.true_and, Bool.and_false, Bool.false_and, ne_eq, not_true_eq_false, not_false_eq_true, reduceCtorEq, Int.cast_ofNat_Int, Bool.not_eq_true, Bool.true_eq_false, gD_0, gD_1, gD_2, is_prime_ok g.hp g.prime, is_whole_ok, are_points_ok g.x1 g.x8 g.xr g.xd, show wholeB q 1 12 = true from wholeB_true.mpr ⟨g.q1, g.q12⟩]
variable [hS : Has fs F.n_shelves F.f_shelves]
theorem shelves_ok {p q : Int} {xs : List Int} (g : Gd p q xs) : callF fs (k + 4) F.n_shelves [gD p q xs] h = .ok (.int xs.length) h := by
  refine eq_of_wp (wp_call hS.has rfl ?_)
  unfold F.f_shelves
  simp only [we_int, we_str, we_bl, we_non, we_ty, we_cst, we_var, we_bin, we_cmp, we_chain, we_neg, we_not, we_and1, we_and2, we_or1, we_or2, we_ife, we_tup, we_lst, we_ix, we_sl, wo_none, wo_some, we_blt, we_call, we_meth, we_rev, we_srt, we_lrg1, we_lrg2, we_trg1, ws_nil, ws_cons, wt_tr, wt_cmp, wt_chain, wt_not, wt_and1, wt_and2, wt_or1, wt_or2, wts_nil, wts_one, wr_bl, wr_non, wr_int, wr_tup, wn_add, wn_sub, wn_mul, wn_div, wn_mod, wn_pow, wn_neg, wn_cat, wn_tmul, wn_lmul, wn_ladd, wc_lt, wc_le, wc_gt, wc_ge, wc_eq, wc_ne, wc_isnon, wc_isnt, wx_tup, wx_loc, wl_tup, wl_loc, wv_tup, wb_len_tup, wb_len_loc, wb_int, wb_list, wb_tuple, wb_sum, wb_min, wb_max, wi_int_int, wi_int_bool, wi_int_tup, wi_tup_tup, wi_tup_int, wm_append, wm_extend, wm_popAt, wm_count, wss_nil, wss_one, wss_cons, seqK_nx, seqK_rt, seqK_bk, seqK_ct, wq_expr, wq_ret, wq_retN, wq_pass, wq_brk, wq_cont, wq_set, wq_setc, wq_par, wq_setIx, ws_setIx, wq_ife, wq_for, wq_whil, wq_never, outK_rt, outK_nx, wv_rng1, wv_rng2, wv_seq, wv_seq_tup, wv_seq_loc, wv_zip, wv_zip_tup, we_comp, wp_ok, wp_bad, wp_br, wp_bind, items_tup, tgF, setAll, startE_eq, nones, List.getElem?_cons_zero, List.getElem?_cons_succ, List.set_cons_zero, List.set_cons_succ, List.map_cons, List.map_nil, List.cons_append, List.nil_append, List.length_cons, List.length_nil, Nat.reduceAdd, Nat.reduceSub, Nat.reduceMul, Nat.reduceLT, Nat.reduceLeDiff, Nat.reduceEqDiff, Option.some.injEq, D.int.injEq, D.tup.injEq, D.loc.injEq, D.bl.injEq, exists_eq_left, exists_eq_left', exists_eq_right, true_and, and_true, if_true, if_false, ite_true, ite_false, reduceIte, Bool.false_eq_true, decide_eq_true_eq, eq_self, exists_const, Bool.not_true, Bool.not_false, Bool.not_eq_true', Bool.and_true, Bool.true_and, Bool.and_false, Bool.false_and, ne_eq, not_true_eq_false, not_false_eq_true, reduceCtorEq, Int.cast_ofNat_Int, Bool.not_eq_true, Bool.true_eq_false, gD_0, gD_1, gD_2, made_ground_ok g, List.length_map]
variable [hL : Has fs F.n_made_lengths F.f_made_lengths]
theorem made_lengths_ok {p q : Int} {xs ms : List Int} (g : Gd p q xs) (hl : ms.length = xs.length) (hm : ∀ m ∈ ms, 0 ≤ m ∧ m ≤ 1024) : callF fs (k + 5) F.n_made_lengths [gD p q xs, ti ms] h = .ok (ti ms) h := by
  refine eq_of_wp (wp_call hL.has rfl ?_)
  unfold F.f_made_lengths
  simp only [we_int, we_str, we_bl, we_non, we_ty, we_cst, we_var, we_bin, we_cmp, we_chain, we_neg, we_not, we_and1, we_and2, we_or1, we_or2, we_ife, we_tup, we_lst, we_ix, we_sl, wo_none, wo_some, we_blt, we_call, we_meth, we_rev, we_srt, we_lrg1, we_lrg2, we_trg1, ws_nil, ws_cons, wt_tr, wt_cmp, wt_chain, wt_not, wt_and1, wt_and2, wt_or1, wt_or2, wts_nil, wts_one, wr_bl, wr_non, wr_int, wr_tup, wn_add, wn_sub, wn_mul, wn_div, wn_mod, wn_pow, wn_neg, wn_cat, wn_tmul, wn_lmul, wn_ladd, wc_lt, wc_le, wc_gt, wc_ge, wc_eq, wc_ne, wc_isnon, wc_isnt, wx_tup, wx_loc, wl_tup, wl_loc, wv_tup, wb_len_tup, wb_len_loc, wb_int, wb_list, wb_tuple, wb_sum, wb_min, wb_max, wi_int_int, wi_int_bool, wi_int_tup, wi_tup_tup, wi_tup_int, wm_append, wm_extend, wm_popAt, wm_count, wss_nil, wss_one, wss_cons, seqK_nx, seqK_rt, seqK_bk, seqK_ct, wq_expr, wq_ret, wq_retN, wq_pass, wq_brk, wq_cont, wq_set, wq_setc, wq_par, wq_setIx, ws_setIx, wq_ife, wq_for, wq_whil, wq_never, outK_rt, outK_nx, wv_rng1, wv_rng2, wv_seq, wv_seq_tup, wv_seq_loc, wv_zip, wv_zip_tup, we_comp, wp_ok, wp_bad, wp_br, wp_bind, items_tup, tgF, setAll, startE_eq, nones, List.getElem?_cons_zero, List.getElem?_cons_succ, List.set_cons_zero, List.set_cons_succ, List.map_cons, List.map_nil, List.cons_append, List.nil_append, List.length_cons, List.length_nil, Nat.reduceAdd, Nat.reduceSub, Nat.reduceMul, Nat.reduceLT, Nat.reduceLeDiff, Nat.reduceEqDiff, Option.some.injEq, D.int.injEq, D.tup.injEq, D.loc.injEq, D.bl.injEq, exists_eq_left, exists_eq_left', exists_eq_right, true_and, and_true, if_true, if_false, ite_true, ite_false, reduceIte, Bool.false_eq_true, decide_eq_true_eq, eq_self, exists_const, Bool.not_true, Bool.not_false, Bool.not_eq_true', Bool.and_true, Bool.true_and, Bool.and_false, Bool.false_and, ne_eq, not_true_eq_false, not_false_eq_true, reduceCtorEq, Int.cast_ofNat_Int, Bool.not_eq_true, Bool.true_eq_false, shelves_ok g, List.length_map, hl]
  have := g.x8
  refine ⟨by omega, ?_⟩
  refine wp_loop (fun i ρ h' => (∃ x3, ρ = [some (gD p q xs), some (ti ms), some (.int xs.length), x3]) ∧ h' = h) (fun _ _ _ _ => rfl) (fun i x ρ h' hx ⟨⟨x2, e⟩, eh⟩ => ?_) (fun ρ h' ⟨⟨x2, e⟩, eh⟩ => ?_) ⟨⟨none, rfl⟩, rfl⟩
  · subst e eh
    have hi : i < xs.length := by
      have := (List.getElem?_eq_some_iff.mp hx).1
      simpa [Src.items] using this
    have ex : x = .int (i : Int) := by
      simp [Src.items, hi] at hx
      exact hx.symm
    subst ex
    refine ⟨_, rfl, ?_⟩
    have hi' : i < ms.length := by omega
    simp only [we_int, we_str, we_bl, we_non, we_ty, we_cst, we_var, we_bin, we_cmp, we_chain, we_neg, we_not, we_and1, we_and2, we_or1, we_or2, we_ife, we_tup, we_lst, we_ix, we_sl, wo_none, wo_some, we_blt, we_call, we_meth, we_rev, we_srt, we_lrg1, we_lrg2, we_trg1, ws_nil, ws_cons, wt_tr, wt_cmp, wt_chain, wt_not, wt_and1, wt_and2, wt_or1, wt_or2, wts_nil, wts_one, wr_bl, wr_non, wr_int, wr_tup, wn_add, wn_sub, wn_mul, wn_div, wn_mod, wn_pow, wn_neg, wn_cat, wn_tmul, wn_lmul, wn_ladd, wc_lt, wc_le, wc_gt, wc_ge, wc_eq, wc_ne, wc_isnon, wc_isnt, wx_tup, wx_loc, wl_tup, wl_loc, wv_tup, wb_len_tup, wb_len_loc, wb_int, wb_list, wb_tuple, wb_sum, wb_min, wb_max, wi_int_int, wi_int_bool, wi_int_tup, wi_tup_tup, wi_tup_int, wm_append, wm_extend, wm_popAt, wm_count, wss_nil, wss_one, wss_cons, seqK_nx, seqK_rt, seqK_bk, seqK_ct, wq_expr, wq_ret, wq_retN, wq_pass, wq_brk, wq_cont, wq_set, wq_setc, wq_par, wq_setIx, ws_setIx, wq_ife, wq_for, wq_whil, wq_never, outK_rt, outK_nx, wv_rng1, wv_rng2, wv_seq, wv_seq_tup, wv_seq_loc, wv_zip, wv_zip_tup, we_comp, wp_ok, wp_bad, wp_br, wp_bind, items_tup, tgF, setAll, startE_eq, nones, List.getElem?_cons_zero, List.getElem?_cons_succ, List.set_cons_zero, List.set_cons_succ, List.map_cons, List.map_nil, List.cons_append, List.nil_append, List.length_cons, List.length_nil, Nat.reduceAdd, Nat.reduceSub, Nat.reduceMul, Nat.reduceLT, Nat.reduceLeDiff, Nat.reduceEqDiff, Option.some.injEq, D.int.injEq, D.tup.injEq, D.loc.injEq, D.bl.injEq, exists_eq_left, exists_eq_left', exists_eq_right, true_and, and_true, if_true, if_false, ite_true, ite_false, reduceIte, Bool.false_eq_true, decide_eq_true_eq, eq_self, exists_const, Bool.not_true, Bool.not_false, Bool.not_eq_true', Bool.and_true, Bool.true_and, Bool.and_false, Bool.false_and, ne_eq, not_true_eq_false, not_false_eq_true, reduceCtorEq, Int.cast_ofNat_Int, Bool.not_eq_true, Bool.true_eq_false, ti_at hi', is_whole_ok, show wholeB ms[i] 0 1024 = true from wholeB_true.mpr (hm _ (List.getElem_mem hi'))]
    exact ⟨_, rfl⟩
  · subst e eh
    simp only [we_int, we_str, we_bl, we_non, we_ty, we_cst, we_var, we_bin, we_cmp, we_chain, we_neg, we_not, we_and1, we_and2, we_or1, we_or2, we_ife, we_tup, we_lst, we_ix, we_sl, wo_none, wo_some, we_blt, we_call, we_meth, we_rev, we_srt, we_lrg1, we_lrg2, we_trg1, ws_nil, ws_cons, wt_tr, wt_cmp, wt_chain, wt_not, wt_and1, wt_and2, wt_or1, wt_or2, wts_nil, wts_one, wr_bl, wr_non, wr_int, wr_tup, wn_add, wn_sub, wn_mul, wn_div, wn_mod, wn_pow, wn_neg, wn_cat, wn_tmul, wn_lmul, wn_ladd, wc_lt, wc_le, wc_gt, wc_ge, wc_eq, wc_ne, wc_isnon, wc_isnt, wx_tup, wx_loc, wl_tup, wl_loc, wv_tup, wb_len_tup, wb_len_loc, wb_int, wb_list, wb_tuple, wb_sum, wb_min, wb_max, wi_int_int, wi_int_bool, wi_int_tup, wi_tup_tup, wi_tup_int, wm_append, wm_extend, wm_popAt, wm_count, wss_nil, wss_one, wss_cons, seqK_nx, seqK_rt, seqK_bk, seqK_ct, wq_expr, wq_ret, wq_retN, wq_pass, wq_brk, wq_cont, wq_set, wq_setc, wq_par, wq_setIx, ws_setIx, wq_ife, wq_for, wq_whil, wq_never, outK_rt, outK_nx, wv_rng1, wv_rng2, wv_seq, wv_seq_tup, wv_seq_loc, wv_zip, wv_zip_tup, we_comp, wp_ok, wp_bad, wp_br, wp_bind, items_tup, tgF, setAll, startE_eq, nones, List.getElem?_cons_zero, List.getElem?_cons_succ, List.set_cons_zero, List.set_cons_succ, List.map_cons, List.map_nil, List.cons_append, List.nil_append, List.length_cons, List.length_nil, Nat.reduceAdd, Nat.reduceSub, Nat.reduceMul, Nat.reduceLT, Nat.reduceLeDiff, Nat.reduceEqDiff, Option.some.injEq, D.int.injEq, D.tup.injEq, D.loc.injEq, D.bl.injEq, exists_eq_left, exists_eq_left', exists_eq_right, true_and, and_true, if_true, if_false, ite_true, ite_false, reduceIte, Bool.false_eq_true, decide_eq_true_eq, eq_self, exists_const, Bool.not_true, Bool.not_false, Bool.not_eq_true', Bool.and_true, Bool.true_and, Bool.and_false, Bool.false_and, ne_eq, not_true_eq_false, not_false_eq_true, reduceCtorEq, Int.cast_ofNat_Int, Bool.not_eq_true, Bool.true_eq_false]
end
end Dx

/-! PForms: times, line, product. -/
namespace Dx
open PySem L2
variable {E : Xc} {fs : Fns} {k : Nat} {h : HA}
/-- the numbers below an index of the other factor -/
def part (f g : List Int) : Nat → Nat → Int
  | 0, _ => 0
  | i + 1, c => part f g i c + if i ≤ c then f.getD i 0 * g.getD (c - i) 0 else 0
def timesL (p : Int) (f g : List Int) : List Int := (List.range (f.length + g.length - 1)).map fun c => part f g f.length c % p
theorem timesL_len {p : Int} {f g : List Int} : (timesL p f g).length = f.length + g.length - 1 := by unfold timesL; simp
def Bd (xs : List Int) : Prop := ∀ x ∈ xs, -4294967296 < x ∧ x < 4294967296
theorem mulOk_of {i j : Int} (h1 : -4294967296 < i) (h2 : i < 4294967296) : mulOk i j = true := by unfold mulOk; simp; omega
theorem getD_of {xs : List Int} {i : Nat} (hi : i < xs.length) : xs.getD i 0 = xs[i] := by rw [List.getD_eq_getElem?_getD, List.getElem?_eq_getElem hi]; rfl
theorem ixN_of {n i : Nat} {j : Int} (e : j = i) (hi : i < n) : ixN n j = some i := by
  subst e
  unfold ixN
  rw [if_pos (by omega), if_pos (by omega)]
  rfl
theorem rng_item {n i : Nat} {x : D} (hx : (Src.rng 0 n).items[i]? = some x) : i < n ∧ x = .int (i : Int) := by
  have hi : i < n := by
    have := (List.getElem?_eq_some_iff.mp hx).1
    simpa [Src.items] using this
  refine ⟨hi, ?_⟩
  simp [Src.items, hi] at hx
  exact hx.symm
theorem rng_items_mem {lo : Int} {n : Nat} {x : D} (hx : x ∈ (Src.rng lo n).items) : ∃ i : Nat, i < n ∧ x = .int (lo + (i : Int)) := by
  simp only [Src.items, List.mem_map, List.mem_range] at hx
  obtain ⟨i, hi, e⟩ := hx
  exact ⟨i, hi, e.symm⟩
theorem rgD_ti {n : Int} : rgD 0 n = ((List.range n.toNat).map fun i => ((i : Nat) : Int)).map D.int := by
  unfold rgD
  rw [List.map_map, Int.sub_zero]
  refine List.map_congr_left fun i _ => ?_
  show D.int (0 + (i : Nat)) = D.int (i : Nat)
  rw [Int.zero_add]
theorem rng_len {lo : Int} {n : Nat} : (Src.rng lo n).items.length = n := by simp [Src.items]
theorem map_set {n c : Nat} {u v : Nat → Int} (hc : c < n) (e : ∀ m, m ≠ c → u m = v m) : ((List.range n).map u).set c (v c) = (List.range n).map v := by
  refine List.ext_getElem? fun m => ?_
  by_cases em : c = m
  · subst em
    rw [List.getElem?_set_self (by simpa using hc), List.getElem?_map, List.getElem?_range hc]; rfl
  · rw [List.getElem?_set_ne em]
    by_cases hm : m < n
    · rw [List.getElem?_map, List.getElem?_map, List.getElem?_range hm, Option.map_some, Option.map_some, e m (fun z => em z.symm)]
    · rw [List.getElem?_eq_none (by simpa using hm), List.getElem?_eq_none (by simpa using hm)]
section
variable [hT : Has fs F.n_times F.f_times]
def tAcc (p : Int) (f g : List Int) (n i j : Nat) : List Int := (List.range n).map fun c => (part f g i c + if i ≤ c ∧ c < i + j then f.getD i 0 * g.getD (c - i) 0 else 0) % p
theorem tAcc_0 {p : Int} {f g : List Int} {n i : Nat} : tAcc p f g n i 0 = (List.range n).map fun c => part f g i c % p := by
  unfold tAcc
  refine List.map_congr_left fun c _ => ?_
  rw [if_neg (by omega), Int.add_zero]
theorem tAcc_len {p : Int} {f g : List Int} {n i j : Nat} : (tAcc p f g n i j).length = n := by unfold tAcc; simp
theorem tAcc_end {p : Int} {f g : List Int} {n i : Nat} : tAcc p f g n i g.length = tAcc p f g n (i + 1) 0 := by
  rw [tAcc_0]
  unfold tAcc
  refine List.map_congr_left fun c _ => ?_
  show _ = (part f g i c + _) % p
  by_cases a : i ≤ c
  · rw [if_pos a]
    by_cases b : c < i + g.length
    · rw [if_pos ⟨a, b⟩]
    · rw [if_neg (by omega), List.getD_eq_getElem?_getD (l := g), show g[c - i]? = none from List.getElem?_eq_none (by omega)]
      simp
  · rw [if_neg a, if_neg (by omega)]
theorem tAcc_step {p : Int} {f g : List Int} {n i j : Nat} (hn : i + j < n) (hp : 0 < p) : (tAcc p f g n i j).set (i + j) (((tAcc p f g n i j).getD (i + j) 0 + f.getD i 0 * g.getD j 0) % p) = tAcc p f g n i (j + 1) := by
  have e : (tAcc p f g n i j).getD (i + j) 0 = part f g i (i + j) % p := by
    unfold tAcc
    rw [List.getD_eq_getElem?_getD, List.getElem?_map, List.getElem?_range hn]
    show (_ + _) % p = _
    rw [if_neg (by omega), Int.add_zero]
  rw [e, Int.emod_add_emod]
  have q := map_set (n := n) (c := i + j) (u := fun c => (part f g i c + if i ≤ c ∧ c < i + j then f.getD i 0 * g.getD (c - i) 0 else 0) % p)
    (v := fun c => (part f g i c + if i ≤ c ∧ c < i + (j + 1) then f.getD i 0 * g.getD (c - i) 0 else 0) % p) hn (fun m hm => by
      by_cases a : i ≤ m ∧ m < i + j
      · rw [if_pos a, if_pos (by omega)]
      · rw [if_neg a, if_neg (by omega)])
  have v0 : (part f g i (i + j) + if i ≤ i + j ∧ i + j < i + (j + 1) then f.getD i 0 * g.getD (i + j - i) 0 else 0) % p = (part f g i (i + j) + f.getD i 0 * g.getD j 0) % p := by
    rw [if_pos (by omega), Nat.add_sub_cancel_left]
  rw [← v0]
  exact q
theorem times_ok {p : Int} {f g : List Int} (hp : 0 < p) (bf : Bd f) (hf : f.length ≤ 1000) (hg : g.length ≤ 1000) (h0 : 0 < f.length + g.length) : Wp E (callF fs (k + 1) F.n_times [.int p, ti f, ti g] h) fun d h' => d = ti (timesL p f g) ∧ Kp [] h h' := by
  refine wp_call hT.has rfl ?_
  unfold F.f_times
  have g0 : (h ++ [O.lst [D.int 0]])[h.length]? = some (.lst [D.int 0]) := get_new
  have en : ((f.length : Int) + (g.length : Int) - 1).toNat = f.length + g.length - 1 := by omega
  simp only [we_int, we_str, we_bl, we_non, we_ty, we_cst, we_var, we_bin, we_cmp, we_chain, we_neg, we_not, we_and1, we_and2, we_or1, we_or2, we_ife, we_tup, we_lst, we_ix, we_sl, wo_none, wo_some, we_blt, we_call, we_meth, we_rev, we_srt, we_lrg1, we_lrg2, we_trg1, ws_nil, ws_cons, wt_tr, wt_cmp, wt_chain, wt_not, wt_and1, wt_and2, wt_or1, wt_or2, wts_nil, wts_one, wr_bl, wr_non, wr_int, wr_tup, wn_add, wn_sub, wn_mul, wn_div, wn_mod, wn_pow, wn_neg, wn_cat, wn_tmul, wn_lmul, wn_ladd, wc_lt, wc_le, wc_gt, wc_ge, wc_eq, wc_ne, wc_isnon, wc_isnt, wx_tup, wx_loc, wl_tup, wl_loc, wv_tup, wb_len_tup, wb_len_loc, wb_int, wb_list, wb_tuple, wb_sum, wb_min, wb_max, wi_int_int, wi_int_bool, wi_int_tup, wi_tup_tup, wi_tup_int, wm_append, wm_extend, wm_popAt, wm_count, wss_nil, wss_one, wss_cons, seqK_nx, seqK_rt, seqK_bk, seqK_ct, wq_expr, wq_ret, wq_retN, wq_pass, wq_brk, wq_cont, wq_set, wq_setc, wq_par, wq_setIx, ws_setIx, wq_ife, wq_for, wq_whil, wq_never, outK_rt, outK_nx, wv_rng1, wv_rng2, wv_seq, wv_seq_tup, wv_seq_loc, wv_zip, wv_zip_tup, we_comp, wp_ok, wp_bad, wp_br, wp_bind, items_tup, tgF, setAll, startE_eq, nones, List.getElem?_cons_zero, List.getElem?_cons_succ, List.set_cons_zero, List.set_cons_succ, List.map_cons, List.map_nil, List.cons_append, List.nil_append, List.length_cons, List.length_nil, Nat.reduceAdd, Nat.reduceSub, Nat.reduceMul, Nat.reduceLT, Nat.reduceLeDiff, Nat.reduceEqDiff, Option.some.injEq, D.int.injEq, D.tup.injEq, D.loc.injEq, D.bl.injEq, exists_eq_left, exists_eq_left', exists_eq_right, true_and, and_true, if_true, if_false, ite_true, ite_false, reduceIte, Bool.false_eq_true, decide_eq_true_eq, eq_self, exists_const, Bool.not_true, Bool.not_false, Bool.not_eq_true', Bool.and_true, Bool.true_and, Bool.and_false, Bool.false_and, ne_eq, not_true_eq_false, not_false_eq_true, reduceCtorEq, Int.cast_ofNat_Int, Bool.not_eq_true, Bool.true_eq_false, List.length_map, g0, O.lst.injEq, en]
  have rep : (List.replicate (f.length + g.length - 1) [D.int 0]).flatten = (tAcc p f g (f.length + g.length - 1) 0 0).map D.int := by
    rw [tAcc_0]
    refine List.ext_getElem? fun m => ?_
    rw [show (List.replicate (f.length + g.length - 1) [D.int 0]).flatten = List.replicate (f.length + g.length - 1) (D.int 0) from by
      generalize f.length + g.length - 1 = n
      induction n with
      | zero => rfl
      | succ n ih => rw [List.replicate_succ, List.flatten_cons, ih]; rfl]
    by_cases hm : m < f.length + g.length - 1
    · rw [List.getElem?_replicate, if_pos hm, List.getElem?_map, List.getElem?_map, List.getElem?_range hm]
      show some (D.int 0) = some (D.int (0 % p))
      rw [Int.zero_emod]
    · rw [List.getElem?_eq_none (by simpa using hm), List.getElem?_eq_none (by simpa using hm)]
  rw [rep]
  generalize hn : f.length + g.length - 1 = n
  refine ⟨by rw [sizeLine_eq]; omega, by rw [sizeLine_eq]; omega, by omega, ?_⟩
  generalize hh : h ++ [O.lst [D.int 0]] = ha
  have ka : Kp [] h ha := by subst hh; exact Kp.refl.app
  generalize hl : ha.length = l
  have hge : h.length ≤ l := by rw [← hl]; exact ka.len
  refine wp_loop (fun i ρ h' => (∃ x4 x5, ρ = [some (.int p), some (ti f), some (ti g), some (.loc l), x4, x5]) ∧ Kp [] h h' ∧ h'[l]? = some (.lst ((tAcc p f g n i 0).map D.int))) (fun _ _ _ _ => rfl) (fun i x ρ h' hx ⟨⟨x4, x5, e⟩, kp, hb⟩ => ?_) (fun ρ h' ⟨⟨x4, x5, e⟩, kp, hb⟩ => ?_) ⟨⟨none, none, rfl⟩, ka.app, by subst hl; exact get_new⟩
  · obtain ⟨hi, ex⟩ := rng_item hx
    have hi' : i < f.length := by omega
    subst e ex
    refine ⟨_, rfl, ?_⟩
    simp only [we_int, we_str, we_bl, we_non, we_ty, we_cst, we_var, we_bin, we_cmp, we_chain, we_neg, we_not, we_and1, we_and2, we_or1, we_or2, we_ife, we_tup, we_lst, we_ix, we_sl, wo_none, wo_some, we_blt, we_call, we_meth, we_rev, we_srt, we_lrg1, we_lrg2, we_trg1, ws_nil, ws_cons, wt_tr, wt_cmp, wt_chain, wt_not, wt_and1, wt_and2, wt_or1, wt_or2, wts_nil, wts_one, wr_bl, wr_non, wr_int, wr_tup, wn_add, wn_sub, wn_mul, wn_div, wn_mod, wn_pow, wn_neg, wn_cat, wn_tmul, wn_lmul, wn_ladd, wc_lt, wc_le, wc_gt, wc_ge, wc_eq, wc_ne, wc_isnon, wc_isnt, wx_tup, wx_loc, wl_tup, wl_loc, wv_tup, wb_len_tup, wb_len_loc, wb_int, wb_list, wb_tuple, wb_sum, wb_min, wb_max, wi_int_int, wi_int_bool, wi_int_tup, wi_tup_tup, wi_tup_int, wm_append, wm_extend, wm_popAt, wm_count, wss_nil, wss_one, wss_cons, seqK_nx, seqK_rt, seqK_bk, seqK_ct, wq_expr, wq_ret, wq_retN, wq_pass, wq_brk, wq_cont, wq_set, wq_setc, wq_par, wq_setIx, ws_setIx, wq_ife, wq_for, wq_whil, wq_never, outK_rt, outK_nx, wv_rng1, wv_rng2, wv_seq, wv_seq_tup, wv_seq_loc, wv_zip, wv_zip_tup, we_comp, wp_ok, wp_bad, wp_br, wp_bind, items_tup, tgF, setAll, startE_eq, nones, List.getElem?_cons_zero, List.getElem?_cons_succ, List.set_cons_zero, List.set_cons_succ, List.map_cons, List.map_nil, List.cons_append, List.nil_append, List.length_cons, List.length_nil, Nat.reduceAdd, Nat.reduceSub, Nat.reduceMul, Nat.reduceLT, Nat.reduceLeDiff, Nat.reduceEqDiff, Option.some.injEq, D.int.injEq, D.tup.injEq, D.loc.injEq, D.bl.injEq, exists_eq_left, exists_eq_left', exists_eq_right, true_and, and_true, if_true, if_false, ite_true, ite_false, reduceIte, Bool.false_eq_true, decide_eq_true_eq, eq_self, exists_const, Bool.not_true, Bool.not_false, Bool.not_eq_true', Bool.and_true, Bool.true_and, Bool.and_false, Bool.false_and, ne_eq, not_true_eq_false, not_false_eq_true, reduceCtorEq, Int.cast_ofNat_Int, Bool.not_eq_true, Bool.true_eq_false, List.length_map]
    refine ⟨by omega, ?_⟩
    refine wp_loop (fun j ρ h' => (∃ x5, ρ = [some (.int p), some (ti f), some (ti g), some (.loc l), some (.int (i : Int)), x5]) ∧ Kp [] h h' ∧ h'[l]? = some (.lst ((tAcc p f g n i j).map D.int))) (fun _ _ _ _ => rfl) (fun j x ρ h' hx ⟨⟨x5, e⟩, kp, hb⟩ => ?_) (fun ρ h' ⟨⟨x5, e⟩, kp, hb⟩ => ?_) ⟨⟨x5, rfl⟩, kp, hb⟩
    · obtain ⟨hj, ex⟩ := rng_item hx
      have hj' : j < g.length := by omega
      subst e ex
      refine ⟨_, rfl, ?_⟩
      have hij : i + j < n := by omega
      have hl2 : i + j < (tAcc p f g n i j).length := by rw [tAcc_len]; exact hij
      have a1 : atI ((tAcc p f g n i j).map D.int) ((i : Int) + (j : Int)) = some (.int ((tAcc p f g n i j).getD (i + j) 0)) := by
        rw [← Int.natCast_add, ti_at hl2, getD_of hl2]
      have ix : ixN ((tAcc p f g n i j).map D.int).length ((i : Int) + (j : Int)) = some (i + j) := ixN_of (by omega) (by rw [List.length_map]; exact hl2)
      have b1 := bf _ (List.getElem_mem hi')
      simp only [we_int, we_str, we_bl, we_non, we_ty, we_cst, we_var, we_bin, we_cmp, we_chain, we_neg, we_not, we_and1, we_and2, we_or1, we_or2, we_ife, we_tup, we_lst, we_ix, we_sl, wo_none, wo_some, we_blt, we_call, we_meth, we_rev, we_srt, we_lrg1, we_lrg2, we_trg1, ws_nil, ws_cons, wt_tr, wt_cmp, wt_chain, wt_not, wt_and1, wt_and2, wt_or1, wt_or2, wts_nil, wts_one, wr_bl, wr_non, wr_int, wr_tup, wn_add, wn_sub, wn_mul, wn_div, wn_mod, wn_pow, wn_neg, wn_cat, wn_tmul, wn_lmul, wn_ladd, wc_lt, wc_le, wc_gt, wc_ge, wc_eq, wc_ne, wc_isnon, wc_isnt, wx_tup, wx_loc, wl_tup, wl_loc, wv_tup, wb_len_tup, wb_len_loc, wb_int, wb_list, wb_tuple, wb_sum, wb_min, wb_max, wi_int_int, wi_int_bool, wi_int_tup, wi_tup_tup, wi_tup_int, wm_append, wm_extend, wm_popAt, wm_count, wss_nil, wss_one, wss_cons, seqK_nx, seqK_rt, seqK_bk, seqK_ct, wq_expr, wq_ret, wq_retN, wq_pass, wq_brk, wq_cont, wq_set, wq_setc, wq_par, wq_setIx, ws_setIx, wq_ife, wq_for, wq_whil, wq_never, outK_rt, outK_nx, wv_rng1, wv_rng2, wv_seq, wv_seq_tup, wv_seq_loc, wv_zip, wv_zip_tup, we_comp, wp_ok, wp_bad, wp_br, wp_bind, items_tup, tgF, setAll, startE_eq, nones, List.getElem?_cons_zero, List.getElem?_cons_succ, List.set_cons_zero, List.set_cons_succ, List.map_cons, List.map_nil, List.cons_append, List.nil_append, List.length_cons, List.length_nil, Nat.reduceAdd, Nat.reduceSub, Nat.reduceMul, Nat.reduceLT, Nat.reduceLeDiff, Nat.reduceEqDiff, Option.some.injEq, D.int.injEq, D.tup.injEq, D.loc.injEq, D.bl.injEq, exists_eq_left, exists_eq_left', exists_eq_right, true_and, and_true, if_true, if_false, ite_true, ite_false, reduceIte, Bool.false_eq_true, decide_eq_true_eq, eq_self, exists_const, Bool.not_true, Bool.not_false, Bool.not_eq_true', Bool.and_true, Bool.true_and, Bool.and_false, Bool.false_and, ne_eq, not_true_eq_false, not_false_eq_true, reduceCtorEq, Int.cast_ofNat_Int, Bool.not_eq_true, Bool.true_eq_false, items_lst hb, a1, ti_at hi', ti_at hj', hb, O.lst.injEq, ix, mulOk_of b1.1 b1.2]
      refine ⟨hp, ⟨_, rfl⟩, kp.set (.inr hge), ?_⟩
      have st := tAcc_step (p := p) (f := f) (g := g) hij hp
      rw [getD_of hi', getD_of hj'] at st
      rw [get_set hb, ← st, List.map_set]
    · subst e
      rw [rng_len] at hb
      refine ⟨⟨_, _, rfl⟩, kp, ?_⟩
      rw [← tAcc_end]
      have : ((g.length : Int)).toNat = g.length := by omega
      rw [this] at hb
      exact hb
  · subst e
    rw [rng_len] at hb
    have : ((f.length : Int)).toNat = f.length := by omega
    rw [this] at hb
    simp only [we_int, we_str, we_bl, we_non, we_ty, we_cst, we_var, we_bin, we_cmp, we_chain, we_neg, we_not, we_and1, we_and2, we_or1, we_or2, we_ife, we_tup, we_lst, we_ix, we_sl, wo_none, wo_some, we_blt, we_call, we_meth, we_rev, we_srt, we_lrg1, we_lrg2, we_trg1, ws_nil, ws_cons, wt_tr, wt_cmp, wt_chain, wt_not, wt_and1, wt_and2, wt_or1, wt_or2, wts_nil, wts_one, wr_bl, wr_non, wr_int, wr_tup, wn_add, wn_sub, wn_mul, wn_div, wn_mod, wn_pow, wn_neg, wn_cat, wn_tmul, wn_lmul, wn_ladd, wc_lt, wc_le, wc_gt, wc_ge, wc_eq, wc_ne, wc_isnon, wc_isnt, wx_tup, wx_loc, wl_tup, wl_loc, wv_tup, wb_len_tup, wb_len_loc, wb_int, wb_list, wb_tuple, wb_sum, wb_min, wb_max, wi_int_int, wi_int_bool, wi_int_tup, wi_tup_tup, wi_tup_int, wm_append, wm_extend, wm_popAt, wm_count, wss_nil, wss_one, wss_cons, seqK_nx, seqK_rt, seqK_bk, seqK_ct, wq_expr, wq_ret, wq_retN, wq_pass, wq_brk, wq_cont, wq_set, wq_setc, wq_par, wq_setIx, ws_setIx, wq_ife, wq_for, wq_whil, wq_never, outK_rt, outK_nx, wv_rng1, wv_rng2, wv_seq, wv_seq_tup, wv_seq_loc, wv_zip, wv_zip_tup, we_comp, wp_ok, wp_bad, wp_br, wp_bind, items_tup, tgF, setAll, startE_eq, nones, List.getElem?_cons_zero, List.getElem?_cons_succ, List.set_cons_zero, List.set_cons_succ, List.map_cons, List.map_nil, List.cons_append, List.nil_append, List.length_cons, List.length_nil, Nat.reduceAdd, Nat.reduceSub, Nat.reduceMul, Nat.reduceLT, Nat.reduceLeDiff, Nat.reduceEqDiff, Option.some.injEq, D.int.injEq, D.tup.injEq, D.loc.injEq, D.bl.injEq, exists_eq_left, exists_eq_left', exists_eq_right, true_and, and_true, if_true, if_false, ite_true, ite_false, reduceIte, Bool.false_eq_true, decide_eq_true_eq, eq_self, exists_const, Bool.not_true, Bool.not_false, Bool.not_eq_true', Bool.and_true, Bool.true_and, Bool.and_false, Bool.false_and, ne_eq, not_true_eq_false, not_false_eq_true, reduceCtorEq, Int.cast_ofNat_Int, Bool.not_eq_true, Bool.true_eq_false, items_lst hb]
    refine ⟨?_, kp⟩
    rw [tAcc_0]
    subst hn
    rfl
end
section
variable [hF : Has fs F.n_line F.f_line]
def lineL (p x : Int) : List Int := if x = p then [1, 0] else [-x % p, 1]
theorem line_ok {p x : Int} (hp : 0 < p) : callF fs (k + 1) F.n_line [.int p, .int x] h = .ok (ti (lineL p x)) h := by
  refine eq_of_wp (wp_call hF.has rfl ?_)
  unfold F.f_line lineL
  simp only [we_int, we_str, we_bl, we_non, we_ty, we_cst, we_var, we_bin, we_cmp, we_chain, we_neg, we_not, we_and1, we_and2, we_or1, we_or2, we_ife, we_tup, we_lst, we_ix, we_sl, wo_none, wo_some, we_blt, we_call, we_meth, we_rev, we_srt, we_lrg1, we_lrg2, we_trg1, ws_nil, ws_cons, wt_tr, wt_cmp, wt_chain, wt_not, wt_and1, wt_and2, wt_or1, wt_or2, wts_nil, wts_one, wr_bl, wr_non, wr_int, wr_tup, wn_add, wn_sub, wn_mul, wn_div, wn_mod, wn_pow, wn_neg, wn_cat, wn_tmul, wn_lmul, wn_ladd, wc_lt, wc_le, wc_gt, wc_ge, wc_eq, wc_ne, wc_isnon, wc_isnt, wx_tup, wx_loc, wl_tup, wl_loc, wv_tup, wb_len_tup, wb_len_loc, wb_int, wb_list, wb_tuple, wb_sum, wb_min, wb_max, wi_int_int, wi_int_bool, wi_int_tup, wi_tup_tup, wi_tup_int, wm_append, wm_extend, wm_popAt, wm_count, wss_nil, wss_one, wss_cons, seqK_nx, seqK_rt, seqK_bk, seqK_ct, wq_expr, wq_ret, wq_retN, wq_pass, wq_brk, wq_cont, wq_set, wq_setc, wq_par, wq_setIx, ws_setIx, wq_ife, wq_for, wq_whil, wq_never, outK_rt, outK_nx, wv_rng1, wv_rng2, wv_seq, wv_seq_tup, wv_seq_loc, wv_zip, wv_zip_tup, we_comp, wp_ok, wp_bad, wp_br, wp_bind, items_tup, tgF, setAll, startE_eq, nones, List.getElem?_cons_zero, List.getElem?_cons_succ, List.set_cons_zero, List.set_cons_succ, List.map_cons, List.map_nil, List.cons_append, List.nil_append, List.length_cons, List.length_nil, Nat.reduceAdd, Nat.reduceSub, Nat.reduceMul, Nat.reduceLT, Nat.reduceLeDiff, Nat.reduceEqDiff, Option.some.injEq, D.int.injEq, D.tup.injEq, D.loc.injEq, D.bl.injEq, exists_eq_left, exists_eq_left', exists_eq_right, true_and, and_true, if_true, if_false, ite_true, ite_false, reduceIte, Bool.false_eq_true, decide_eq_true_eq, eq_self, exists_const, Bool.not_true, Bool.not_false, Bool.not_eq_true', Bool.and_true, Bool.true_and, Bool.and_false, Bool.false_and, ne_eq, not_true_eq_false, not_false_eq_true, reduceCtorEq, Int.cast_ofNat_Int, Bool.not_eq_true, Bool.true_eq_false]
  split
  · next c => exact ⟨by rw [sizeLine_eq]; omega, rfl⟩
  · next c => exact ⟨hp, by rw [sizeLine_eq]; omega, rfl⟩
end
end Dx

/-! PProduct: the product of all lines, ways_left, early. -/
namespace Dx
open PySem L2
variable {E : Xc} {fs : Fns} {k : Nat} {h : HA}
/-- the lines, one by one -/
def stepsL : List Int → List Int → List Int
  | x :: xs, m :: ms => List.replicate m.toNat x ++ stepsL xs ms
  | _, _ => []
def prodS (p : Int) (ss : List Int) : List Int := ss.foldl (fun acc x => timesL p acc (lineL p x)) [1]
theorem prodS_snoc {p : Int} {ss : List Int} {x : Int} : prodS p (ss ++ [x]) = timesL p (prodS p ss) (lineL p x) := by unfold prodS; rw [List.foldl_append]; rfl
theorem lineL_len {p x : Int} : (lineL p x).length = 2 := by unfold lineL; split <;> rfl
theorem prodS_len {p : Int} : ∀ {ss : List Int}, (prodS p ss).length = ss.length + 1 := by
  intro ss
  have : ∀ (ss acc : List Int), 0 < acc.length → (ss.foldl (fun acc x => timesL p acc (lineL p x)) acc).length = ss.length + acc.length := by
    intro ss
    induction ss with
    | nil => intro acc _; simp
    | cons x ss ih =>
      intro acc ha
      rw [List.foldl_cons, ih _ (by rw [timesL_len, lineL_len]; omega), timesL_len, lineL_len, List.length_cons]
      omega
  exact this ss [1] (by simp)
theorem prodS_bd {p : Int} (hp : 0 < p) (hp2 : p ≤ 65521) : ∀ {ss : List Int}, ∀ x ∈ prodS p ss, 0 ≤ x ∧ x ≤ 65521 := by
  intro ss
  have : ∀ (ss acc : List Int), (∀ x ∈ acc, 0 ≤ x ∧ x ≤ 65521) → ∀ x ∈ ss.foldl (fun acc x => timesL p acc (lineL p x)) acc, 0 ≤ x ∧ x ≤ 65521 := by
    intro ss
    induction ss with
    | nil => intro acc ha; exact ha
    | cons y ss ih =>
      intro acc ha
      refine ih _ fun x hx => ?_
      unfold timesL at hx
      obtain ⟨c, _, e⟩ := List.mem_map.mp hx
      have := Int.emod_nonneg (part acc (lineL p y) acc.length c) (by omega : p ≠ 0)
      have := Int.emod_lt_of_pos (part acc (lineL p y) acc.length c) hp
      omega
  exact this ss [1] (by simp)
theorem prodS_Bd {p : Int} (hp : 0 < p) (hp2 : p ≤ 65521) {ss : List Int} : Bd (prodS p ss) := fun x hx => by have := prodS_bd hp hp2 x hx; omega
theorem steps_len : ∀ {xs ms : List Int}, ms.length = xs.length → (∀ m ∈ ms, 0 ≤ m) → ((stepsL xs ms).length : Int) = ms.sum
  | [], [], _, _ => rfl
  | x :: xs, m :: ms, e, hm => by
    have := steps_len (xs := xs) (ms := ms) (by simpa using e) fun y hy => hm y (List.mem_cons_of_mem _ hy)
    have := hm m List.mem_cons_self
    unfold stepsL
    rw [List.length_append, List.length_replicate, List.sum_cons]
    omega
theorem steps_take : ∀ {xs ms : List Int} {i : Nat} {x m : Int}, xs[i]? = some x → ms[i]? = some m → stepsL (xs.take (i + 1)) (ms.take (i + 1)) = stepsL (xs.take i) (ms.take i) ++ List.replicate m.toNat x
  | x :: xs, m :: ms, 0, _, _, e1, e2 => by cases e1; cases e2; simp [stepsL]
  | x :: xs, m :: ms, i + 1, _, _, e1, e2 => by
    rw [List.take_succ_cons, List.take_succ_cons, List.take_succ_cons, List.take_succ_cons]
    unfold stepsL
    rw [steps_take (xs := xs) (ms := ms) e1 e2, List.append_assoc]
  | [], _, i, _, _, e1, _ => by simp at e1
  | _ :: _, [], i, _, _, _, e2 => by simp at e2
theorem steps_take_le {xs ms : List Int} (e : ms.length = xs.length) (hm : ∀ m ∈ ms, 0 ≤ m) (i : Nat) : (stepsL (xs.take i) (ms.take i)).length ≤ (stepsL xs ms).length := by
  induction i generalizing xs ms with
  | zero => simp [stepsL]
  | succ i ih =>
    match xs, ms, e with
    | [], [], _ => simp [stepsL]
    | x :: xs, m :: ms, e =>
      rw [List.take_succ_cons, List.take_succ_cons]
      unfold stepsL
      rw [List.length_append, List.length_append]
      have := ih (xs := xs) (ms := ms) (by simpa using e) fun y hy => hm y (List.mem_cons_of_mem _ hy)
      omega
theorem zip_item {xs ys : List D} {i : Nat} {x : D} (hx : (Src.zipT xs ys).items[i]? = some x) : ∃ a b, xs[i]? = some a ∧ ys[i]? = some b ∧ x = .tup [a, b] := by
  simp only [Src.items, List.getElem?_zipWith] at hx
  cases ea : xs[i]? with
  | none => simp [ea] at hx
  | some a =>
    cases eb : ys[i]? with
    | none => simp [ea, eb] at hx
    | some b => simp [ea, eb] at hx; exact ⟨a, b, rfl, rfl, hx.symm⟩
theorem zip_len {xs ys : List D} (e : ys.length = xs.length) : (Src.zipT xs ys).items.length = xs.length := by simp [Src.items, e]
theorem map_int_at {xs : List Int} {i : Nat} {a : D} (e : (xs.map D.int)[i]? = some a) : ∃ x, xs[i]? = some x ∧ a = .int x := by
  rw [List.getElem?_map] at e
  cases h : xs[i]? with
  | none => rw [h] at e; cases e
  | some x => rw [h] at e; exact ⟨x, rfl, (Option.some.inj e).symm⟩
section
variable [hW : Has fs F.n_is_whole F.f_is_whole] [hP : Has fs F.n_is_prime F.f_is_prime] [hA : Has fs F.n_are_points F.f_are_points] [hG : Has fs F.n_made_ground F.f_made_ground] [hS : Has fs F.n_shelves F.f_shelves] [hL : Has fs F.n_made_lengths F.f_made_lengths]
structure Ls (p q : Int) (xs ms : List Int) : Prop where
  g : Gd p q xs
  len : ms.length = xs.length
  at_ : ∀ m ∈ ms, 0 ≤ m ∧ m ≤ 1024
theorem Gd.p0 {p q : Int} {xs : List Int} (g : Gd p q xs) : 0 < p := by have := g.prime.1; omega
section
variable [hT : Has fs F.n_times F.f_times] [hF : Has fs F.n_line F.f_line] [hPr : Has fs F.n_product F.f_product]
theorem product_ok {p q : Int} {xs ms : List Int} (L : Ls p q xs ms) (h98 : ms.sum ≤ 98) : Wp E (callF fs (k + 6) F.n_product [gD p q xs, ti ms] h) fun d h' => d = ti (prodS p (stepsL xs ms)) ∧ Kp [] h h' := by
  refine wp_call hPr.has rfl ?_
  unfold F.f_product
  have L0 : ∀ m ∈ ms, 0 ≤ m := fun m hm => (L.at_ m hm).1
  have L98 : (stepsL xs ms).length ≤ 98 := by have := steps_len L.len L0; omega
  simp only [we_int, we_str, we_bl, we_non, we_ty, we_cst, we_var, we_bin, we_cmp, we_chain, we_neg, we_not, we_and1, we_and2, we_or1, we_or2, we_ife, we_tup, we_lst, we_ix, we_sl, wo_none, wo_some, we_blt, we_call, we_meth, we_rev, we_srt, we_lrg1, we_lrg2, we_trg1, ws_nil, ws_cons, wt_tr, wt_cmp, wt_chain, wt_not, wt_and1, wt_and2, wt_or1, wt_or2, wts_nil, wts_one, wr_bl, wr_non, wr_int, wr_tup, wn_add, wn_sub, wn_mul, wn_div, wn_mod, wn_pow, wn_neg, wn_cat, wn_tmul, wn_lmul, wn_ladd, wc_lt, wc_le, wc_gt, wc_ge, wc_eq, wc_ne, wc_isnon, wc_isnt, wx_tup, wx_loc, wl_tup, wl_loc, wv_tup, wb_len_tup, wb_len_loc, wb_int, wb_list, wb_tuple, wb_sum, wb_min, wb_max, wi_int_int, wi_int_bool, wi_int_tup, wi_tup_tup, wi_tup_int, wm_append, wm_extend, wm_popAt, wm_count, wss_nil, wss_one, wss_cons, seqK_nx, seqK_rt, seqK_bk, seqK_ct, wq_expr, wq_ret, wq_retN, wq_pass, wq_brk, wq_cont, wq_set, wq_setc, wq_par, wq_setIx, ws_setIx, wq_ife, wq_for, wq_whil, wq_never, outK_rt, outK_nx, wv_rng1, wv_rng2, wv_seq, wv_seq_tup, wv_seq_loc, wv_zip, wv_zip_tup, we_comp, wp_ok, wp_bad, wp_br, wp_bind, items_tup, tgF, setAll, startE_eq, nones, List.getElem?_cons_zero, List.getElem?_cons_succ, List.set_cons_zero, List.set_cons_succ, List.map_cons, List.map_nil, List.cons_append, List.nil_append, List.length_cons, List.length_nil, Nat.reduceAdd, Nat.reduceSub, Nat.reduceMul, Nat.reduceLT, Nat.reduceLeDiff, Nat.reduceEqDiff, Option.some.injEq, D.int.injEq, D.tup.injEq, D.loc.injEq, D.bl.injEq, exists_eq_left, exists_eq_left', exists_eq_right, true_and, and_true, if_true, if_false, ite_true, ite_false, reduceIte, Bool.false_eq_true, decide_eq_true_eq, eq_self, exists_const, Bool.not_true, Bool.not_false, Bool.not_eq_true', Bool.and_true, Bool.true_and, Bool.and_false, Bool.false_and, ne_eq, not_true_eq_false, not_false_eq_true, reduceCtorEq, Int.cast_ofNat_Int, Bool.not_eq_true, Bool.true_eq_false, made_ground_ok L.g, made_lengths_ok L.g L.len L.at_, D.int.injEq, map_int_inj]
  rw [if_neg (by omega)]
  refine ⟨by rw [sizeLine_eq]; omega, ?_⟩
  refine wp_loop (fun i ρ h' => (∃ x7 x8 x9, ρ = [some (gD p q xs), some (ti ms), some (.int p), some (.int q), some (ti xs), some (ti ms), some (ti (prodS p (stepsL (xs.take i) (ms.take i)))), x7, x8, x9]) ∧ Kp [] h h') (fun _ _ _ _ => rfl) (fun i x ρ h' hx ⟨⟨x7, x8, x9, e⟩, kp⟩ => ?_) (fun ρ h' ⟨⟨x7, x8, x9, e⟩, kp⟩ => ?_) ⟨⟨none, none, none, rfl⟩, Kp.refl⟩
  · obtain ⟨a, b, ea, eb, ex⟩ := zip_item hx
    obtain ⟨y, ey, ea⟩ := map_int_at ea
    obtain ⟨m, em, eb⟩ := map_int_at eb
    subst e ex ea eb
    refine ⟨_, rfl, ?_⟩
    have hm := L.at_ m (List.mem_of_getElem? em)
    have tk := steps_take ey em
    have le := steps_take_le L.len L0 (i + 1)
    rw [tk, List.length_append, List.length_replicate] at le
    simp only [we_int, we_str, we_bl, we_non, we_ty, we_cst, we_var, we_bin, we_cmp, we_chain, we_neg, we_not, we_and1, we_and2, we_or1, we_or2, we_ife, we_tup, we_lst, we_ix, we_sl, wo_none, wo_some, we_blt, we_call, we_meth, we_rev, we_srt, we_lrg1, we_lrg2, we_trg1, ws_nil, ws_cons, wt_tr, wt_cmp, wt_chain, wt_not, wt_and1, wt_and2, wt_or1, wt_or2, wts_nil, wts_one, wr_bl, wr_non, wr_int, wr_tup, wn_add, wn_sub, wn_mul, wn_div, wn_mod, wn_pow, wn_neg, wn_cat, wn_tmul, wn_lmul, wn_ladd, wc_lt, wc_le, wc_gt, wc_ge, wc_eq, wc_ne, wc_isnon, wc_isnt, wx_tup, wx_loc, wl_tup, wl_loc, wv_tup, wb_len_tup, wb_len_loc, wb_int, wb_list, wb_tuple, wb_sum, wb_min, wb_max, wi_int_int, wi_int_bool, wi_int_tup, wi_tup_tup, wi_tup_int, wm_append, wm_extend, wm_popAt, wm_count, wss_nil, wss_one, wss_cons, seqK_nx, seqK_rt, seqK_bk, seqK_ct, wq_expr, wq_ret, wq_retN, wq_pass, wq_brk, wq_cont, wq_set, wq_setc, wq_par, wq_setIx, ws_setIx, wq_ife, wq_for, wq_whil, wq_never, outK_rt, outK_nx, wv_rng1, wv_rng2, wv_seq, wv_seq_tup, wv_seq_loc, wv_zip, wv_zip_tup, we_comp, wp_ok, wp_bad, wp_br, wp_bind, items_tup, tgF, setAll, startE_eq, nones, List.getElem?_cons_zero, List.getElem?_cons_succ, List.set_cons_zero, List.set_cons_succ, List.map_cons, List.map_nil, List.cons_append, List.nil_append, List.length_cons, List.length_nil, Nat.reduceAdd, Nat.reduceSub, Nat.reduceMul, Nat.reduceLT, Nat.reduceLeDiff, Nat.reduceEqDiff, Option.some.injEq, D.int.injEq, D.tup.injEq, D.loc.injEq, D.bl.injEq, exists_eq_left, exists_eq_left', exists_eq_right, true_and, and_true, if_true, if_false, ite_true, ite_false, reduceIte, Bool.false_eq_true, decide_eq_true_eq, eq_self, exists_const, Bool.not_true, Bool.not_false, Bool.not_eq_true', Bool.and_true, Bool.true_and, Bool.and_false, Bool.false_and, ne_eq, not_true_eq_false, not_false_eq_true, reduceCtorEq, Int.cast_ofNat_Int, Bool.not_eq_true, Bool.true_eq_false]
    refine ⟨by omega, ?_⟩
    refine wp_loop (fun t ρ h' => (∃ x9, ρ = [some (gD p q xs), some (ti ms), some (.int p), some (.int q), some (ti xs), some (ti ms), some (ti (prodS p (stepsL (xs.take i) (ms.take i) ++ List.replicate t y))), some (.int y), some (.int m), x9]) ∧ Kp [] h h') (fun _ _ _ _ => rfl) (fun t x ρ h' hx ⟨⟨x9, e⟩, kp⟩ => ?_) (fun ρ h' ⟨⟨x9, e⟩, kp⟩ => ?_) ⟨⟨x9, by simp only [List.replicate, List.append_nil]⟩, kp⟩
    · obtain ⟨ht, ex⟩ := rng_item hx
      subst e ex
      refine ⟨_, rfl, ?_⟩
      simp only [we_int, we_str, we_bl, we_non, we_ty, we_cst, we_var, we_bin, we_cmp, we_chain, we_neg, we_not, we_and1, we_and2, we_or1, we_or2, we_ife, we_tup, we_lst, we_ix, we_sl, wo_none, wo_some, we_blt, we_call, we_meth, we_rev, we_srt, we_lrg1, we_lrg2, we_trg1, ws_nil, ws_cons, wt_tr, wt_cmp, wt_chain, wt_not, wt_and1, wt_and2, wt_or1, wt_or2, wts_nil, wts_one, wr_bl, wr_non, wr_int, wr_tup, wn_add, wn_sub, wn_mul, wn_div, wn_mod, wn_pow, wn_neg, wn_cat, wn_tmul, wn_lmul, wn_ladd, wc_lt, wc_le, wc_gt, wc_ge, wc_eq, wc_ne, wc_isnon, wc_isnt, wx_tup, wx_loc, wl_tup, wl_loc, wv_tup, wb_len_tup, wb_len_loc, wb_int, wb_list, wb_tuple, wb_sum, wb_min, wb_max, wi_int_int, wi_int_bool, wi_int_tup, wi_tup_tup, wi_tup_int, wm_append, wm_extend, wm_popAt, wm_count, wss_nil, wss_one, wss_cons, seqK_nx, seqK_rt, seqK_bk, seqK_ct, wq_expr, wq_ret, wq_retN, wq_pass, wq_brk, wq_cont, wq_set, wq_setc, wq_par, wq_setIx, ws_setIx, wq_ife, wq_for, wq_whil, wq_never, outK_rt, outK_nx, wv_rng1, wv_rng2, wv_seq, wv_seq_tup, wv_seq_loc, wv_zip, wv_zip_tup, we_comp, wp_ok, wp_bad, wp_br, wp_bind, items_tup, tgF, setAll, startE_eq, nones, List.getElem?_cons_zero, List.getElem?_cons_succ, List.set_cons_zero, List.set_cons_succ, List.map_cons, List.map_nil, List.cons_append, List.nil_append, List.length_cons, List.length_nil, Nat.reduceAdd, Nat.reduceSub, Nat.reduceMul, Nat.reduceLT, Nat.reduceLeDiff, Nat.reduceEqDiff, Option.some.injEq, D.int.injEq, D.tup.injEq, D.loc.injEq, D.bl.injEq, exists_eq_left, exists_eq_left', exists_eq_right, true_and, and_true, if_true, if_false, ite_true, ite_false, reduceIte, Bool.false_eq_true, decide_eq_true_eq, eq_self, exists_const, Bool.not_true, Bool.not_false, Bool.not_eq_true', Bool.and_true, Bool.true_and, Bool.and_false, Bool.false_and, ne_eq, not_true_eq_false, not_false_eq_true, reduceCtorEq, Int.cast_ofNat_Int, Bool.not_eq_true, Bool.true_eq_false, line_ok L.g.p0]
      refine (times_ok L.g.p0 (prodS_Bd L.g.p0 L.g.hp) (by rw [prodS_len, List.length_append, List.length_replicate]; omega) (by rw [lineL_len]; omega) (by rw [lineL_len]; omega)).mono fun d h2 ⟨ed, k2⟩ => ?_
      subst ed
      refine ⟨⟨some (.int (t : Int)), ?_⟩, kp.trans k2⟩
      rw [List.replicate_succ', ← List.append_assoc, prodS_snoc]
    · subst e
      rw [rng_len, ← tk]
      exact ⟨⟨_, _, _, rfl⟩, kp⟩
  · subst e
    rw [zip_len (by simpa using L.len), List.length_map, List.take_length, ← L.len, List.take_length]
    simp only [we_int, we_str, we_bl, we_non, we_ty, we_cst, we_var, we_bin, we_cmp, we_chain, we_neg, we_not, we_and1, we_and2, we_or1, we_or2, we_ife, we_tup, we_lst, we_ix, we_sl, wo_none, wo_some, we_blt, we_call, we_meth, we_rev, we_srt, we_lrg1, we_lrg2, we_trg1, ws_nil, ws_cons, wt_tr, wt_cmp, wt_chain, wt_not, wt_and1, wt_and2, wt_or1, wt_or2, wts_nil, wts_one, wr_bl, wr_non, wr_int, wr_tup, wn_add, wn_sub, wn_mul, wn_div, wn_mod, wn_pow, wn_neg, wn_cat, wn_tmul, wn_lmul, wn_ladd, wc_lt, wc_le, wc_gt, wc_ge, wc_eq, wc_ne, wc_isnon, wc_isnt, wx_tup, wx_loc, wl_tup, wl_loc, wv_tup, wb_len_tup, wb_len_loc, wb_int, wb_list, wb_tuple, wb_sum, wb_min, wb_max, wi_int_int, wi_int_bool, wi_int_tup, wi_tup_tup, wi_tup_int, wm_append, wm_extend, wm_popAt, wm_count, wss_nil, wss_one, wss_cons, seqK_nx, seqK_rt, seqK_bk, seqK_ct, wq_expr, wq_ret, wq_retN, wq_pass, wq_brk, wq_cont, wq_set, wq_setc, wq_par, wq_setIx, ws_setIx, wq_ife, wq_for, wq_whil, wq_never, outK_rt, outK_nx, wv_rng1, wv_rng2, wv_seq, wv_seq_tup, wv_seq_loc, wv_zip, wv_zip_tup, we_comp, wp_ok, wp_bad, wp_br, wp_bind, items_tup, tgF, setAll, startE_eq, nones, List.getElem?_cons_zero, List.getElem?_cons_succ, List.set_cons_zero, List.set_cons_succ, List.map_cons, List.map_nil, List.cons_append, List.nil_append, List.length_cons, List.length_nil, Nat.reduceAdd, Nat.reduceSub, Nat.reduceMul, Nat.reduceLT, Nat.reduceLeDiff, Nat.reduceEqDiff, Option.some.injEq, D.int.injEq, D.tup.injEq, D.loc.injEq, D.bl.injEq, exists_eq_left, exists_eq_left', exists_eq_right, true_and, and_true, if_true, if_false, ite_true, ite_false, reduceIte, Bool.false_eq_true, decide_eq_true_eq, eq_self, exists_const, Bool.not_true, Bool.not_false, Bool.not_eq_true', Bool.and_true, Bool.true_and, Bool.and_false, Bool.false_and, ne_eq, not_true_eq_false, not_false_eq_true, reduceCtorEq, Int.cast_ofNat_Int, Bool.not_eq_true, Bool.true_eq_false]
    exact kp
end
section
variable [hY : Has fs F.n_ways_left F.f_ways_left]
def freeI (q : Int) (ms : List Int) : Int := if q - ms.sum > 0 then q - ms.sum else 0
theorem ways_left_ok {p q : Int} {xs ms : List Int} (L : Ls p q xs ms) : callF fs (k + 6) F.n_ways_left [gD p q xs, ti ms] h = .ok (.int (freeI q ms)) h := by
  refine eq_of_wp (wp_call hY.has rfl ?_)
  unfold F.f_ways_left
  simp only [we_int, we_str, we_bl, we_non, we_ty, we_cst, we_var, we_bin, we_cmp, we_chain, we_neg, we_not, we_and1, we_and2, we_or1, we_or2, we_ife, we_tup, we_lst, we_ix, we_sl, wo_none, wo_some, we_blt, we_call, we_meth, we_rev, we_srt, we_lrg1, we_lrg2, we_trg1, ws_nil, ws_cons, wt_tr, wt_cmp, wt_chain, wt_not, wt_and1, wt_and2, wt_or1, wt_or2, wts_nil, wts_one, wr_bl, wr_non, wr_int, wr_tup, wn_add, wn_sub, wn_mul, wn_div, wn_mod, wn_pow, wn_neg, wn_cat, wn_tmul, wn_lmul, wn_ladd, wc_lt, wc_le, wc_gt, wc_ge, wc_eq, wc_ne, wc_isnon, wc_isnt, wx_tup, wx_loc, wl_tup, wl_loc, wv_tup, wb_len_tup, wb_len_loc, wb_int, wb_list, wb_tuple, wb_sum, wb_min, wb_max, wi_int_int, wi_int_bool, wi_int_tup, wi_tup_tup, wi_tup_int, wm_append, wm_extend, wm_popAt, wm_count, wss_nil, wss_one, wss_cons, seqK_nx, seqK_rt, seqK_bk, seqK_ct, wq_expr, wq_ret, wq_retN, wq_pass, wq_brk, wq_cont, wq_set, wq_setc, wq_par, wq_setIx, ws_setIx, wq_ife, wq_for, wq_whil, wq_never, outK_rt, outK_nx, wv_rng1, wv_rng2, wv_seq, wv_seq_tup, wv_seq_loc, wv_zip, wv_zip_tup, we_comp, wp_ok, wp_bad, wp_br, wp_bind, items_tup, tgF, setAll, startE_eq, nones, List.getElem?_cons_zero, List.getElem?_cons_succ, List.set_cons_zero, List.set_cons_succ, List.map_cons, List.map_nil, List.cons_append, List.nil_append, List.length_cons, List.length_nil, Nat.reduceAdd, Nat.reduceSub, Nat.reduceMul, Nat.reduceLT, Nat.reduceLeDiff, Nat.reduceEqDiff, Option.some.injEq, D.int.injEq, D.tup.injEq, D.loc.injEq, D.bl.injEq, exists_eq_left, exists_eq_left', exists_eq_right, true_and, and_true, if_true, if_false, ite_true, ite_false, reduceIte, Bool.false_eq_true, decide_eq_true_eq, eq_self, exists_const, Bool.not_true, Bool.not_false, Bool.not_eq_true', Bool.and_true, Bool.true_and, Bool.and_false, Bool.false_and, ne_eq, not_true_eq_false, not_false_eq_true, reduceCtorEq, Int.cast_ofNat_Int, Bool.not_eq_true, Bool.true_eq_false, made_lengths_ok L.g L.len L.at_, map_int_inj, gD_1]
  unfold freeI
  rfl
variable [hT : Has fs F.n_times F.f_times] [hF : Has fs F.n_line F.f_line] [hPr : Has fs F.n_product F.f_product] [hE : Has fs F.n_early F.f_early]
/-- all numbers of the lines from place - free + 1 to place are 0 -/
def quiet (ln : List Int) (free : Int) (place : Nat) : Bool := (List.range ln.length).all fun a => !(decide ((place : Int) - free + 1 ≤ (a : Int)) && decide ((a : Int) ≤ place)) || decide (ln.getD a 0 = 0)
def earlyL (p q : Int) (xs ms : List Int) : List Int :=
  if freeI q ms = 0 then (List.range q.toNat).map fun i => ((i : Nat) : Int)
  else ((List.range q.toNat).filter fun place => quiet (prodS p (stepsL xs ms)) (freeI q ms) place).map fun i => ((i : Nat) : Int)
def nzF (ln : List Int) : D → Option D
  | .int a => if ln.getD a.toNat 0 = 0 then none else some (.int 1)
  | _ => none
theorem nzF_at {ln : List Int} {a : Int} : nzF ln (.int a) = if ln.getD a.toNat 0 = 0 then none else some (.int 1) := rfl
theorem nzF_int {ln : List Int} {x y : D} (e : nzF ln x = some y) : y = .int 1 := by
  unfold nzF at e
  split at e
  · split at e
    · cases e
    · exact (Option.some.inj e).symm
  · cases e
theorem quiet_eq {ln : List Int} {free lo hi : Int} {i : Nat} (hA : (if (i : Int) - free + 1 > 0 then (i : Int) - free + 1 else 0) = lo) (hB : (if (ln.length : Int) < (i : Int) + 1 then (ln.length : Int) else (i : Int) + 1) = hi) :
    ((Src.rng lo (hi - lo).toNat).items.filterMap (nzF ln)).isEmpty = quiet ln free i := by
  rw [Bool.eq_iff_iff, List.isEmpty_iff, List.filterMap_eq_nil_iff]
  unfold quiet
  rw [List.all_eq_true]
  constructor
  · intro q a ha
    have ha := List.mem_range.mp ha
    by_cases c : (i : Int) - free + 1 ≤ (a : Int) ∧ (a : Int) ≤ i
    · have m : D.int (a : Int) ∈ (Src.rng lo (hi - lo).toNat).items := by
        simp only [Src.items, List.mem_map, List.mem_range]
        refine ⟨((a : Int) - lo).toNat, ?_, ?_⟩
        · rw [← hA, ← hB]; split <;> split <;> omega
        · have : lo ≤ a := by rw [← hA]; split <;> omega
          congr 1; omega
      have z := q _ m
      rw [nzF_at] at z
      have e : ln.getD ((a : Int)).toNat 0 = 0 := by
        by_cases d : ln.getD ((a : Int)).toNat 0 = 0
        · exact d
        · rw [if_neg d] at z; cases z
      rw [Int.toNat_natCast] at e
      rw [e]; simp
    · have : (decide ((i : Int) - free + 1 ≤ (a : Int)) && decide ((a : Int) ≤ i)) = false := by
        rw [Bool.eq_false_iff]
        intro z
        rw [Bool.and_eq_true] at z
        exact c ⟨of_decide_eq_true z.1, of_decide_eq_true z.2⟩
      rw [this]; rfl
  · intro q x hx
    obtain ⟨j, hj, ex⟩ := rng_items_mem hx
    subst ex
    have lo0 : 0 ≤ lo := by rw [← hA]; split <;> omega
    have hl : (i : Int) - free + 1 ≤ lo := by rw [← hA]; split <;> omega
    have hh : hi ≤ ln.length ∧ hi ≤ (i : Int) + 1 := by rw [← hB]; split <;> omega
    have z := q (lo + (j : Int)).toNat (List.mem_range.mpr (by omega))
    have e1 : (decide ((i : Int) - free + 1 ≤ (((lo + (j : Int)).toNat : Nat) : Int)) && decide ((((lo + (j : Int)).toNat : Nat) : Int) ≤ i)) = true := by
      rw [Bool.and_eq_true]
      exact ⟨decide_eq_true (by omega), decide_eq_true (by omega)⟩
    rw [e1, Bool.not_true, Bool.false_or] at z
    rw [nzF_at, if_pos (of_decide_eq_true z)]
theorem early_ok {p q : Int} {xs ms : List Int} (L : Ls p q xs ms) : Wp E (callF fs (k + 7) F.n_early [gD p q xs, ti ms] h) fun d h' => d = ti (earlyL p q xs ms) ∧ Kp [] h h' := by
  refine wp_call hE.has rfl ?_
  unfold F.f_early
  have q12 := L.g.q12
  have q1 := L.g.q1
  simp only [we_int, we_str, we_bl, we_non, we_ty, we_cst, we_var, we_bin, we_cmp, we_chain, we_neg, we_not, we_and1, we_and2, we_or1, we_or2, we_ife, we_tup, we_lst, we_ix, we_sl, wo_none, wo_some, we_blt, we_call, we_meth, we_rev, we_srt, we_lrg1, we_lrg2, we_trg1, ws_nil, ws_cons, wt_tr, wt_cmp, wt_chain, wt_not, wt_and1, wt_and2, wt_or1, wt_or2, wts_nil, wts_one, wr_bl, wr_non, wr_int, wr_tup, wn_add, wn_sub, wn_mul, wn_div, wn_mod, wn_pow, wn_neg, wn_cat, wn_tmul, wn_lmul, wn_ladd, wc_lt, wc_le, wc_gt, wc_ge, wc_eq, wc_ne, wc_isnon, wc_isnt, wx_tup, wx_loc, wl_tup, wl_loc, wv_tup, wb_len_tup, wb_len_loc, wb_int, wb_list, wb_tuple, wb_sum, wb_min, wb_max, wi_int_int, wi_int_bool, wi_int_tup, wi_tup_tup, wi_tup_int, wm_append, wm_extend, wm_popAt, wm_count, wss_nil, wss_one, wss_cons, seqK_nx, seqK_rt, seqK_bk, seqK_ct, wq_expr, wq_ret, wq_retN, wq_pass, wq_brk, wq_cont, wq_set, wq_setc, wq_par, wq_setIx, ws_setIx, wq_ife, wq_for, wq_whil, wq_never, outK_rt, outK_nx, wv_rng1, wv_rng2, wv_seq, wv_seq_tup, wv_seq_loc, wv_zip, wv_zip_tup, we_comp, wp_ok, wp_bad, wp_br, wp_bind, items_tup, tgF, setAll, startE_eq, nones, List.getElem?_cons_zero, List.getElem?_cons_succ, List.set_cons_zero, List.set_cons_succ, List.map_cons, List.map_nil, List.cons_append, List.nil_append, List.length_cons, List.length_nil, Nat.reduceAdd, Nat.reduceSub, Nat.reduceMul, Nat.reduceLT, Nat.reduceLeDiff, Nat.reduceEqDiff, Option.some.injEq, D.int.injEq, D.tup.injEq, D.loc.injEq, D.bl.injEq, exists_eq_left, exists_eq_left', exists_eq_right, true_and, and_true, if_true, if_false, ite_true, ite_false, reduceIte, Bool.false_eq_true, decide_eq_true_eq, eq_self, exists_const, Bool.not_true, Bool.not_false, Bool.not_eq_true', Bool.and_true, Bool.true_and, Bool.and_false, Bool.false_and, ne_eq, not_true_eq_false, not_false_eq_true, reduceCtorEq, Int.cast_ofNat_Int, Bool.not_eq_true, Bool.true_eq_false, made_ground_ok L.g, ways_left_ok L, gD_1]
  split
  · next c =>
    refine ⟨by unfold rgOk; omega, ?_, Kp.refl⟩
    rw [rgD_ti]
    unfold earlyL
    rw [if_pos c]
  · next c =>
    have L0 : ∀ m ∈ ms, 0 ≤ m := fun m hm => (L.at_ m hm).1
    have sum0 : 0 ≤ ms.sum := by have := steps_len L.len L0; omega
    have hfr : freeI q ms = q - ms.sum ∧ 0 < q - ms.sum := by
      unfold freeI at c ⊢
      split at c
      · next z => rw [if_pos z]; exact ⟨rfl, z⟩
      · exact absurd rfl c
    refine (product_ok L (by omega)).mono fun d h1 ⟨ed, k1⟩ => ?_
    subst ed
    generalize hln : prodS p (stepsL xs ms) = ln
    have hlen : ln.length ≤ 13 := by
      rw [← hln, prodS_len]
      have := steps_len L.len L0
      omega
    refine ⟨by rw [sizeLine_eq]; omega, by omega, ?_⟩
    generalize hl : h1.length = l
    refine wp_loop (fun i ρ h' => (∃ x6 x7, ρ = [some (gD p q xs), some (ti ms), some (.int q), some (.int (freeI q ms)), some (ti ln), some (.loc l), x6, x7]) ∧ Kp [] h h' ∧ h'[l]? = some (.lst ((((List.range i).filter fun place => quiet ln (freeI q ms) place).map fun i => ((i : Nat) : Int)).map D.int))) (fun _ _ _ _ => rfl) (fun i x ρ h' hx ⟨⟨x6, x7, e⟩, kp, hb⟩ => ?_) (fun ρ h' ⟨⟨x6, x7, e⟩, kp, hb⟩ => ?_) ⟨⟨none, none, rfl⟩, k1.app, by subst hl; exact get_new⟩
    · obtain ⟨hi, ex⟩ := rng_item hx
      subst e ex
      refine ⟨_, rfl, ?_⟩
      simp only [we_int, we_str, we_bl, we_non, we_ty, we_cst, we_var, we_bin, we_cmp, we_chain, we_neg, we_not, we_and1, we_and2, we_or1, we_or2, we_ife, we_tup, we_lst, we_ix, we_sl, wo_none, wo_some, we_blt, we_call, we_meth, we_rev, we_srt, we_lrg1, we_lrg2, we_trg1, ws_nil, ws_cons, wt_tr, wt_cmp, wt_chain, wt_not, wt_and1, wt_and2, wt_or1, wt_or2, wts_nil, wts_one, wr_bl, wr_non, wr_int, wr_tup, wn_add, wn_sub, wn_mul, wn_div, wn_mod, wn_pow, wn_neg, wn_cat, wn_tmul, wn_lmul, wn_ladd, wc_lt, wc_le, wc_gt, wc_ge, wc_eq, wc_ne, wc_isnon, wc_isnt, wx_tup, wx_loc, wl_tup, wl_loc, wv_tup, wb_len_tup, wb_len_loc, wb_int, wb_list, wb_tuple, wb_sum, wb_min, wb_max, wi_int_int, wi_int_bool, wi_int_tup, wi_tup_tup, wi_tup_int, wm_append, wm_extend, wm_popAt, wm_count, wss_nil, wss_one, wss_cons, seqK_nx, seqK_rt, seqK_bk, seqK_ct, wq_expr, wq_ret, wq_retN, wq_pass, wq_brk, wq_cont, wq_set, wq_setc, wq_par, wq_setIx, ws_setIx, wq_ife, wq_for, wq_whil, wq_never, outK_rt, outK_nx, wv_rng1, wv_rng2, wv_seq, wv_seq_tup, wv_seq_loc, wv_zip, wv_zip_tup, we_comp, wp_ok, wp_bad, wp_br, wp_bind, items_tup, tgF, setAll, startE_eq, nones, List.getElem?_cons_zero, List.getElem?_cons_succ, List.set_cons_zero, List.set_cons_succ, List.map_cons, List.map_nil, List.cons_append, List.nil_append, List.length_cons, List.length_nil, Nat.reduceAdd, Nat.reduceSub, Nat.reduceMul, Nat.reduceLT, Nat.reduceLeDiff, Nat.reduceEqDiff, Option.some.injEq, D.int.injEq, D.tup.injEq, D.loc.injEq, D.bl.injEq, exists_eq_left, exists_eq_left', exists_eq_right, true_and, and_true, if_true, if_false, ite_true, ite_false, reduceIte, Bool.false_eq_true, decide_eq_true_eq, eq_self, exists_const, Bool.not_true, Bool.not_false, Bool.not_eq_true', Bool.and_true, Bool.true_and, Bool.and_false, Bool.false_and, ne_eq, not_true_eq_false, not_false_eq_true, reduceCtorEq, Int.cast_ofNat_Int, Bool.not_eq_true, Bool.true_eq_false, List.length_map]
      generalize hA : (if (i : Int) - freeI q ms + 1 > 0 then (i : Int) - freeI q ms + 1 else 0) = lo
      generalize hB : (if (ln.length : Int) < (i : Int) + 1 then (ln.length : Int) else (i : Int) + 1) = hi
      have lo0 : 0 ≤ lo := by rw [← hA]; split <;> omega
      have hi0 : 0 ≤ hi ∧ hi ≤ ln.length ∧ hi ≤ (i : Int) + 1 := by rw [← hB]; split <;> omega
      have lo13 : lo ≤ 13 := by rw [← hA]; split <;> omega
      refine ⟨by omega, ?_⟩
      refine wp_comp (S := Src.rng lo (hi - lo).toNat) (nzF ln) rfl (by rw [rng_len, sizeLine_eq]; omega) (fun x hx h2 k2 => ?_) (fun h2 k2 hr => ?_)
      · obtain ⟨a, ha, ex⟩ := rng_items_mem hx
        subst ex
        refine ⟨_, rfl, ?_⟩
        have ha2 : (lo + (a : Int)).toNat < ln.length := by omega
        have ea : (lo + (a : Int)) = (((lo + (a : Int)).toNat : Nat) : Int) := by omega
        have at1 : atI (ln.map D.int) (lo + (a : Int)) = some (.int (ln.getD (lo + (a : Int)).toNat 0)) := by
          rw [getD_of ha2]
          exact atI_of ea (by rw [List.getElem?_map, List.getElem?_eq_getElem ha2]; rfl)
        simp only [we_int, we_str, we_bl, we_non, we_ty, we_cst, we_var, we_bin, we_cmp, we_chain, we_neg, we_not, we_and1, we_and2, we_or1, we_or2, we_ife, we_tup, we_lst, we_ix, we_sl, wo_none, wo_some, we_blt, we_call, we_meth, we_rev, we_srt, we_lrg1, we_lrg2, we_trg1, ws_nil, ws_cons, wt_tr, wt_cmp, wt_chain, wt_not, wt_and1, wt_and2, wt_or1, wt_or2, wts_nil, wts_one, wr_bl, wr_non, wr_int, wr_tup, wn_add, wn_sub, wn_mul, wn_div, wn_mod, wn_pow, wn_neg, wn_cat, wn_tmul, wn_lmul, wn_ladd, wc_lt, wc_le, wc_gt, wc_ge, wc_eq, wc_ne, wc_isnon, wc_isnt, wx_tup, wx_loc, wl_tup, wl_loc, wv_tup, wb_len_tup, wb_len_loc, wb_int, wb_list, wb_tuple, wb_sum, wb_min, wb_max, wi_int_int, wi_int_bool, wi_int_tup, wi_tup_tup, wi_tup_int, wm_append, wm_extend, wm_popAt, wm_count, wss_nil, wss_one, wss_cons, seqK_nx, seqK_rt, seqK_bk, seqK_ct, wq_expr, wq_ret, wq_retN, wq_pass, wq_brk, wq_cont, wq_set, wq_setc, wq_par, wq_setIx, ws_setIx, wq_ife, wq_for, wq_whil, wq_never, outK_rt, outK_nx, wv_rng1, wv_rng2, wv_seq, wv_seq_tup, wv_seq_loc, wv_zip, wv_zip_tup, we_comp, wp_ok, wp_bad, wp_br, wp_bind, items_tup, tgF, setAll, startE_eq, nones, List.getElem?_cons_zero, List.getElem?_cons_succ, List.set_cons_zero, List.set_cons_succ, List.map_cons, List.map_nil, List.cons_append, List.nil_append, List.length_cons, List.length_nil, Nat.reduceAdd, Nat.reduceSub, Nat.reduceMul, Nat.reduceLT, Nat.reduceLeDiff, Nat.reduceEqDiff, Option.some.injEq, D.int.injEq, D.tup.injEq, D.loc.injEq, D.bl.injEq, exists_eq_left, exists_eq_left', exists_eq_right, true_and, and_true, if_true, if_false, ite_true, ite_false, reduceIte, Bool.false_eq_true, decide_eq_true_eq, eq_self, exists_const, Bool.not_true, Bool.not_false, Bool.not_eq_true', Bool.and_true, Bool.true_and, Bool.and_false, Bool.false_and, ne_eq, not_true_eq_false, not_false_eq_true, reduceCtorEq, Int.cast_ofNat_Int, Bool.not_eq_true, Bool.true_eq_false, wipeE, at1]
        refine ⟨Kp.refl, ?_⟩
        by_cases z : ln.getD (lo + (a : Int)).toNat 0 = 0
        · simp only [z, we_int, we_str, we_bl, we_non, we_ty, we_cst, we_var, we_bin, we_cmp, we_chain, we_neg, we_not, we_and1, we_and2, we_or1, we_or2, we_ife, we_tup, we_lst, we_ix, we_sl, wo_none, wo_some, we_blt, we_call, we_meth, we_rev, we_srt, we_lrg1, we_lrg2, we_trg1, ws_nil, ws_cons, wt_tr, wt_cmp, wt_chain, wt_not, wt_and1, wt_and2, wt_or1, wt_or2, wts_nil, wts_one, wr_bl, wr_non, wr_int, wr_tup, wn_add, wn_sub, wn_mul, wn_div, wn_mod, wn_pow, wn_neg, wn_cat, wn_tmul, wn_lmul, wn_ladd, wc_lt, wc_le, wc_gt, wc_ge, wc_eq, wc_ne, wc_isnon, wc_isnt, wx_tup, wx_loc, wl_tup, wl_loc, wv_tup, wb_len_tup, wb_len_loc, wb_int, wb_list, wb_tuple, wb_sum, wb_min, wb_max, wi_int_int, wi_int_bool, wi_int_tup, wi_tup_tup, wi_tup_int, wm_append, wm_extend, wm_popAt, wm_count, wss_nil, wss_one, wss_cons, seqK_nx, seqK_rt, seqK_bk, seqK_ct, wq_expr, wq_ret, wq_retN, wq_pass, wq_brk, wq_cont, wq_set, wq_setc, wq_par, wq_setIx, ws_setIx, wq_ife, wq_for, wq_whil, wq_never, outK_rt, outK_nx, wv_rng1, wv_rng2, wv_seq, wv_seq_tup, wv_seq_loc, wv_zip, wv_zip_tup, we_comp, wp_ok, wp_bad, wp_br, wp_bind, items_tup, tgF, setAll, startE_eq, nones, List.getElem?_cons_zero, List.getElem?_cons_succ, List.set_cons_zero, List.set_cons_succ, List.map_cons, List.map_nil, List.cons_append, List.nil_append, List.length_cons, List.length_nil, Nat.reduceAdd, Nat.reduceSub, Nat.reduceMul, Nat.reduceLT, Nat.reduceLeDiff, Nat.reduceEqDiff, Option.some.injEq, D.int.injEq, D.tup.injEq, D.loc.injEq, D.bl.injEq, exists_eq_left, exists_eq_left', exists_eq_right, true_and, and_true, if_true, if_false, ite_true, ite_false, reduceIte, Bool.false_eq_true, decide_eq_true_eq, eq_self, exists_const, Bool.not_true, Bool.not_false, Bool.not_eq_true', Bool.and_true, Bool.true_and, Bool.and_false, Bool.false_and, ne_eq, not_true_eq_false, not_false_eq_true, reduceCtorEq, Int.cast_ofNat_Int, Bool.not_eq_true, Bool.true_eq_false, nzF_at]
        · simp only [z, we_int, we_str, we_bl, we_non, we_ty, we_cst, we_var, we_bin, we_cmp, we_chain, we_neg, we_not, we_and1, we_and2, we_or1, we_or2, we_ife, we_tup, we_lst, we_ix, we_sl, wo_none, wo_some, we_blt, we_call, we_meth, we_rev, we_srt, we_lrg1, we_lrg2, we_trg1, ws_nil, ws_cons, wt_tr, wt_cmp, wt_chain, wt_not, wt_and1, wt_and2, wt_or1, wt_or2, wts_nil, wts_one, wr_bl, wr_non, wr_int, wr_tup, wn_add, wn_sub, wn_mul, wn_div, wn_mod, wn_pow, wn_neg, wn_cat, wn_tmul, wn_lmul, wn_ladd, wc_lt, wc_le, wc_gt, wc_ge, wc_eq, wc_ne, wc_isnon, wc_isnt, wx_tup, wx_loc, wl_tup, wl_loc, wv_tup, wb_len_tup, wb_len_loc, wb_int, wb_list, wb_tuple, wb_sum, wb_min, wb_max, wi_int_int, wi_int_bool, wi_int_tup, wi_tup_tup, wi_tup_int, wm_append, wm_extend, wm_popAt, wm_count, wss_nil, wss_one, wss_cons, seqK_nx, seqK_rt, seqK_bk, seqK_ct, wq_expr, wq_ret, wq_retN, wq_pass, wq_brk, wq_cont, wq_set, wq_setc, wq_par, wq_setIx, ws_setIx, wq_ife, wq_for, wq_whil, wq_never, outK_rt, outK_nx, wv_rng1, wv_rng2, wv_seq, wv_seq_tup, wv_seq_loc, wv_zip, wv_zip_tup, we_comp, wp_ok, wp_bad, wp_br, wp_bind, items_tup, tgF, setAll, startE_eq, nones, List.getElem?_cons_zero, List.getElem?_cons_succ, List.set_cons_zero, List.set_cons_succ, List.map_cons, List.map_nil, List.cons_append, List.nil_append, List.length_cons, List.length_nil, Nat.reduceAdd, Nat.reduceSub, Nat.reduceMul, Nat.reduceLT, Nat.reduceLeDiff, Nat.reduceEqDiff, Option.some.injEq, D.int.injEq, D.tup.injEq, D.loc.injEq, D.bl.injEq, exists_eq_left, exists_eq_left', exists_eq_right, true_and, and_true, if_true, if_false, ite_true, ite_false, reduceIte, Bool.false_eq_true, decide_eq_true_eq, eq_self, exists_const, Bool.not_true, Bool.not_false, Bool.not_eq_true', Bool.and_true, Bool.true_and, Bool.and_false, Bool.false_and, ne_eq, not_true_eq_false, not_false_eq_true, reduceCtorEq, Int.cast_ofNat_Int, Bool.not_eq_true, Bool.true_eq_false, nzF_at]
          exact Kp.refl
      · have e1 : items? (h2 ++ [O.lst []]) (.loc h'.length) = some _ := items_lst (get_app hr)
        have e2 : items? (h2 ++ [O.lst []]) (.loc h2.length) = some [] := items_lst get_new
        have ok1 : okDs 39 ((Src.rng lo (hi - lo).toNat).items.filterMap (nzF ln)) = true := by
          refine okDs_all fun y hy => ?_
          obtain ⟨x, _, ex⟩ := List.mem_filterMap.mp hy
          rw [nzF_int ex]; rfl
        refine ⟨by rw [sizeLine_eq]; omega, ?_⟩
        rw [wc_eqL e1 e2 ok1 (by unfold okDs; rfl), beqs_nil]
        have kl : l < h'.length := get_lt' hb
        have hb2 : (h2 ++ [O.lst []])[l]? = _ := get_app (k2.get hb (by simp))
        have hge : h.length ≤ l := by rw [← hl]; exact k1.len
        have qk := quiet_eq hA hB
        rw [qk]
        simp only [we_int, we_str, we_bl, we_non, we_ty, we_cst, we_var, we_bin, we_cmp, we_chain, we_neg, we_not, we_and1, we_and2, we_or1, we_or2, we_ife, we_tup, we_lst, we_ix, we_sl, wo_none, wo_some, we_blt, we_call, we_meth, we_rev, we_srt, we_lrg1, we_lrg2, we_trg1, ws_nil, ws_cons, wt_tr, wt_cmp, wt_chain, wt_not, wt_and1, wt_and2, wt_or1, wt_or2, wts_nil, wts_one, wr_bl, wr_non, wr_int, wr_tup, wn_add, wn_sub, wn_mul, wn_div, wn_mod, wn_pow, wn_neg, wn_cat, wn_tmul, wn_lmul, wn_ladd, wc_lt, wc_le, wc_gt, wc_ge, wc_eq, wc_ne, wc_isnon, wc_isnt, wx_tup, wx_loc, wl_tup, wl_loc, wv_tup, wb_len_tup, wb_len_loc, wb_int, wb_list, wb_tuple, wb_sum, wb_min, wb_max, wi_int_int, wi_int_bool, wi_int_tup, wi_tup_tup, wi_tup_int, wm_append, wm_extend, wm_popAt, wm_count, wss_nil, wss_one, wss_cons, seqK_nx, seqK_rt, seqK_bk, seqK_ct, wq_expr, wq_ret, wq_retN, wq_pass, wq_brk, wq_cont, wq_set, wq_setc, wq_par, wq_setIx, ws_setIx, wq_ife, wq_for, wq_whil, wq_never, outK_rt, outK_nx, wv_rng1, wv_rng2, wv_seq, wv_seq_tup, wv_seq_loc, wv_zip, wv_zip_tup, we_comp, wp_ok, wp_bad, wp_br, wp_bind, items_tup, tgF, setAll, startE_eq, nones, List.getElem?_cons_zero, List.getElem?_cons_succ, List.set_cons_zero, List.set_cons_succ, List.map_cons, List.map_nil, List.cons_append, List.nil_append, List.length_cons, List.length_nil, Nat.reduceAdd, Nat.reduceSub, Nat.reduceMul, Nat.reduceLT, Nat.reduceLeDiff, Nat.reduceEqDiff, Option.some.injEq, D.int.injEq, D.tup.injEq, D.loc.injEq, D.bl.injEq, exists_eq_left, exists_eq_left', exists_eq_right, true_and, and_true, if_true, if_false, ite_true, ite_false, reduceIte, Bool.false_eq_true, decide_eq_true_eq, eq_self, exists_const, Bool.not_true, Bool.not_false, Bool.not_eq_true', Bool.and_true, Bool.true_and, Bool.and_false, Bool.false_and, ne_eq, not_true_eq_false, not_false_eq_true, reduceCtorEq, Int.cast_ofNat_Int, Bool.not_eq_true, Bool.true_eq_false, hb2, ty_loc hb2, O.lst.injEq]
        rw [List.range_succ, List.filter_append]
        by_cases z : quiet ln (freeI q ms) i = true
        · rw [if_pos z]
          simp only [List.filter_cons, List.filter_nil, z, if_true, List.map_append, List.map_cons, List.map_nil]
          refine ⟨?_, ⟨_, _, rfl⟩, ((kp.trans k2).app).set (.inr hge), get_set hb2⟩
          rw [List.length_map, List.length_map, sizeLine_eq]
          have := List.length_filter_le (fun place => quiet ln (freeI q ms) place) (List.range i)
          rw [List.length_range] at this
          omega
        · rw [if_neg z]
          simp only [List.filter_cons, List.filter_nil, z, if_false, List.append_nil]
          exact ⟨⟨_, _, rfl⟩, (kp.trans k2).app, by simp [z]⟩
    · subst e
      simp only [we_int, we_str, we_bl, we_non, we_ty, we_cst, we_var, we_bin, we_cmp, we_chain, we_neg, we_not, we_and1, we_and2, we_or1, we_or2, we_ife, we_tup, we_lst, we_ix, we_sl, wo_none, wo_some, we_blt, we_call, we_meth, we_rev, we_srt, we_lrg1, we_lrg2, we_trg1, ws_nil, ws_cons, wt_tr, wt_cmp, wt_chain, wt_not, wt_and1, wt_and2, wt_or1, wt_or2, wts_nil, wts_one, wr_bl, wr_non, wr_int, wr_tup, wn_add, wn_sub, wn_mul, wn_div, wn_mod, wn_pow, wn_neg, wn_cat, wn_tmul, wn_lmul, wn_ladd, wc_lt, wc_le, wc_gt, wc_ge, wc_eq, wc_ne, wc_isnon, wc_isnt, wx_tup, wx_loc, wl_tup, wl_loc, wv_tup, wb_len_tup, wb_len_loc, wb_int, wb_list, wb_tuple, wb_sum, wb_min, wb_max, wi_int_int, wi_int_bool, wi_int_tup, wi_tup_tup, wi_tup_int, wm_append, wm_extend, wm_popAt, wm_count, wss_nil, wss_one, wss_cons, seqK_nx, seqK_rt, seqK_bk, seqK_ct, wq_expr, wq_ret, wq_retN, wq_pass, wq_brk, wq_cont, wq_set, wq_setc, wq_par, wq_setIx, ws_setIx, wq_ife, wq_for, wq_whil, wq_never, outK_rt, outK_nx, wv_rng1, wv_rng2, wv_seq, wv_seq_tup, wv_seq_loc, wv_zip, wv_zip_tup, we_comp, wp_ok, wp_bad, wp_br, wp_bind, items_tup, tgF, setAll, startE_eq, nones, List.getElem?_cons_zero, List.getElem?_cons_succ, List.set_cons_zero, List.set_cons_succ, List.map_cons, List.map_nil, List.cons_append, List.nil_append, List.length_cons, List.length_nil, Nat.reduceAdd, Nat.reduceSub, Nat.reduceMul, Nat.reduceLT, Nat.reduceLeDiff, Nat.reduceEqDiff, Option.some.injEq, D.int.injEq, D.tup.injEq, D.loc.injEq, D.bl.injEq, exists_eq_left, exists_eq_left', exists_eq_right, true_and, and_true, if_true, if_false, ite_true, ite_false, reduceIte, Bool.false_eq_true, decide_eq_true_eq, eq_self, exists_const, Bool.not_true, Bool.not_false, Bool.not_eq_true', Bool.and_true, Bool.true_and, Bool.and_false, Bool.false_and, ne_eq, not_true_eq_false, not_false_eq_true, reduceCtorEq, Int.cast_ofNat_Int, Bool.not_eq_true, Bool.true_eq_false, items_lst hb]
      refine ⟨?_, kp⟩
      rw [rng_len]
      unfold earlyL
      rw [if_neg c, hln]
end
end
end Dx

/-! PDraw: the laws' own pool and draws. -/
namespace Dx
open PySem L2
variable {E : Xc} {fs : Fns} {k : Nat} {h : HA}
structure Pool (h : HA) (a c : Nat) : Prop where
  ne : a ≠ c
  ex : ∃ (g x : Int) (cs : List Int), h[a]? = some (.lst [.int g, .int x, .loc c]) ∧ h[c]? = some (.lst (cs.map D.int))
theorem Pool.kp {h' : HA} {a c : Nat} {S : List Nat} (p : Pool h a c) (q : Kp S h h') (ha : a ∉ S) (hc : c ∉ S) : Pool h' a c := by
  obtain ⟨ne, g, x, cs, e1, e2⟩ := p
  exact ⟨ne, g, x, cs, q.get e1 ha, q.get e2 hc⟩
theorem Pool.lt {a c : Nat} (p : Pool h a c) : a < h.length ∧ c < h.length := by
  obtain ⟨ne, g, x, cs, e1, e2⟩ := p
  exact ⟨get_lt' e1, get_lt' e2⟩
theorem Pool.app {a c : Nat} {o : O} (p : Pool h a c) : Pool (h ++ [o]) a c := p.kp (Kp.refl (S := [])).app (by simp) (by simp)
theorem Pool.set {a c l : Nat} {o : O} (p : Pool h a c) (ha : l ≠ a) (hc : l ≠ c) : Pool (h.set l o) a c := p.kp ((Kp.refl (S := [l])).set (.inl (by simp))) (by simpa using ha.symm) (by simpa using hc.symm)
theorem at3_0 {a b c : D} : atI [a, b, c] 0 = some a := rfl
theorem at3_1 {a b c : D} : atI [a, b, c] 1 = some b := rfl
theorem at3_2 {a b c : D} : atI [a, b, c] 2 = some c := rfl
theorem ix3_0 : ixN (0 + 1 + 1 + 1) 0 = some 0 := rfl
theorem ix3_1 : ixN (0 + 1 + 1 + 1) 1 = some 1 := rfl
theorem ix3_0' : ixN 3 0 = some 0 := rfl
theorem ix3_1' : ixN 3 1 = some 1 := rfl
theorem mulOk_r {i j : Int} (h1 : -4294967296 < j) (h2 : j < 4294967296) : mulOk i j = true := by unfold mulOk; simp; omega
section
variable [hD : Has fs F.n__law_draw F.f__law_draw]
theorem draw_tail {a c : Nat} {g x many : Int} {cs : List Int} {v2 v3 v4 : Option D} (hn : a ≠ c) (h1 : h[a]? = some (.lst [.int g, .int x, .loc c])) (h2 : h[c]? = some (.lst (cs.map D.int))) (m0 : 0 < many) (m1 : many < 1073741824) {call : Nat → List D → M D} :
    Wp E (evSs call [.ife (.cmp .Gt (.ix (.var 0) (.int 0)) (.int 0))
    [.set (.nm 4) (.bin .Mod (.blt .int [(.ix (.var 0) (.int 0))]) (.var 1)),
    .setIx (.var 0) (.int 0) (.bin .FloorDiv (.ix (.var 0) (.int 0)) (.var 1)),
    .ret (.var 4)]
    [],
  .setIx (.var 0) (.int 1) (.bin .Mod (.blt .int [(.bin .Add (.bin .Mult (.ix (.var 0) (.int 1)) (.int 48271)) (.int 11))]) (.int 2147483647)),
  .ret (.bin .Mod (.bin .FloorDiv (.bin .Mod (.blt .int [(.bin .Mult (.ix (.var 0) (.int 1)) (.ix (.var 0) (.int 1)))]) (.int 2147483629)) (.int 32)) (.var 1))] [some (.loc a), some (.int many), v2, v3, v4] h)
      (outK fun d h' => ∃ r, d = .int r ∧ (0 ≤ r ∧ r < many) ∧ Pool h' a c ∧ Kp [a, c] h h') := by
  simp only [we_int, we_str, we_bl, we_non, we_ty, we_cst, we_var, we_bin, we_cmp, we_chain, we_neg, we_not, we_and1, we_and2, we_or1, we_or2, we_ife, we_tup, we_lst, we_ix, we_sl, wo_none, wo_some, we_blt, we_call, we_meth, we_rev, we_srt, we_lrg1, we_lrg2, we_trg1, ws_nil, ws_cons, wt_tr, wt_cmp, wt_chain, wt_not, wt_and1, wt_and2, wt_or1, wt_or2, wts_nil, wts_one, wr_bl, wr_non, wr_int, wr_tup, wn_add, wn_sub, wn_mul, wn_div, wn_mod, wn_pow, wn_neg, wn_cat, wn_tmul, wn_lmul, wn_ladd, wc_lt, wc_le, wc_gt, wc_ge, wc_eq, wc_ne, wc_isnon, wc_isnt, wx_tup, wx_loc, wl_tup, wl_loc, wv_tup, wb_len_tup, wb_len_loc, wb_int, wb_list, wb_tuple, wb_sum, wb_min, wb_max, wi_int_int, wi_int_bool, wi_int_tup, wi_tup_tup, wi_tup_int, wm_append, wm_extend, wm_popAt, wm_count, wss_nil, wss_one, wss_cons, seqK_nx, seqK_rt, seqK_bk, seqK_ct, wq_expr, wq_ret, wq_retN, wq_pass, wq_brk, wq_cont, wq_set, wq_setc, wq_par, wq_setIx, ws_setIx, wq_ife, wq_for, wq_whil, wq_never, outK_rt, outK_nx, wv_rng1, wv_rng2, wv_seq, wv_seq_tup, wv_seq_loc, wv_zip, wv_zip_tup, we_comp, wp_ok, wp_bad, wp_br, wp_bind, items_tup, tgF, setAll, startE_eq, nones, List.getElem?_cons_zero, List.getElem?_cons_succ, List.set_cons_zero, List.set_cons_succ, List.map_cons, List.map_nil, List.cons_append, List.nil_append, List.length_cons, List.length_nil, Nat.reduceAdd, Nat.reduceSub, Nat.reduceMul, Nat.reduceLT, Nat.reduceLeDiff, Nat.reduceEqDiff, Option.some.injEq, D.int.injEq, D.tup.injEq, D.loc.injEq, D.bl.injEq, exists_eq_left, exists_eq_left', exists_eq_right, true_and, and_true, if_true, if_false, ite_true, ite_false, reduceIte, Bool.false_eq_true, decide_eq_true_eq, eq_self, exists_const, Bool.not_true, Bool.not_false, Bool.not_eq_true', Bool.and_true, Bool.true_and, Bool.and_false, Bool.false_and, ne_eq, not_true_eq_false, not_false_eq_true, reduceCtorEq, Int.cast_ofNat_Int, Bool.not_eq_true, Bool.true_eq_false, items_lst h1, at3_0, at3_1, h1, O.lst.injEq, ix3_0, ix3_1, ix3_0', ix3_1']
  split
  · next hg =>
    refine ⟨m0, ⟨m0, m1⟩, ⟨Int.emod_nonneg _ (by omega), Int.emod_lt_of_pos _ m0⟩, ⟨hn, g / many, x, cs, get_set h1, get_set_ne h2 hn⟩, Kp.refl.set (.inl (by simp))⟩
  · next hg =>
    generalize hy : (x * 48271 + 11) % 2147483647 = y
    have y0 : 0 ≤ y ∧ y < 2147483647 := by rw [← hy]; omega
    have h3 : (List.set h a (O.lst [D.int g, .int y, .loc c]))[a]? = some (.lst [.int g, .int y, .loc c]) := get_set h1
    simp only [we_int, we_str, we_bl, we_non, we_ty, we_cst, we_var, we_bin, we_cmp, we_chain, we_neg, we_not, we_and1, we_and2, we_or1, we_or2, we_ife, we_tup, we_lst, we_ix, we_sl, wo_none, wo_some, we_blt, we_call, we_meth, we_rev, we_srt, we_lrg1, we_lrg2, we_trg1, ws_nil, ws_cons, wt_tr, wt_cmp, wt_chain, wt_not, wt_and1, wt_and2, wt_or1, wt_or2, wts_nil, wts_one, wr_bl, wr_non, wr_int, wr_tup, wn_add, wn_sub, wn_mul, wn_div, wn_mod, wn_pow, wn_neg, wn_cat, wn_tmul, wn_lmul, wn_ladd, wc_lt, wc_le, wc_gt, wc_ge, wc_eq, wc_ne, wc_isnon, wc_isnt, wx_tup, wx_loc, wl_tup, wl_loc, wv_tup, wb_len_tup, wb_len_loc, wb_int, wb_list, wb_tuple, wb_sum, wb_min, wb_max, wi_int_int, wi_int_bool, wi_int_tup, wi_tup_tup, wi_tup_int, wm_append, wm_extend, wm_popAt, wm_count, wss_nil, wss_one, wss_cons, seqK_nx, seqK_rt, seqK_bk, seqK_ct, wq_expr, wq_ret, wq_retN, wq_pass, wq_brk, wq_cont, wq_set, wq_setc, wq_par, wq_setIx, ws_setIx, wq_ife, wq_for, wq_whil, wq_never, outK_rt, outK_nx, wv_rng1, wv_rng2, wv_seq, wv_seq_tup, wv_seq_loc, wv_zip, wv_zip_tup, we_comp, wp_ok, wp_bad, wp_br, wp_bind, items_tup, tgF, setAll, startE_eq, nones, List.getElem?_cons_zero, List.getElem?_cons_succ, List.set_cons_zero, List.set_cons_succ, List.map_cons, List.map_nil, List.cons_append, List.nil_append, List.length_cons, List.length_nil, Nat.reduceAdd, Nat.reduceSub, Nat.reduceMul, Nat.reduceLT, Nat.reduceLeDiff, Nat.reduceEqDiff, Option.some.injEq, D.int.injEq, D.tup.injEq, D.loc.injEq, D.bl.injEq, exists_eq_left, exists_eq_left', exists_eq_right, true_and, and_true, if_true, if_false, ite_true, ite_false, reduceIte, Bool.false_eq_true, decide_eq_true_eq, eq_self, exists_const, Bool.not_true, Bool.not_false, Bool.not_eq_true', Bool.and_true, Bool.true_and, Bool.and_false, Bool.false_and, ne_eq, not_true_eq_false, not_false_eq_true, reduceCtorEq, Int.cast_ofNat_Int, Bool.not_eq_true, Bool.true_eq_false, items_lst h3, at3_1]
    refine ⟨mulOk_r (by omega) (by omega), by omega, mulOk_of (by omega) (by omega), by omega, by omega, m0, ⟨Int.emod_nonneg _ (by omega), Int.emod_lt_of_pos _ m0⟩, ⟨hn, g, y, cs, h3, get_set_ne h2 hn⟩, Kp.refl.set (.inl (by simp))⟩
theorem size_ok {call : Nat → List D → M D} {v0 v1 v3 v4 : Option D} {i : Int} : Wp E (evE call (.ife (.cmp .GtE (.var 2) (.int 0)) (.bin .Mult (.int 2) (.var 2)) (.bin .Sub (.neg (.int 1)) (.bin .Mult (.int 2) (.var 2)))) [v0, v1, some (.int i), v3, v4] h) fun d h' => ∃ j : Int, d = .int j ∧ h' = h := by
  simp only [we_int, we_str, we_bl, we_non, we_ty, we_cst, we_var, we_bin, we_cmp, we_chain, we_neg, we_not, we_and1, we_and2, we_or1, we_or2, we_ife, we_tup, we_lst, we_ix, we_sl, wo_none, wo_some, we_blt, we_call, we_meth, we_rev, we_srt, we_lrg1, we_lrg2, we_trg1, ws_nil, ws_cons, wt_tr, wt_cmp, wt_chain, wt_not, wt_and1, wt_and2, wt_or1, wt_or2, wts_nil, wts_one, wr_bl, wr_non, wr_int, wr_tup, wn_add, wn_sub, wn_mul, wn_div, wn_mod, wn_pow, wn_neg, wn_cat, wn_tmul, wn_lmul, wn_ladd, wc_lt, wc_le, wc_gt, wc_ge, wc_eq, wc_ne, wc_isnon, wc_isnt, wx_tup, wx_loc, wl_tup, wl_loc, wv_tup, wb_len_tup, wb_len_loc, wb_int, wb_list, wb_tuple, wb_sum, wb_min, wb_max, wi_int_int, wi_int_bool, wi_int_tup, wi_tup_tup, wi_tup_int, wm_append, wm_extend, wm_popAt, wm_count, wss_nil, wss_one, wss_cons, seqK_nx, seqK_rt, seqK_bk, seqK_ct, wq_expr, wq_ret, wq_retN, wq_pass, wq_brk, wq_cont, wq_set, wq_setc, wq_par, wq_setIx, ws_setIx, wq_ife, wq_for, wq_whil, wq_never, outK_rt, outK_nx, wv_rng1, wv_rng2, wv_seq, wv_seq_tup, wv_seq_loc, wv_zip, wv_zip_tup, we_comp, wp_ok, wp_bad, wp_br, wp_bind, items_tup, tgF, setAll, startE_eq, nones, List.getElem?_cons_zero, List.getElem?_cons_succ, List.set_cons_zero, List.set_cons_succ, List.map_cons, List.map_nil, List.cons_append, List.nil_append, List.length_cons, List.length_nil, Nat.reduceAdd, Nat.reduceSub, Nat.reduceMul, Nat.reduceLT, Nat.reduceLeDiff, Nat.reduceEqDiff, Option.some.injEq, D.int.injEq, D.tup.injEq, D.loc.injEq, D.bl.injEq, exists_eq_left, exists_eq_left', exists_eq_right, true_and, and_true, if_true, if_false, ite_true, ite_false, reduceIte, Bool.false_eq_true, decide_eq_true_eq, eq_self, exists_const, Bool.not_true, Bool.not_false, Bool.not_eq_true', Bool.and_true, Bool.true_and, Bool.and_false, Bool.false_and, ne_eq, not_true_eq_false, not_false_eq_true, reduceCtorEq, Int.cast_ofNat_Int, Bool.not_eq_true, Bool.true_eq_false]
  split
  · exact mulOk_of (by omega) (by omega)
  · exact mulOk_of (by omega) (by omega)
theorem big_ok {call : Nat → List D → M D} {v0 v1 v2 v4 : Option D} {i : Int} : Wp E (evE call (.ife (.cmp .GtE (.var 3) (.bin .Pow (.int 10) (.int 18))) (.var 3) (.int 0)) [v0, v1, v2, some (.int i), v4] h) fun d h' => ∃ j : Int, d = .int j ∧ h' = h := by
  simp only [we_int, we_str, we_bl, we_non, we_ty, we_cst, we_var, we_bin, we_cmp, we_chain, we_neg, we_not, we_and1, we_and2, we_or1, we_or2, we_ife, we_tup, we_lst, we_ix, we_sl, wo_none, wo_some, we_blt, we_call, we_meth, we_rev, we_srt, we_lrg1, we_lrg2, we_trg1, ws_nil, ws_cons, wt_tr, wt_cmp, wt_chain, wt_not, wt_and1, wt_and2, wt_or1, wt_or2, wts_nil, wts_one, wr_bl, wr_non, wr_int, wr_tup, wn_add, wn_sub, wn_mul, wn_div, wn_mod, wn_pow, wn_neg, wn_cat, wn_tmul, wn_lmul, wn_ladd, wc_lt, wc_le, wc_gt, wc_ge, wc_eq, wc_ne, wc_isnon, wc_isnt, wx_tup, wx_loc, wl_tup, wl_loc, wv_tup, wb_len_tup, wb_len_loc, wb_int, wb_list, wb_tuple, wb_sum, wb_min, wb_max, wi_int_int, wi_int_bool, wi_int_tup, wi_tup_tup, wi_tup_int, wm_append, wm_extend, wm_popAt, wm_count, wss_nil, wss_one, wss_cons, seqK_nx, seqK_rt, seqK_bk, seqK_ct, wq_expr, wq_ret, wq_retN, wq_pass, wq_brk, wq_cont, wq_set, wq_setc, wq_par, wq_setIx, ws_setIx, wq_ife, wq_for, wq_whil, wq_never, outK_rt, outK_nx, wv_rng1, wv_rng2, wv_seq, wv_seq_tup, wv_seq_loc, wv_zip, wv_zip_tup, we_comp, wp_ok, wp_bad, wp_br, wp_bind, items_tup, tgF, setAll, startE_eq, nones, List.getElem?_cons_zero, List.getElem?_cons_succ, List.set_cons_zero, List.set_cons_succ, List.map_cons, List.map_nil, List.cons_append, List.nil_append, List.length_cons, List.length_nil, Nat.reduceAdd, Nat.reduceSub, Nat.reduceMul, Nat.reduceLT, Nat.reduceLeDiff, Nat.reduceEqDiff, Option.some.injEq, D.int.injEq, D.tup.injEq, D.loc.injEq, D.bl.injEq, exists_eq_left, exists_eq_left', exists_eq_right, true_and, and_true, if_true, if_false, ite_true, ite_false, reduceIte, Bool.false_eq_true, decide_eq_true_eq, eq_self, exists_const, Bool.not_true, Bool.not_false, Bool.not_eq_true', Bool.and_true, Bool.true_and, Bool.and_false, Bool.false_and, ne_eq, not_true_eq_false, not_false_eq_true, reduceCtorEq, Int.cast_ofNat_Int, Bool.not_eq_true, Bool.true_eq_false]
  refine ⟨⟨by omega, by omega, by decide⟩, ?_⟩
  split
  · trivial
  · trivial
theorem draw_ok {a c : Nat} {many : Int} (P : Pool h a c) (m0 : 0 < many) (m1 : many < 1073741824) : Wp E (callF fs (k + 1) F.n__law_draw [.loc a, .int many] h) fun d h' => ∃ r, d = .int r ∧ (0 ≤ r ∧ r < many) ∧ Pool h' a c ∧ Kp [a, c] h h' := by
  refine wp_call hD.has rfl ?_
  unfold F.f__law_draw
  obtain ⟨hn, g, x, cs, h1, h2⟩ := P
  dsimp only
  rw [wss_cons]
  refine Wp.mono (Q := fun o h' => ∃ v2 v3 g x cs, o = .nx [some (.loc a), some (.int many), v2, v3, none] ∧ Kp [a, c] h h' ∧ h'[a]? = some (.lst [.int g, .int x, .loc c]) ∧ h'[c]? = some (.lst (List.map D.int cs))) ?_ ?_
  · rw [wq_ife]
    have f1 : items? (h ++ [O.lst []]) (.loc c) = some (cs.map D.int) := items_lst (get_app h2)
    have f2 : items? (h ++ [O.lst []]) (.loc h.length) = some [] := items_lst get_new
    refine Wp.mono (Q := fun b h' => (b = false ∧ h' = h) ∨ (cs ≠ [] ∧ h' = h) ∨ (h' = h ++ [.lst []] ∧ (b = true → cs ≠ []))) ?_ ?_
    · simp only [wt_tr, we_int, we_str, we_bl, we_non, we_ty, we_cst, we_var, we_bin, we_cmp, we_chain, we_neg, we_not, we_and1, we_and2, we_or1, we_or2, we_ife, we_tup, we_lst, we_ix, we_sl, wo_none, wo_some, we_blt, we_call, we_meth, we_rev, we_srt, we_lrg1, we_lrg2, we_trg1, ws_nil, ws_cons, wt_tr, wt_cmp, wt_chain, wt_not, wt_and1, wt_and2, wt_or1, wt_or2, wts_nil, wts_one, wr_bl, wr_non, wr_int, wr_tup, wn_add, wn_sub, wn_mul, wn_div, wn_mod, wn_pow, wn_neg, wn_cat, wn_tmul, wn_lmul, wn_ladd, wc_lt, wc_le, wc_gt, wc_ge, wc_eq, wc_ne, wc_isnon, wc_isnt, wx_tup, wx_loc, wl_tup, wl_loc, wv_tup, wb_len_tup, wb_len_loc, wb_int, wb_list, wb_tuple, wb_sum, wb_min, wb_max, wi_int_int, wi_int_bool, wi_int_tup, wi_tup_tup, wi_tup_int, wm_append, wm_extend, wm_popAt, wm_count, wss_nil, wss_one, wss_cons, seqK_nx, seqK_rt, seqK_bk, seqK_ct, wq_expr, wq_ret, wq_retN, wq_pass, wq_brk, wq_cont, wq_set, wq_setc, wq_par, wq_setIx, ws_setIx, wq_ife, wq_for, wq_whil, wq_never, outK_rt, outK_nx, wv_rng1, wv_rng2, wv_seq, wv_seq_tup, wv_seq_loc, wv_zip, wv_zip_tup, we_comp, wp_ok, wp_bad, wp_br, wp_bind, items_tup, tgF, setAll, startE_eq, nones, List.getElem?_cons_zero, List.getElem?_cons_succ, List.set_cons_zero, List.set_cons_succ, List.map_cons, List.map_nil, List.cons_append, List.nil_append, List.length_cons, List.length_nil, Nat.reduceAdd, Nat.reduceSub, Nat.reduceMul, Nat.reduceLT, Nat.reduceLeDiff, Nat.reduceEqDiff, Option.some.injEq, D.int.injEq, D.tup.injEq, D.loc.injEq, D.bl.injEq, exists_eq_left, exists_eq_left', exists_eq_right, true_and, and_true, if_true, if_false, ite_true, ite_false, reduceIte, Bool.false_eq_true, decide_eq_true_eq, eq_self, exists_const, Bool.not_true, Bool.not_false, Bool.not_eq_true', Bool.and_true, Bool.true_and, Bool.and_false, Bool.false_and, ne_eq, not_true_eq_false, not_false_eq_true, reduceCtorEq, Int.cast_ofNat_Int, Bool.not_eq_true, Bool.true_eq_false, items_lst h1, at3_0, at3_2, wc_neL f1 f2 (okDs_int cs) (by unfold okDs; rfl), beqs_nil]
      split
      · refine ⟨by rw [sizeLine_eq]; omega, .inr (.inr fun z => ?_)⟩
        rintro rfl
        cases z
      · exact .inl trivial
    · intro b h' hb
      have hh : (h' = h ∨ h' = h ++ [.lst []]) ∧ (b = true → cs ≠ []) := by
        rcases hb with ⟨e, e2⟩ | ⟨e, e2⟩ | ⟨e, e2⟩
        · exact ⟨.inl e2, fun z => by rw [e] at z; cases z⟩
        · exact ⟨.inl e2, fun _ => e⟩
        · exact ⟨.inr e, e2⟩
      obtain ⟨hh, hcs⟩ := hh
      have k1 : Kp [a, c] h h' := by
        rcases hh with e | e
        · rw [e]; exact Kp.refl
        · rw [e]; exact Kp.refl.app
      have e1 : h'[a]? = some (.lst [.int g, .int x, .loc c]) := by
        rcases hh with e | e
        · rw [e]; exact h1
        · rw [e]; exact get_app h1
      have e2 : h'[c]? = some (.lst (List.map D.int cs)) := by
        rcases hh with e | e
        · rw [e]; exact h2
        · rw [e]; exact get_app h2
      split
      · next hbt =>
        obtain ⟨y, ys, rfl⟩ : ∃ y ys, cs = y :: ys := by
          cases cs with
          | nil => exact absurd rfl (hcs hbt)
          | cons y ys => exact ⟨y, ys, rfl⟩
        have sq : seqIndex? 0 (List.map D.int (y :: ys)).length = some 0 := by
          unfold seqIndex?
          simp
        rw [wss_cons]
        simp only [we_int, we_str, we_bl, we_non, we_ty, we_cst, we_var, we_bin, we_cmp, we_chain, we_neg, we_not, we_and1, we_and2, we_or1, we_or2, we_ife, we_tup, we_lst, we_ix, we_sl, wo_none, wo_some, we_blt, we_call, we_meth, we_rev, we_srt, we_lrg1, we_lrg2, we_trg1, ws_nil, ws_cons, wt_tr, wt_cmp, wt_chain, wt_not, wt_and1, wt_and2, wt_or1, wt_or2, wts_nil, wts_one, wr_bl, wr_non, wr_int, wr_tup, wn_add, wn_sub, wn_mul, wn_div, wn_mod, wn_pow, wn_neg, wn_cat, wn_tmul, wn_lmul, wn_ladd, wc_lt, wc_le, wc_gt, wc_ge, wc_eq, wc_ne, wc_isnon, wc_isnt, wx_tup, wx_loc, wl_tup, wl_loc, wv_tup, wb_len_tup, wb_len_loc, wb_int, wb_list, wb_tuple, wb_sum, wb_min, wb_max, wi_int_int, wi_int_bool, wi_int_tup, wi_tup_tup, wi_tup_int, wm_append, wm_extend, wm_popAt, wm_count, wss_nil, wss_one, seqK_rt, seqK_bk, seqK_ct, wq_expr, wq_ret, wq_retN, wq_pass, wq_brk, wq_cont, wq_set, wq_setc, wq_par, wq_setIx, ws_setIx, wq_ife, wq_for, wq_whil, wq_never, outK_rt, outK_nx, wv_rng1, wv_rng2, wv_seq, wv_seq_tup, wv_seq_loc, wv_zip, wv_zip_tup, we_comp, wp_ok, wp_bad, wp_br, wp_bind, items_tup, tgF, setAll, startE_eq, nones, List.getElem?_cons_zero, List.getElem?_cons_succ, List.set_cons_zero, List.set_cons_succ, List.map_cons, List.map_nil, List.cons_append, List.nil_append, List.length_cons, List.length_nil, Nat.reduceAdd, Nat.reduceSub, Nat.reduceMul, Nat.reduceLT, Nat.reduceLeDiff, Nat.reduceEqDiff, Option.some.injEq, D.int.injEq, D.tup.injEq, D.loc.injEq, D.bl.injEq, exists_eq_left, exists_eq_left', exists_eq_right, true_and, and_true, if_true, if_false, ite_true, ite_false, reduceIte, Bool.false_eq_true, decide_eq_true_eq, eq_self, exists_const, Bool.not_true, Bool.not_false, Bool.not_eq_true', Bool.and_true, Bool.true_and, Bool.and_false, Bool.false_and, ne_eq, not_true_eq_false, not_false_eq_true, reduceCtorEq, Int.cast_ofNat_Int, Bool.not_eq_true, Bool.true_eq_false, items_lst e1, at3_2, ty_loc e2, e2, O.lst.injEq]
        simp only [List.map_cons] at sq e2
        refine ⟨⟨by omega, by omega⟩, 0, sq, .int y, rfl, ?_⟩
        simp only [we_int, we_str, we_bl, we_non, we_ty, we_cst, we_var, we_bin, we_cmp, we_chain, we_neg, we_not, we_and1, we_and2, we_or1, we_or2, we_ife, we_tup, we_lst, we_ix, we_sl, wo_none, wo_some, we_blt, we_call, we_meth, we_rev, we_srt, we_lrg1, we_lrg2, we_trg1, ws_nil, ws_cons, wt_tr, wt_cmp, wt_chain, wt_not, wt_and1, wt_and2, wt_or1, wt_or2, wts_nil, wts_one, wr_bl, wr_non, wr_int, wr_tup, wn_add, wn_sub, wn_mul, wn_div, wn_mod, wn_pow, wn_neg, wn_cat, wn_tmul, wn_lmul, wn_ladd, wc_lt, wc_le, wc_gt, wc_ge, wc_eq, wc_ne, wc_isnon, wc_isnt, wx_tup, wx_loc, wl_tup, wl_loc, wv_tup, wb_len_tup, wb_len_loc, wb_int, wb_list, wb_tuple, wb_sum, wb_min, wb_max, wi_int_int, wi_int_bool, wi_int_tup, wi_tup_tup, wi_tup_int, wm_append, wm_extend, wm_popAt, wm_count, wss_nil, wss_one, seqK_rt, seqK_bk, seqK_ct, wq_expr, wq_ret, wq_retN, wq_pass, wq_brk, wq_cont, wq_set, wq_setc, wq_par, wq_setIx, ws_setIx, wq_ife, wq_for, wq_whil, wq_never, outK_rt, outK_nx, wv_rng1, wv_rng2, wv_seq, wv_seq_tup, wv_seq_loc, wv_zip, wv_zip_tup, we_comp, wp_ok, wp_bad, wp_br, wp_bind, items_tup, tgF, setAll, startE_eq, nones, List.getElem?_cons_zero, List.getElem?_cons_succ, List.set_cons_zero, List.set_cons_succ, List.map_cons, List.map_nil, List.cons_append, List.nil_append, List.length_cons, List.length_nil, Nat.reduceAdd, Nat.reduceSub, Nat.reduceMul, Nat.reduceLT, Nat.reduceLeDiff, Nat.reduceEqDiff, Option.some.injEq, D.int.injEq, D.tup.injEq, D.loc.injEq, D.bl.injEq, exists_eq_left, exists_eq_left', exists_eq_right, true_and, and_true, if_true, if_false, ite_true, ite_false, reduceIte, Bool.false_eq_true, decide_eq_true_eq, eq_self, exists_const, Bool.not_true, Bool.not_false, Bool.not_eq_true', Bool.and_true, Bool.true_and, Bool.and_false, Bool.false_and, ne_eq, not_true_eq_false, not_false_eq_true, reduceCtorEq, Int.cast_ofNat_Int, Bool.not_eq_true, Bool.true_eq_false]
        rw [seqK_nx]
        have n1 : (h'.set c (.lst (ys.map D.int)))[a]? = some (.lst [.int g, .int x, .loc c]) := get_set_ne e1 hn.symm
        have n2 : (h'.set c (.lst (ys.map D.int)))[c]? = some (.lst (ys.map D.int)) := get_set e2
        have kn : Kp [a, c] h (h'.set c (.lst (ys.map D.int))) := k1.set (.inl (by simp))
        generalize hset : h'.set c (.lst (ys.map D.int)) = h2 at n1 n2 kn
        rw [show h'.set c (O.lst ((D.int y :: List.map D.int ys).eraseIdx 0)) = h2 from hset]
        rw [wss_cons, wq_set]
        refine Wp.mono size_ok fun d h3 ⟨j, ed, eh⟩ => ?_
        subst ed eh
        simp only [we_int, we_str, we_bl, we_non, we_ty, we_cst, we_var, we_bin, we_cmp, we_chain, we_neg, we_not, we_and1, we_and2, we_or1, we_or2, we_ife, we_tup, we_lst, we_ix, we_sl, wo_none, wo_some, we_blt, we_call, we_meth, we_rev, we_srt, we_lrg1, we_lrg2, we_trg1, ws_nil, ws_cons, wt_tr, wt_cmp, wt_chain, wt_not, wt_and1, wt_and2, wt_or1, wt_or2, wts_nil, wts_one, wr_bl, wr_non, wr_int, wr_tup, wn_add, wn_sub, wn_mul, wn_div, wn_mod, wn_pow, wn_neg, wn_cat, wn_tmul, wn_lmul, wn_ladd, wc_lt, wc_le, wc_gt, wc_ge, wc_eq, wc_ne, wc_isnon, wc_isnt, wx_tup, wx_loc, wl_tup, wl_loc, wv_tup, wb_len_tup, wb_len_loc, wb_int, wb_list, wb_tuple, wb_sum, wb_min, wb_max, wi_int_int, wi_int_bool, wi_int_tup, wi_tup_tup, wi_tup_int, wm_append, wm_extend, wm_popAt, wm_count, wss_nil, wss_one, seqK_rt, seqK_bk, seqK_ct, wq_expr, wq_ret, wq_retN, wq_pass, wq_brk, wq_cont, wq_set, wq_setc, wq_par, wq_setIx, ws_setIx, wq_ife, wq_for, wq_whil, wq_never, outK_rt, outK_nx, wv_rng1, wv_rng2, wv_seq, wv_seq_tup, wv_seq_loc, wv_zip, wv_zip_tup, we_comp, wp_ok, wp_bad, wp_br, wp_bind, items_tup, tgF, setAll, startE_eq, nones, List.getElem?_cons_zero, List.getElem?_cons_succ, List.set_cons_zero, List.set_cons_succ, List.map_cons, List.map_nil, List.cons_append, List.nil_append, List.length_cons, List.length_nil, Nat.reduceAdd, Nat.reduceSub, Nat.reduceMul, Nat.reduceLT, Nat.reduceLeDiff, Nat.reduceEqDiff, Option.some.injEq, D.int.injEq, D.tup.injEq, D.loc.injEq, D.bl.injEq, exists_eq_left, exists_eq_left', exists_eq_right, true_and, and_true, if_true, if_false, ite_true, ite_false, reduceIte, Bool.false_eq_true, decide_eq_true_eq, eq_self, exists_const, Bool.not_true, Bool.not_false, Bool.not_eq_true', Bool.and_true, Bool.true_and, Bool.and_false, Bool.false_and, ne_eq, not_true_eq_false, not_false_eq_true, reduceCtorEq, Int.cast_ofNat_Int, Bool.not_eq_true, Bool.true_eq_false]
        rw [seqK_nx, wss_cons, wq_setIx]
        refine Wp.mono big_ok fun d h4 ⟨j2, ed, eh⟩ => ?_
        subst ed eh
        simp only [we_int, we_str, we_bl, we_non, we_ty, we_cst, we_var, we_bin, we_cmp, we_chain, we_neg, we_not, we_and1, we_and2, we_or1, we_or2, we_ife, we_tup, we_lst, we_ix, we_sl, wo_none, wo_some, we_blt, we_call, we_meth, we_rev, we_srt, we_lrg1, we_lrg2, we_trg1, ws_nil, ws_cons, wt_tr, wt_cmp, wt_chain, wt_not, wt_and1, wt_and2, wt_or1, wt_or2, wts_nil, wts_one, wr_bl, wr_non, wr_int, wr_tup, wn_add, wn_sub, wn_mul, wn_div, wn_mod, wn_pow, wn_neg, wn_cat, wn_tmul, wn_lmul, wn_ladd, wc_lt, wc_le, wc_gt, wc_ge, wc_eq, wc_ne, wc_isnon, wc_isnt, wx_tup, wx_loc, wl_tup, wl_loc, wv_tup, wb_len_tup, wb_len_loc, wb_int, wb_list, wb_tuple, wb_sum, wb_min, wb_max, wi_int_int, wi_int_bool, wi_int_tup, wi_tup_tup, wi_tup_int, wm_append, wm_extend, wm_popAt, wm_count, wss_nil, wss_one, seqK_rt, seqK_bk, seqK_ct, wq_expr, wq_ret, wq_retN, wq_pass, wq_brk, wq_cont, wq_set, wq_setc, wq_par, wq_setIx, ws_setIx, wq_ife, wq_for, wq_whil, wq_never, outK_rt, outK_nx, wv_rng1, wv_rng2, wv_seq, wv_seq_tup, wv_seq_loc, wv_zip, wv_zip_tup, we_comp, wp_ok, wp_bad, wp_br, wp_bind, items_tup, tgF, setAll, startE_eq, nones, List.getElem?_cons_zero, List.getElem?_cons_succ, List.set_cons_zero, List.set_cons_succ, List.map_cons, List.map_nil, List.cons_append, List.nil_append, List.length_cons, List.length_nil, Nat.reduceAdd, Nat.reduceSub, Nat.reduceMul, Nat.reduceLT, Nat.reduceLeDiff, Nat.reduceEqDiff, Option.some.injEq, D.int.injEq, D.tup.injEq, D.loc.injEq, D.bl.injEq, exists_eq_left, exists_eq_left', exists_eq_right, true_and, and_true, if_true, if_false, ite_true, ite_false, reduceIte, Bool.false_eq_true, decide_eq_true_eq, eq_self, exists_const, Bool.not_true, Bool.not_false, Bool.not_eq_true', Bool.and_true, Bool.true_and, Bool.and_false, Bool.false_and, ne_eq, not_true_eq_false, not_false_eq_true, reduceCtorEq, Int.cast_ofNat_Int, Bool.not_eq_true, Bool.true_eq_false, n1, O.lst.injEq, ix3_0, ix3_0']
        rw [seqK_nx]
        have n3 : (h4.set a (.lst [.int j2, .int x, .loc c]))[a]? = some (.lst [.int j2, .int x, .loc c]) := get_set n1
        simp only [we_int, we_str, we_bl, we_non, we_ty, we_cst, we_var, we_bin, we_cmp, we_chain, we_neg, we_not, we_and1, we_and2, we_or1, we_or2, we_ife, we_tup, we_lst, we_ix, we_sl, wo_none, wo_some, we_blt, we_call, we_meth, we_rev, we_srt, we_lrg1, we_lrg2, we_trg1, ws_nil, ws_cons, wt_tr, wt_cmp, wt_chain, wt_not, wt_and1, wt_and2, wt_or1, wt_or2, wts_nil, wts_one, wr_bl, wr_non, wr_int, wr_tup, wn_add, wn_sub, wn_mul, wn_div, wn_mod, wn_pow, wn_neg, wn_cat, wn_tmul, wn_lmul, wn_ladd, wc_lt, wc_le, wc_gt, wc_ge, wc_eq, wc_ne, wc_isnon, wc_isnt, wx_tup, wx_loc, wl_tup, wl_loc, wv_tup, wb_len_tup, wb_len_loc, wb_int, wb_list, wb_tuple, wb_sum, wb_min, wb_max, wi_int_int, wi_int_bool, wi_int_tup, wi_tup_tup, wi_tup_int, wm_append, wm_extend, wm_popAt, wm_count, wss_nil, wss_one, seqK_rt, seqK_bk, seqK_ct, wq_expr, wq_ret, wq_retN, wq_pass, wq_brk, wq_cont, wq_set, wq_setc, wq_par, wq_setIx, ws_setIx, wq_ife, wq_for, wq_whil, wq_never, outK_rt, outK_nx, wv_rng1, wv_rng2, wv_seq, wv_seq_tup, wv_seq_loc, wv_zip, wv_zip_tup, we_comp, wp_ok, wp_bad, wp_br, wp_bind, items_tup, tgF, setAll, startE_eq, nones, List.getElem?_cons_zero, List.getElem?_cons_succ, List.set_cons_zero, List.set_cons_succ, List.map_cons, List.map_nil, List.cons_append, List.nil_append, List.length_cons, List.length_nil, Nat.reduceAdd, Nat.reduceSub, Nat.reduceMul, Nat.reduceLT, Nat.reduceLeDiff, Nat.reduceEqDiff, Option.some.injEq, D.int.injEq, D.tup.injEq, D.loc.injEq, D.bl.injEq, exists_eq_left, exists_eq_left', exists_eq_right, true_and, and_true, if_true, if_false, ite_true, ite_false, reduceIte, Bool.false_eq_true, decide_eq_true_eq, eq_self, exists_const, Bool.not_true, Bool.not_false, Bool.not_eq_true', Bool.and_true, Bool.true_and, Bool.and_false, Bool.false_and, ne_eq, not_true_eq_false, not_false_eq_true, reduceCtorEq, Int.cast_ofNat_Int, Bool.not_eq_true, Bool.true_eq_false, items_lst n3, at3_1, n3, O.lst.injEq, ix3_1, ix3_1']
        refine ⟨mulOk_r (by omega) (by omega), by omega, _, _, j2, _, ys, rfl, (kn.set (.inl (by simp))).set (.inl (by simp)), get_set n3, get_set_ne (get_set_ne n2 hn) hn⟩
      · exact ⟨_, _, g, x, cs, rfl, k1, e1, e2⟩
  · rintro o h' ⟨v2, v3, g, x, cs, rfl, kp, e1, e2⟩
    refine (draw_tail (E := E) (call := callF fs k) (v2 := v2) (v3 := v3) (v4 := none) hn e1 e2 m0 m1).mono fun o h'' q => ?_
    cases o with
    | rt d => obtain ⟨r, e, hr, P, q⟩ := q; exact ⟨r, e, hr, P, kp.trans q⟩
    | nx ρ => obtain ⟨r, e, hr, P, q⟩ := q; exact ⟨r, e, hr, P, kp.trans q⟩
    | _ => exact q
end
section
variable [hP : Has fs F.n__law_pool_v2 F.f__law_pool_v2]
theorem pool_ok {s : Nat} {ns : List Int} (hs : items? h (.loc s) = some (ns.map D.int)) : Wp E (callF fs (k + 1) F.n__law_pool_v2 [.loc s] h) fun d h' => ∃ a c, d = .loc a ∧ Pool h' a c ∧ Kp [] h h' := by
  refine wp_call hP.has rfl ?_
  unfold F.f__law_pool_v2
  dsimp only
  rw [wss_cons, wq_set]
  refine Wp.mono (Q := fun d h' => ∃ j : Int, d = .int j ∧ h' = h) ?_ fun d h1 ⟨j, ed, eh⟩ => ?_
  · simp only [we_int, we_str, we_bl, we_non, we_ty, we_cst, we_var, we_bin, we_cmp, we_chain, we_neg, we_not, we_and1, we_and2, we_or1, we_or2, we_ife, we_tup, we_lst, we_ix, we_sl, wo_none, wo_some, we_blt, we_call, we_meth, we_rev, we_srt, we_lrg1, we_lrg2, we_trg1, ws_nil, ws_cons, wt_tr, wt_cmp, wt_chain, wt_not, wt_and1, wt_and2, wt_or1, wt_or2, wts_nil, wts_one, wr_bl, wr_non, wr_int, wr_tup, wn_add, wn_sub, wn_mul, wn_div, wn_mod, wn_pow, wn_neg, wn_cat, wn_tmul, wn_lmul, wn_ladd, wc_lt, wc_le, wc_gt, wc_ge, wc_eq, wc_ne, wc_isnon, wc_isnt, wx_tup, wx_loc, wl_tup, wl_loc, wv_tup, wb_len_tup, wb_len_loc, wb_int, wb_list, wb_tuple, wb_sum, wb_min, wb_max, wi_int_int, wi_int_bool, wi_int_tup, wi_tup_tup, wi_tup_int, wm_append, wm_extend, wm_popAt, wm_count, wss_nil, wss_one, seqK_rt, seqK_bk, seqK_ct, wq_expr, wq_ret, wq_retN, wq_pass, wq_brk, wq_cont, wq_set, wq_setc, wq_par, wq_setIx, ws_setIx, wq_ife, wq_for, wq_whil, wq_never, outK_rt, outK_nx, wv_rng1, wv_rng2, wv_seq, wv_seq_tup, wv_seq_loc, wv_zip, wv_zip_tup, we_comp, wp_ok, wp_bad, wp_br, wp_bind, items_tup, tgF, setAll, startE_eq, nones, List.getElem?_cons_zero, List.getElem?_cons_succ, List.set_cons_zero, List.set_cons_succ, List.map_cons, List.map_nil, List.cons_append, List.nil_append, List.length_cons, List.length_nil, Nat.reduceAdd, Nat.reduceSub, Nat.reduceMul, Nat.reduceLT, Nat.reduceLeDiff, Nat.reduceEqDiff, Option.some.injEq, D.int.injEq, D.tup.injEq, D.loc.injEq, D.bl.injEq, exists_eq_left, exists_eq_left', exists_eq_right, true_and, and_true, if_true, if_false, ite_true, ite_false, reduceIte, Bool.false_eq_true, decide_eq_true_eq, eq_self, exists_const, Bool.not_true, Bool.not_false, Bool.not_eq_true', Bool.and_true, Bool.true_and, Bool.and_false, Bool.false_and, ne_eq, not_true_eq_false, not_false_eq_true, reduceCtorEq, Int.cast_ofNat_Int, Bool.not_eq_true, Bool.true_eq_false, hs, List.length_map]
    split
    · next c0 =>
      obtain ⟨y, ys, rfl⟩ : ∃ y ys, ns = y :: ys := by
        cases ns with
        | nil => exact absurd c0 (by decide)
        | cons y ys => exact ⟨y, ys, rfl⟩
      exact ⟨.int y, atI_of (n := 0) rfl rfl, by simp only [we_int, we_str, we_bl, we_non, we_ty, we_cst, we_var, we_bin, we_cmp, we_chain, we_neg, we_not, we_and1, we_and2, we_or1, we_or2, we_ife, we_tup, we_lst, we_ix, we_sl, wo_none, wo_some, we_blt, we_call, we_meth, we_rev, we_srt, we_lrg1, we_lrg2, we_trg1, ws_nil, ws_cons, wt_tr, wt_cmp, wt_chain, wt_not, wt_and1, wt_and2, wt_or1, wt_or2, wts_nil, wts_one, wr_bl, wr_non, wr_int, wr_tup, wn_add, wn_sub, wn_mul, wn_div, wn_mod, wn_pow, wn_neg, wn_cat, wn_tmul, wn_lmul, wn_ladd, wc_lt, wc_le, wc_gt, wc_ge, wc_eq, wc_ne, wc_isnon, wc_isnt, wx_tup, wx_loc, wl_tup, wl_loc, wv_tup, wb_len_tup, wb_len_loc, wb_int, wb_list, wb_tuple, wb_sum, wb_min, wb_max, wi_int_int, wi_int_bool, wi_int_tup, wi_tup_tup, wi_tup_int, wm_append, wm_extend, wm_popAt, wm_count, wss_nil, wss_one, seqK_rt, seqK_bk, seqK_ct, wq_expr, wq_ret, wq_retN, wq_pass, wq_brk, wq_cont, wq_set, wq_setc, wq_par, wq_setIx, ws_setIx, wq_ife, wq_for, wq_whil, wq_never, outK_rt, outK_nx, wv_rng1, wv_rng2, wv_seq, wv_seq_tup, wv_seq_loc, wv_zip, wv_zip_tup, we_comp, wp_ok, wp_bad, wp_br, wp_bind, items_tup, tgF, setAll, startE_eq, nones, List.getElem?_cons_zero, List.getElem?_cons_succ, List.set_cons_zero, List.set_cons_succ, List.map_cons, List.map_nil, List.cons_append, List.nil_append, List.length_cons, List.length_nil, Nat.reduceAdd, Nat.reduceSub, Nat.reduceMul, Nat.reduceLT, Nat.reduceLeDiff, Nat.reduceEqDiff, Option.some.injEq, D.int.injEq, D.tup.injEq, D.loc.injEq, D.bl.injEq, exists_eq_left, exists_eq_left', exists_eq_right, true_and, and_true, if_true, if_false, ite_true, ite_false, reduceIte, Bool.false_eq_true, decide_eq_true_eq, eq_self, exists_const, Bool.not_true, Bool.not_false, Bool.not_eq_true', Bool.and_true, Bool.true_and, Bool.and_false, Bool.false_and, ne_eq, not_true_eq_false, not_false_eq_true, reduceCtorEq, Int.cast_ofNat_Int, Bool.not_eq_true, Bool.true_eq_false]; exact ⟨_, rfl⟩⟩
    · trivial
  · subst ed eh
    simp only [we_int, we_str, we_bl, we_non, we_ty, we_cst, we_var, we_bin, we_cmp, we_chain, we_neg, we_not, we_and1, we_and2, we_or1, we_or2, we_ife, we_tup, we_lst, we_ix, we_sl, wo_none, wo_some, we_blt, we_call, we_meth, we_rev, we_srt, we_lrg1, we_lrg2, we_trg1, ws_nil, ws_cons, wt_tr, wt_cmp, wt_chain, wt_not, wt_and1, wt_and2, wt_or1, wt_or2, wts_nil, wts_one, wr_bl, wr_non, wr_int, wr_tup, wn_add, wn_sub, wn_mul, wn_div, wn_mod, wn_pow, wn_neg, wn_cat, wn_tmul, wn_lmul, wn_ladd, wc_lt, wc_le, wc_gt, wc_ge, wc_eq, wc_ne, wc_isnon, wc_isnt, wx_tup, wx_loc, wl_tup, wl_loc, wv_tup, wb_len_tup, wb_len_loc, wb_int, wb_list, wb_tuple, wb_sum, wb_min, wb_max, wi_int_int, wi_int_bool, wi_int_tup, wi_tup_tup, wi_tup_int, wm_append, wm_extend, wm_popAt, wm_count, wss_nil, wss_one, seqK_rt, seqK_bk, seqK_ct, wq_expr, wq_ret, wq_retN, wq_pass, wq_brk, wq_cont, wq_set, wq_setc, wq_par, wq_setIx, ws_setIx, wq_ife, wq_for, wq_whil, wq_never, outK_rt, outK_nx, wv_rng1, wv_rng2, wv_seq, wv_seq_tup, wv_seq_loc, wv_zip, wv_zip_tup, we_comp, wp_ok, wp_bad, wp_br, wp_bind, items_tup, tgF, setAll, startE_eq, nones, List.getElem?_cons_zero, List.getElem?_cons_succ, List.set_cons_zero, List.set_cons_succ, List.map_cons, List.map_nil, List.cons_append, List.nil_append, List.length_cons, List.length_nil, Nat.reduceAdd, Nat.reduceSub, Nat.reduceMul, Nat.reduceLT, Nat.reduceLeDiff, Nat.reduceEqDiff, Option.some.injEq, D.int.injEq, D.tup.injEq, D.loc.injEq, D.bl.injEq, exists_eq_left, exists_eq_left', exists_eq_right, true_and, and_true, if_true, if_false, ite_true, ite_false, reduceIte, Bool.false_eq_true, decide_eq_true_eq, eq_self, exists_const, Bool.not_true, Bool.not_false, Bool.not_eq_true', Bool.and_true, Bool.true_and, Bool.and_false, Bool.false_and, ne_eq, not_true_eq_false, not_false_eq_true, reduceCtorEq, Int.cast_ofNat_Int, Bool.not_eq_true, Bool.true_eq_false]
    rw [seqK_nx, wss_cons, wq_set]
    refine Wp.mono (Q := fun d h' => ∃ j : Int, d = .int j ∧ h' = h1) ?_ fun d h2 ⟨j2, ed, eh⟩ => ?_
    · simp only [we_int, we_str, we_bl, we_non, we_ty, we_cst, we_var, we_bin, we_cmp, we_chain, we_neg, we_not, we_and1, we_and2, we_or1, we_or2, we_ife, we_tup, we_lst, we_ix, we_sl, wo_none, wo_some, we_blt, we_call, we_meth, we_rev, we_srt, we_lrg1, we_lrg2, we_trg1, ws_nil, ws_cons, wt_tr, wt_cmp, wt_chain, wt_not, wt_and1, wt_and2, wt_or1, wt_or2, wts_nil, wts_one, wr_bl, wr_non, wr_int, wr_tup, wn_add, wn_sub, wn_mul, wn_div, wn_mod, wn_pow, wn_neg, wn_cat, wn_tmul, wn_lmul, wn_ladd, wc_lt, wc_le, wc_gt, wc_ge, wc_eq, wc_ne, wc_isnon, wc_isnt, wx_tup, wx_loc, wl_tup, wl_loc, wv_tup, wb_len_tup, wb_len_loc, wb_int, wb_list, wb_tuple, wb_sum, wb_min, wb_max, wi_int_int, wi_int_bool, wi_int_tup, wi_tup_tup, wi_tup_int, wm_append, wm_extend, wm_popAt, wm_count, wss_nil, wss_one, seqK_rt, seqK_bk, seqK_ct, wq_expr, wq_ret, wq_retN, wq_pass, wq_brk, wq_cont, wq_set, wq_setc, wq_par, wq_setIx, ws_setIx, wq_ife, wq_for, wq_whil, wq_never, outK_rt, outK_nx, wv_rng1, wv_rng2, wv_seq, wv_seq_tup, wv_seq_loc, wv_zip, wv_zip_tup, we_comp, wp_ok, wp_bad, wp_br, wp_bind, items_tup, tgF, setAll, startE_eq, nones, List.getElem?_cons_zero, List.getElem?_cons_succ, List.set_cons_zero, List.set_cons_succ, List.map_cons, List.map_nil, List.cons_append, List.nil_append, List.length_cons, List.length_nil, Nat.reduceAdd, Nat.reduceSub, Nat.reduceMul, Nat.reduceLT, Nat.reduceLeDiff, Nat.reduceEqDiff, Option.some.injEq, D.int.injEq, D.tup.injEq, D.loc.injEq, D.bl.injEq, exists_eq_left, exists_eq_left', exists_eq_right, true_and, and_true, if_true, if_false, ite_true, ite_false, reduceIte, Bool.false_eq_true, decide_eq_true_eq, eq_self, exists_const, Bool.not_true, Bool.not_false, Bool.not_eq_true', Bool.and_true, Bool.true_and, Bool.and_false, Bool.false_and, ne_eq, not_true_eq_false, not_false_eq_true, reduceCtorEq, Int.cast_ofNat_Int, Bool.not_eq_true, Bool.true_eq_false]
      split
      · exact mulOk_of (by omega) (by omega)
      · exact mulOk_of (by omega) (by omega)
    · subst ed eh
      simp only [we_int, we_str, we_bl, we_non, we_ty, we_cst, we_var, we_bin, we_cmp, we_chain, we_neg, we_not, we_and1, we_and2, we_or1, we_or2, we_ife, we_tup, we_lst, we_ix, we_sl, wo_none, wo_some, we_blt, we_call, we_meth, we_rev, we_srt, we_lrg1, we_lrg2, we_trg1, ws_nil, ws_cons, wt_tr, wt_cmp, wt_chain, wt_not, wt_and1, wt_and2, wt_or1, wt_or2, wts_nil, wts_one, wr_bl, wr_non, wr_int, wr_tup, wn_add, wn_sub, wn_mul, wn_div, wn_mod, wn_pow, wn_neg, wn_cat, wn_tmul, wn_lmul, wn_ladd, wc_lt, wc_le, wc_gt, wc_ge, wc_eq, wc_ne, wc_isnon, wc_isnt, wx_tup, wx_loc, wl_tup, wl_loc, wv_tup, wb_len_tup, wb_len_loc, wb_int, wb_list, wb_tuple, wb_sum, wb_min, wb_max, wi_int_int, wi_int_bool, wi_int_tup, wi_tup_tup, wi_tup_int, wm_append, wm_extend, wm_popAt, wm_count, wss_nil, wss_one, seqK_rt, seqK_bk, seqK_ct, wq_expr, wq_ret, wq_retN, wq_pass, wq_brk, wq_cont, wq_set, wq_setc, wq_par, wq_setIx, ws_setIx, wq_ife, wq_for, wq_whil, wq_never, outK_rt, outK_nx, wv_rng1, wv_rng2, wv_seq, wv_seq_tup, wv_seq_loc, wv_zip, wv_zip_tup, we_comp, wp_ok, wp_bad, wp_br, wp_bind, items_tup, tgF, setAll, startE_eq, nones, List.getElem?_cons_zero, List.getElem?_cons_succ, List.set_cons_zero, List.set_cons_succ, List.map_cons, List.map_nil, List.cons_append, List.nil_append, List.length_cons, List.length_nil, Nat.reduceAdd, Nat.reduceSub, Nat.reduceMul, Nat.reduceLT, Nat.reduceLeDiff, Nat.reduceEqDiff, Option.some.injEq, D.int.injEq, D.tup.injEq, D.loc.injEq, D.bl.injEq, exists_eq_left, exists_eq_left', exists_eq_right, true_and, and_true, if_true, if_false, ite_true, ite_false, reduceIte, Bool.false_eq_true, decide_eq_true_eq, eq_self, exists_const, Bool.not_true, Bool.not_false, Bool.not_eq_true', Bool.and_true, Bool.true_and, Bool.and_false, Bool.false_and, ne_eq, not_true_eq_false, not_false_eq_true, reduceCtorEq, Int.cast_ofNat_Int, Bool.not_eq_true, Bool.true_eq_false]
      rw [seqK_nx, wss_one, wq_ret, we_lst, ws_cons]
      refine Wp.mono (Q := fun d h' => ∃ j : Int, d = .int j ∧ h' = h2) ?_ fun d h3 ⟨j3, ed, eh⟩ => ?_
      · simp only [we_int, we_str, we_bl, we_non, we_ty, we_cst, we_var, we_bin, we_cmp, we_chain, we_neg, we_not, we_and1, we_and2, we_or1, we_or2, we_ife, we_tup, we_lst, we_ix, we_sl, wo_none, wo_some, we_blt, we_call, we_meth, we_rev, we_srt, we_lrg1, we_lrg2, we_trg1, ws_nil, ws_cons, wt_tr, wt_cmp, wt_chain, wt_not, wt_and1, wt_and2, wt_or1, wt_or2, wts_nil, wts_one, wr_bl, wr_non, wr_int, wr_tup, wn_add, wn_sub, wn_mul, wn_div, wn_mod, wn_pow, wn_neg, wn_cat, wn_tmul, wn_lmul, wn_ladd, wc_lt, wc_le, wc_gt, wc_ge, wc_eq, wc_ne, wc_isnon, wc_isnt, wx_tup, wx_loc, wl_tup, wl_loc, wv_tup, wb_len_tup, wb_len_loc, wb_int, wb_list, wb_tuple, wb_sum, wb_min, wb_max, wi_int_int, wi_int_bool, wi_int_tup, wi_tup_tup, wi_tup_int, wm_append, wm_extend, wm_popAt, wm_count, wss_nil, wss_one, seqK_rt, seqK_bk, seqK_ct, wq_expr, wq_ret, wq_retN, wq_pass, wq_brk, wq_cont, wq_set, wq_setc, wq_par, wq_setIx, ws_setIx, wq_ife, wq_for, wq_whil, wq_never, outK_rt, outK_nx, wv_rng1, wv_rng2, wv_seq, wv_seq_tup, wv_seq_loc, wv_zip, wv_zip_tup, we_comp, wp_ok, wp_bad, wp_br, wp_bind, items_tup, tgF, setAll, startE_eq, nones, List.getElem?_cons_zero, List.getElem?_cons_succ, List.set_cons_zero, List.set_cons_succ, List.map_cons, List.map_nil, List.cons_append, List.nil_append, List.length_cons, List.length_nil, Nat.reduceAdd, Nat.reduceSub, Nat.reduceMul, Nat.reduceLT, Nat.reduceLeDiff, Nat.reduceEqDiff, Option.some.injEq, D.int.injEq, D.tup.injEq, D.loc.injEq, D.bl.injEq, exists_eq_left, exists_eq_left', exists_eq_right, true_and, and_true, if_true, if_false, ite_true, ite_false, reduceIte, Bool.false_eq_true, decide_eq_true_eq, eq_self, exists_const, Bool.not_true, Bool.not_false, Bool.not_eq_true', Bool.and_true, Bool.true_and, Bool.and_false, Bool.false_and, ne_eq, not_true_eq_false, not_false_eq_true, reduceCtorEq, Int.cast_ofNat_Int, Bool.not_eq_true, Bool.true_eq_false]
        refine ⟨⟨by omega, by omega, by decide⟩, ?_⟩
        split
        · trivial
        · trivial
      · subst ed eh
        have e1 : items? (h3 ++ [O.lst (cutD (ns.map D.int) (some 1) none)]) (.loc h3.length) = some ((ns.drop 1).map D.int) := by
          rw [items_lst get_new, show cutD (ns.map D.int) (some 1) none = _ from cut_from (j := 1) rfl, List.map_drop]
        simp only [we_int, we_str, we_bl, we_non, we_ty, we_cst, we_var, we_bin, we_cmp, we_chain, we_neg, we_not, we_and1, we_and2, we_or1, we_or2, we_ife, we_tup, we_lst, we_ix, we_sl, wo_none, wo_some, we_blt, we_call, we_meth, we_rev, we_srt, we_lrg1, we_lrg2, we_trg1, ws_nil, ws_cons, wt_tr, wt_cmp, wt_chain, wt_not, wt_and1, wt_and2, wt_or1, wt_or2, wts_nil, wts_one, wr_bl, wr_non, wr_int, wr_tup, wn_add, wn_sub, wn_mul, wn_div, wn_mod, wn_pow, wn_neg, wn_cat, wn_tmul, wn_lmul, wn_ladd, wc_lt, wc_le, wc_gt, wc_ge, wc_eq, wc_ne, wc_isnon, wc_isnt, wx_tup, wx_loc, wl_tup, wl_loc, wv_tup, wb_len_tup, wb_len_loc, wb_int, wb_list, wb_tuple, wb_sum, wb_min, wb_max, wi_int_int, wi_int_bool, wi_int_tup, wi_tup_tup, wi_tup_int, wm_append, wm_extend, wm_popAt, wm_count, wss_nil, wss_one, seqK_rt, seqK_bk, seqK_ct, wq_expr, wq_ret, wq_retN, wq_pass, wq_brk, wq_cont, wq_set, wq_setc, wq_par, wq_setIx, ws_setIx, wq_ife, wq_for, wq_whil, wq_never, outK_rt, outK_nx, wv_rng1, wv_rng2, wv_seq, wv_seq_tup, wv_seq_loc, wv_zip, wv_zip_tup, we_comp, wp_ok, wp_bad, wp_br, wp_bind, items_tup, tgF, setAll, startE_eq, nones, List.getElem?_cons_zero, List.getElem?_cons_succ, List.set_cons_zero, List.set_cons_succ, List.map_cons, List.map_nil, List.cons_append, List.nil_append, List.length_cons, List.length_nil, Nat.reduceAdd, Nat.reduceSub, Nat.reduceMul, Nat.reduceLT, Nat.reduceLeDiff, Nat.reduceEqDiff, Option.some.injEq, D.int.injEq, D.tup.injEq, D.loc.injEq, D.bl.injEq, exists_eq_left, exists_eq_left', exists_eq_right, true_and, and_true, if_true, if_false, ite_true, ite_false, reduceIte, Bool.false_eq_true, decide_eq_true_eq, eq_self, exists_const, Bool.not_true, Bool.not_false, Bool.not_eq_true', Bool.and_true, Bool.true_and, Bool.and_false, Bool.false_and, ne_eq, not_true_eq_false, not_false_eq_true, reduceCtorEq, Int.cast_ofNat_Int, Bool.not_eq_true, Bool.true_eq_false, hs, e1]
        refine ⟨mulOk_r (by omega) (by omega), by omega, by rw [sizeLine_eq]; omega, _, _, rfl, ⟨?_, _, _, ns.drop 1, get_new, ?_⟩, Kp.refl.app.app.app⟩
        · simp only [List.length_append, List.length_cons, List.length_nil]; omega
        · exact get_app get_new
end
section
variable [hD : Has fs F.n__law_draw F.f__law_draw]
variable [hT : Has fs F.n__law_turned_v2 F.f__law_turned_v2]
theorem nodup_rg {n : Int} : ((List.range n.toNat).map fun i => ((i : Nat) : Int)).Nodup := List.nodup_range.map _ (fun a b ne e => ne (by omega))
theorem perm_erase {α : Type} : ∀ {l : List α} {i : Nat} {x : α}, l[i]? = some x → l.Perm (x :: l.eraseIdx i)
  | y :: l, 0, x, e => by cases e; exact .refl _
  | y :: l, i + 1, x, e => ((perm_erase (l := l) (i := i) e).cons y).trans (.swap ..)
  | [], _, _, e => by simp at e
theorem map_erase {l : List Int} {i : Nat} : (l.map D.int).eraseIdx i = (l.eraseIdx i).map D.int := by
  induction l generalizing i with
  | nil => rfl
  | cons x l ih =>
    cases i with
    | zero => rfl
    | succ i => show D.int x :: (l.map D.int).eraseIdx i = _; rw [ih]; rfl
theorem turned_ok {a c : Nat} {many : Int} (P : Pool h a c) (m0 : 0 < many) (m1 : many ≤ 1000000) : Wp E (callF fs (k + 2) F.n__law_turned_v2 [.loc a, .int many] h) fun d h' => ∃ (l : Nat) (ns : List Int), d = .loc l ∧ h'[l]? = some (.lst (ns.map D.int)) ∧ ns.Perm ((List.range many.toNat).map fun i => ((i : Nat) : Int)) ∧ h.length ≤ l ∧ Pool h' a c ∧ Kp [a, c] h h' := by
  refine wp_call hT.has rfl ?_
  unfold F.f__law_turned_v2
  dsimp only
  rw [wss_cons]
  simp only [we_int, we_str, we_bl, we_non, we_ty, we_cst, we_var, we_bin, we_cmp, we_chain, we_neg, we_not, we_and1, we_and2, we_or1, we_or2, we_ife, we_tup, we_lst, we_ix, we_sl, wo_none, wo_some, we_blt, we_call, we_meth, we_rev, we_srt, we_lrg1, we_lrg2, we_trg1, ws_nil, ws_cons, wt_tr, wt_cmp, wt_chain, wt_not, wt_and1, wt_and2, wt_or1, wt_or2, wts_nil, wts_one, wr_bl, wr_non, wr_int, wr_tup, wn_add, wn_sub, wn_mul, wn_div, wn_mod, wn_pow, wn_neg, wn_cat, wn_tmul, wn_lmul, wn_ladd, wc_lt, wc_le, wc_gt, wc_ge, wc_eq, wc_ne, wc_isnon, wc_isnt, wx_tup, wx_loc, wl_tup, wl_loc, wv_tup, wb_len_tup, wb_len_loc, wb_int, wb_list, wb_tuple, wb_sum, wb_min, wb_max, wi_int_int, wi_int_bool, wi_int_tup, wi_tup_tup, wi_tup_int, wm_append, wm_extend, wm_popAt, wm_count, wss_nil, wss_one, seqK_rt, seqK_bk, seqK_ct, wq_expr, wq_ret, wq_retN, wq_pass, wq_brk, wq_cont, wq_set, wq_setc, wq_par, wq_setIx, ws_setIx, wq_ife, wq_for, wq_whil, wq_never, outK_rt, outK_nx, wv_rng1, wv_rng2, wv_seq, wv_seq_tup, wv_seq_loc, wv_zip, wv_zip_tup, we_comp, wp_ok, wp_bad, wp_br, wp_bind, items_tup, tgF, setAll, startE_eq, nones, List.getElem?_cons_zero, List.getElem?_cons_succ, List.set_cons_zero, List.set_cons_succ, List.map_cons, List.map_nil, List.cons_append, List.nil_append, List.length_cons, List.length_nil, Nat.reduceAdd, Nat.reduceSub, Nat.reduceMul, Nat.reduceLT, Nat.reduceLeDiff, Nat.reduceEqDiff, Option.some.injEq, D.int.injEq, D.tup.injEq, D.loc.injEq, D.bl.injEq, exists_eq_left, exists_eq_left', exists_eq_right, true_and, and_true, if_true, if_false, ite_true, ite_false, reduceIte, Bool.false_eq_true, decide_eq_true_eq, eq_self, exists_const, Bool.not_true, Bool.not_false, Bool.not_eq_true', Bool.and_true, Bool.true_and, Bool.and_false, Bool.false_and, ne_eq, not_true_eq_false, not_false_eq_true, reduceCtorEq, Int.cast_ofNat_Int, Bool.not_eq_true, Bool.true_eq_false]
  refine ⟨by unfold rgOk; omega, by omega, ?_⟩
  rw [seqK_nx, wss_cons]
  simp only [we_int, we_str, we_bl, we_non, we_ty, we_cst, we_var, we_bin, we_cmp, we_chain, we_neg, we_not, we_and1, we_and2, we_or1, we_or2, we_ife, we_tup, we_lst, we_ix, we_sl, wo_none, wo_some, we_blt, we_call, we_meth, we_rev, we_srt, we_lrg1, we_lrg2, we_trg1, ws_nil, ws_cons, wt_tr, wt_cmp, wt_chain, wt_not, wt_and1, wt_and2, wt_or1, wt_or2, wts_nil, wts_one, wr_bl, wr_non, wr_int, wr_tup, wn_add, wn_sub, wn_mul, wn_div, wn_mod, wn_pow, wn_neg, wn_cat, wn_tmul, wn_lmul, wn_ladd, wc_lt, wc_le, wc_gt, wc_ge, wc_eq, wc_ne, wc_isnon, wc_isnt, wx_tup, wx_loc, wl_tup, wl_loc, wv_tup, wb_len_tup, wb_len_loc, wb_int, wb_list, wb_tuple, wb_sum, wb_min, wb_max, wi_int_int, wi_int_bool, wi_int_tup, wi_tup_tup, wi_tup_int, wm_append, wm_extend, wm_popAt, wm_count, wss_nil, wss_one, seqK_rt, seqK_bk, seqK_ct, wq_expr, wq_ret, wq_retN, wq_pass, wq_brk, wq_cont, wq_set, wq_setc, wq_par, wq_setIx, ws_setIx, wq_ife, wq_for, wq_whil, wq_never, outK_rt, outK_nx, wv_rng1, wv_rng2, wv_seq, wv_seq_tup, wv_seq_loc, wv_zip, wv_zip_tup, we_comp, wp_ok, wp_bad, wp_br, wp_bind, items_tup, tgF, setAll, startE_eq, nones, List.getElem?_cons_zero, List.getElem?_cons_succ, List.set_cons_zero, List.set_cons_succ, List.map_cons, List.map_nil, List.cons_append, List.nil_append, List.length_cons, List.length_nil, Nat.reduceAdd, Nat.reduceSub, Nat.reduceMul, Nat.reduceLT, Nat.reduceLeDiff, Nat.reduceEqDiff, Option.some.injEq, D.int.injEq, D.tup.injEq, D.loc.injEq, D.bl.injEq, exists_eq_left, exists_eq_left', exists_eq_right, true_and, and_true, if_true, if_false, ite_true, ite_false, reduceIte, Bool.false_eq_true, decide_eq_true_eq, eq_self, exists_const, Bool.not_true, Bool.not_false, Bool.not_eq_true', Bool.and_true, Bool.true_and, Bool.and_false, Bool.false_and, ne_eq, not_true_eq_false, not_false_eq_true, reduceCtorEq, Int.cast_ofNat_Int, Bool.not_eq_true, Bool.true_eq_false, rgD_ti]
  generalize hn : many.toNat = n
  have hmn : many = (n : Int) := by omega
  subst hmn
  refine ⟨⟨by omega, by omega⟩, ?_⟩
  generalize hl : h.length = l0
  generalize hh : h ++ [O.lst (((List.range n).map fun i => ((i : Nat) : Int)).map D.int)] = h1
  have k1 : Kp [a, c] h h1 := by rw [← hh]; exact Kp.refl.app
  have lt := P.lt
  have P1 : Pool h1 a c := by rw [← hh]; exact P.app
  have el : h1[l0]? = some (.lst (((List.range n).map fun i => ((i : Nat) : Int)).map D.int)) := by rw [← hh, ← hl]; exact get_new
  generalize hm : h1.length = m0'
  have hlm : l0 < m0' := by rw [← hm]; exact get_lt' el
  refine wp_loop (fun i ρ h' => ∃ (x4 : Option D) (left found : List Int), ρ = [some (.loc a), some (.int (n : Int)), some (.loc l0), some (.loc m0'), x4] ∧ h'[l0]? = some (.lst (List.map D.int left)) ∧ h'[m0']? = some (.lst (List.map D.int found)) ∧ (found ++ left).Perm ((List.range n).map fun i => ((i : Nat) : Int)) ∧ found.length = i ∧ Pool h' a c ∧ Kp [a, c] h h') (fun _ _ _ _ => rfl) (fun i x ρ h' hx ⟨x4, left, found, e, e1, e2, pm, hf, P', kp⟩ => ?_) (fun ρ h' ⟨x4, left, found, e, e1, e2, pm, hf, P', kp⟩ => ?_) ⟨none, (List.range n).map fun i => ((i : Nat) : Int), [], rfl, get_app el, by rw [← hm]; exact get_new, by simp, rfl, P1.app, k1.app⟩
  · obtain ⟨hi, ex⟩ := rng_item hx
    subst e ex
    refine ⟨_, rfl, ?_⟩
    have hlen := pm.length_eq
    rw [List.length_append, List.length_map, List.length_range] at hlen
    simp only [we_int, we_str, we_bl, we_non, we_ty, we_cst, we_var, we_bin, we_cmp, we_chain, we_neg, we_not, we_and1, we_and2, we_or1, we_or2, we_ife, we_tup, we_lst, we_ix, we_sl, wo_none, wo_some, we_blt, we_call, we_meth, we_rev, we_srt, we_lrg1, we_lrg2, we_trg1, ws_nil, ws_cons, wt_tr, wt_cmp, wt_chain, wt_not, wt_and1, wt_and2, wt_or1, wt_or2, wts_nil, wts_one, wr_bl, wr_non, wr_int, wr_tup, wn_add, wn_sub, wn_mul, wn_div, wn_mod, wn_pow, wn_neg, wn_cat, wn_tmul, wn_lmul, wn_ladd, wc_lt, wc_le, wc_gt, wc_ge, wc_eq, wc_ne, wc_isnon, wc_isnt, wx_tup, wx_loc, wl_tup, wl_loc, wv_tup, wb_len_tup, wb_len_loc, wb_int, wb_list, wb_tuple, wb_sum, wb_min, wb_max, wi_int_int, wi_int_bool, wi_int_tup, wi_tup_tup, wi_tup_int, wm_append, wm_extend, wm_popAt, wm_count, wss_nil, wss_one, seqK_rt, seqK_bk, seqK_ct, wq_expr, wq_ret, wq_retN, wq_pass, wq_brk, wq_cont, wq_set, wq_setc, wq_par, wq_setIx, ws_setIx, wq_ife, wq_for, wq_whil, wq_never, outK_rt, outK_nx, wv_rng1, wv_rng2, wv_seq, wv_seq_tup, wv_seq_loc, wv_zip, wv_zip_tup, we_comp, wp_ok, wp_bad, wp_br, wp_bind, items_tup, tgF, setAll, startE_eq, nones, List.getElem?_cons_zero, List.getElem?_cons_succ, List.set_cons_zero, List.set_cons_succ, List.map_cons, List.map_nil, List.cons_append, List.nil_append, List.length_cons, List.length_nil, Nat.reduceAdd, Nat.reduceSub, Nat.reduceMul, Nat.reduceLT, Nat.reduceLeDiff, Nat.reduceEqDiff, Option.some.injEq, D.int.injEq, D.tup.injEq, D.loc.injEq, D.bl.injEq, exists_eq_left, exists_eq_left', exists_eq_right, true_and, and_true, if_true, if_false, ite_true, ite_false, reduceIte, Bool.false_eq_true, decide_eq_true_eq, eq_self, exists_const, Bool.not_true, Bool.not_false, Bool.not_eq_true', Bool.and_true, Bool.true_and, Bool.and_false, Bool.false_and, ne_eq, not_true_eq_false, not_false_eq_true, reduceCtorEq, Int.cast_ofNat_Int, Bool.not_eq_true, Bool.true_eq_false, ty_loc e1, ty_loc e2, items_lst e1, List.length_map]
    refine Wp.mono (draw_ok P' (by omega) (by omega)) fun d h2 ⟨r, ed, hr, P2, k2⟩ => ?_
    subst ed
    have ne1 : l0 ∉ [a, c] := by simp; omega
    have ne2 : m0' ∉ [a, c] := by simp; omega
    have f1 := k2.get e1 ne1
    have f2 := k2.get e2 ne2
    have hr2 : r.toNat < left.length := by omega
    have sq : seqIndex? r left.length = some r.toNat := by
      unfold seqIndex?
      have c1 : (0 : Int) ≤ r := hr.1
      simp [c1]; omega
    simp only [we_int, we_str, we_bl, we_non, we_ty, we_cst, we_var, we_bin, we_cmp, we_chain, we_neg, we_not, we_and1, we_and2, we_or1, we_or2, we_ife, we_tup, we_lst, we_ix, we_sl, wo_none, wo_some, we_blt, we_call, we_meth, we_rev, we_srt, we_lrg1, we_lrg2, we_trg1, ws_nil, ws_cons, wt_tr, wt_cmp, wt_chain, wt_not, wt_and1, wt_and2, wt_or1, wt_or2, wts_nil, wts_one, wr_bl, wr_non, wr_int, wr_tup, wn_add, wn_sub, wn_mul, wn_div, wn_mod, wn_pow, wn_neg, wn_cat, wn_tmul, wn_lmul, wn_ladd, wc_lt, wc_le, wc_gt, wc_ge, wc_eq, wc_ne, wc_isnon, wc_isnt, wx_tup, wx_loc, wl_tup, wl_loc, wv_tup, wb_len_tup, wb_len_loc, wb_int, wb_list, wb_tuple, wb_sum, wb_min, wb_max, wi_int_int, wi_int_bool, wi_int_tup, wi_tup_tup, wi_tup_int, wm_append, wm_extend, wm_popAt, wm_count, wss_nil, wss_one, seqK_rt, seqK_bk, seqK_ct, wq_expr, wq_ret, wq_retN, wq_pass, wq_brk, wq_cont, wq_set, wq_setc, wq_par, wq_setIx, ws_setIx, wq_ife, wq_for, wq_whil, wq_never, outK_rt, outK_nx, wv_rng1, wv_rng2, wv_seq, wv_seq_tup, wv_seq_loc, wv_zip, wv_zip_tup, we_comp, wp_ok, wp_bad, wp_br, wp_bind, items_tup, tgF, setAll, startE_eq, nones, List.getElem?_cons_zero, List.getElem?_cons_succ, List.set_cons_zero, List.set_cons_succ, List.map_cons, List.map_nil, List.cons_append, List.nil_append, List.length_cons, List.length_nil, Nat.reduceAdd, Nat.reduceSub, Nat.reduceMul, Nat.reduceLT, Nat.reduceLeDiff, Nat.reduceEqDiff, Option.some.injEq, D.int.injEq, D.tup.injEq, D.loc.injEq, D.bl.injEq, exists_eq_left, exists_eq_left', exists_eq_right, true_and, and_true, if_true, if_false, ite_true, ite_false, reduceIte, Bool.false_eq_true, decide_eq_true_eq, eq_self, exists_const, Bool.not_true, Bool.not_false, Bool.not_eq_true', Bool.and_true, Bool.true_and, Bool.and_false, Bool.false_and, ne_eq, not_true_eq_false, not_false_eq_true, reduceCtorEq, Int.cast_ofNat_Int, Bool.not_eq_true, Bool.true_eq_false, f1, O.lst.injEq, List.length_map, sq]
    refine ⟨⟨by omega, by omega⟩, .int left[r.toNat], by rw [List.getElem?_map, List.getElem?_eq_getElem hr2]; rfl, ?_⟩
    have g2 : (h2.set l0 (.lst ((left.map D.int).eraseIdx r.toNat)))[m0']? = some (.lst (found.map D.int)) := get_set_ne f2 (by omega)
    simp only [we_int, we_str, we_bl, we_non, we_ty, we_cst, we_var, we_bin, we_cmp, we_chain, we_neg, we_not, we_and1, we_and2, we_or1, we_or2, we_ife, we_tup, we_lst, we_ix, we_sl, wo_none, wo_some, we_blt, we_call, we_meth, we_rev, we_srt, we_lrg1, we_lrg2, we_trg1, ws_nil, ws_cons, wt_tr, wt_cmp, wt_chain, wt_not, wt_and1, wt_and2, wt_or1, wt_or2, wts_nil, wts_one, wr_bl, wr_non, wr_int, wr_tup, wn_add, wn_sub, wn_mul, wn_div, wn_mod, wn_pow, wn_neg, wn_cat, wn_tmul, wn_lmul, wn_ladd, wc_lt, wc_le, wc_gt, wc_ge, wc_eq, wc_ne, wc_isnon, wc_isnt, wx_tup, wx_loc, wl_tup, wl_loc, wv_tup, wb_len_tup, wb_len_loc, wb_int, wb_list, wb_tuple, wb_sum, wb_min, wb_max, wi_int_int, wi_int_bool, wi_int_tup, wi_tup_tup, wi_tup_int, wm_append, wm_extend, wm_popAt, wm_count, wss_nil, wss_one, seqK_rt, seqK_bk, seqK_ct, wq_expr, wq_ret, wq_retN, wq_pass, wq_brk, wq_cont, wq_set, wq_setc, wq_par, wq_setIx, ws_setIx, wq_ife, wq_for, wq_whil, wq_never, outK_rt, outK_nx, wv_rng1, wv_rng2, wv_seq, wv_seq_tup, wv_seq_loc, wv_zip, wv_zip_tup, we_comp, wp_ok, wp_bad, wp_br, wp_bind, items_tup, tgF, setAll, startE_eq, nones, List.getElem?_cons_zero, List.getElem?_cons_succ, List.set_cons_zero, List.set_cons_succ, List.map_cons, List.map_nil, List.cons_append, List.nil_append, List.length_cons, List.length_nil, Nat.reduceAdd, Nat.reduceSub, Nat.reduceMul, Nat.reduceLT, Nat.reduceLeDiff, Nat.reduceEqDiff, Option.some.injEq, D.int.injEq, D.tup.injEq, D.loc.injEq, D.bl.injEq, exists_eq_left, exists_eq_left', exists_eq_right, true_and, and_true, if_true, if_false, ite_true, ite_false, reduceIte, Bool.false_eq_true, decide_eq_true_eq, eq_self, exists_const, Bool.not_true, Bool.not_false, Bool.not_eq_true', Bool.and_true, Bool.true_and, Bool.and_false, Bool.false_and, ne_eq, not_true_eq_false, not_false_eq_true, reduceCtorEq, Int.cast_ofNat_Int, Bool.not_eq_true, Bool.true_eq_false, g2, O.lst.injEq, List.length_map]
    refine ⟨by rw [sizeLine_eq]; omega, _, left.eraseIdx r.toNat, found ++ [left[r.toNat]], rfl, ?_, ?_, ?_, by simp [hf], ?_, ?_⟩
    · rw [← map_erase]
      exact get_set_ne (get_set f1) (by omega)
    · rw [get_set g2, List.map_append]; rfl
    · rw [List.append_assoc]
      exact ((perm_erase (List.getElem?_eq_getElem hr2)).symm.append_left found).trans pm
    · exact (P2.set (by omega) (by omega)).set (by omega) (by omega)
    · have h0 : h.length ≤ l0 := by omega
      exact ((kp.trans k2).set (.inr h0)).set (.inr (by omega))
  · subst e
    rw [rng_len] at hf
    rw [seqK_nx]
    simp only [we_int, we_str, we_bl, we_non, we_ty, we_cst, we_var, we_bin, we_cmp, we_chain, we_neg, we_not, we_and1, we_and2, we_or1, we_or2, we_ife, we_tup, we_lst, we_ix, we_sl, wo_none, wo_some, we_blt, we_call, we_meth, we_rev, we_srt, we_lrg1, we_lrg2, we_trg1, ws_nil, ws_cons, wt_tr, wt_cmp, wt_chain, wt_not, wt_and1, wt_and2, wt_or1, wt_or2, wts_nil, wts_one, wr_bl, wr_non, wr_int, wr_tup, wn_add, wn_sub, wn_mul, wn_div, wn_mod, wn_pow, wn_neg, wn_cat, wn_tmul, wn_lmul, wn_ladd, wc_lt, wc_le, wc_gt, wc_ge, wc_eq, wc_ne, wc_isnon, wc_isnt, wx_tup, wx_loc, wl_tup, wl_loc, wv_tup, wb_len_tup, wb_len_loc, wb_int, wb_list, wb_tuple, wb_sum, wb_min, wb_max, wi_int_int, wi_int_bool, wi_int_tup, wi_tup_tup, wi_tup_int, wm_append, wm_extend, wm_popAt, wm_count, wss_nil, wss_one, seqK_rt, seqK_bk, seqK_ct, wq_expr, wq_ret, wq_retN, wq_pass, wq_brk, wq_cont, wq_set, wq_setc, wq_par, wq_setIx, ws_setIx, wq_ife, wq_for, wq_whil, wq_never, outK_rt, outK_nx, wv_rng1, wv_rng2, wv_seq, wv_seq_tup, wv_seq_loc, wv_zip, wv_zip_tup, we_comp, wp_ok, wp_bad, wp_br, wp_bind, items_tup, tgF, setAll, startE_eq, nones, List.getElem?_cons_zero, List.getElem?_cons_succ, List.set_cons_zero, List.set_cons_succ, List.map_cons, List.map_nil, List.cons_append, List.nil_append, List.length_cons, List.length_nil, Nat.reduceAdd, Nat.reduceSub, Nat.reduceMul, Nat.reduceLT, Nat.reduceLeDiff, Nat.reduceEqDiff, Option.some.injEq, D.int.injEq, D.tup.injEq, D.loc.injEq, D.bl.injEq, exists_eq_left, exists_eq_left', exists_eq_right, true_and, and_true, if_true, if_false, ite_true, ite_false, reduceIte, Bool.false_eq_true, decide_eq_true_eq, eq_self, exists_const, Bool.not_true, Bool.not_false, Bool.not_eq_true', Bool.and_true, Bool.true_and, Bool.and_false, Bool.false_and, ne_eq, not_true_eq_false, not_false_eq_true, reduceCtorEq, Int.cast_ofNat_Int, Bool.not_eq_true, Bool.true_eq_false]
    have hlen := pm.length_eq
    rw [List.length_append, List.length_map, List.length_range] at hlen
    have : left = [] := List.eq_nil_of_length_eq_zero (by omega)
    subst this
    rw [List.append_nil] at pm
    exact ⟨m0', found, rfl, e2, pm, by omega, P', kp⟩

/-- a comprehension of draws -/
theorem draws_ok {a c : Nat} {many : Int} {S : Src} {T : Tg} {ρ : Env'} {elt : Env' → M D} {h1 : HA} {Q : Unit → HA → Prop} {test : Env' → M Bool} (P : Pool h1 a c) (small : S.items.length ≤ 1000000) (chk : ∀ h', Kp [a, c] h1 h' → S.chk h' = true)
    (step : ∀ x, x ∈ S.items → ∀ h', Pool h' a c → ∃ ρ1, tgF T x ρ = some ρ1 ∧ Wp (fun _ _ _ => False) (test ρ1 h') (fun b h2 => b = true ∧ h2 = h') ∧ Wp (fun _ _ _ => False) (elt ρ1 h') fun d h2 => ∃ r, d = .int r ∧ (0 ≤ r ∧ r < many) ∧ Pool h2 a c ∧ Kp [a, c] h' h2)
    (done : ∀ h' (ns : List Int), ns.length = S.items.length → (∀ n ∈ ns, 0 ≤ n ∧ n < many) → Pool h' a c → Kp [a, c] h1 h' → h'[h1.length]? = some (.lst (ns.map D.int)) → Q () h') : Wp E (noEx (lcLoop S T test elt h1.length ρ S.items) (h1 ++ [.lst []])) Q := by
  have lt := P.lt
  refine wp_noEx (wp_lcLoop (fun i acc h' => ∃ ns : List Int, acc = ns.map D.int ∧ ns.length = i ∧ (∀ n ∈ ns, 0 ≤ n ∧ n < many) ∧ Pool h' a c ∧ Kp [a, c] h1 h' ∧ h'[h1.length]? = some (.lst acc)) (fun i acc h' ⟨ns, _, _, _, _, kp, _⟩ => chk h' kp) (fun i x acc h' hx ⟨ns, ea, hl, hr, P', kp, hb⟩ => ?_) (fun acc h' ⟨ns, ea, hl, hr, P', kp, hb⟩ => ?_) ⟨[], rfl, rfl, by simp, P.app, Kp.refl.app, get_new⟩)
  · subst ea
    have hi : i < S.items.length := (List.getElem?_eq_some_iff.mp hx).1
    obtain ⟨ρ1, e, t, p⟩ := step x (List.mem_of_getElem? hx) h' P'
    refine ⟨ρ1, e, t.mono fun b h2 ⟨eb, eh⟩ => ?_⟩
    subst eb eh
    rw [if_pos rfl]
    refine p.mono fun d h3 ⟨r, ed, hr2, P3, k3⟩ => ?_
    subst ed
    have hb3 := k3.get hb (by simp; omega)
    refine ⟨hb3, by rw [List.length_map, sizeLine_eq]; omega, ns ++ [r], by rw [List.map_append]; rfl, by rw [List.length_append, hl]; rfl, fun n hn => ?_, P3.set (by omega) (by omega), (kp.trans k3).set (.inr (Nat.le_refl _)), get_set hb3⟩
    rcases List.mem_append.mp hn with z | z
    · exact hr n z
    · rw [List.mem_singleton.mp z]; exact hr2
  · subst ea
    exact done h' ns hl hr P' kp hb
theorem draws_lit {a c : Nat} {many : Int} {S : Src} {T : Tg} {ρ : Env'} {elt : Env' → M D} {h1 : HA} {Q : Unit → HA → Prop} {test : Env' → M Bool} (P : Pool h1 a c) (small : S.items.length ≤ 1000000) (chk : ∀ h', S.chk h' = true)
    (step : ∀ x, x ∈ S.items → ∀ h', Pool h' a c → ∃ ρ1, tgF T x ρ = some ρ1 ∧ Wp (fun _ _ _ => False) (test ρ1 h') (fun b h2 => b = true ∧ h2 = h') ∧ Wp (fun _ _ _ => False) (elt ρ1 h') fun d h2 => ∃ r, d = .int r ∧ (0 ≤ r ∧ r < many) ∧ Pool h2 a c ∧ Kp [a, c] h' h2)
    (done : ∀ h' (ns : List Int), ns.length = S.items.length → (∀ n ∈ ns, 0 ≤ n ∧ n < many) → Pool h' a c → Kp [a, c] h1 h' → h'[h1.length]? = some (.lst (ns.map D.int)) → Q () h') : Wp E (noEx (lcLoop S T test elt h1.length ρ S.items) (h1 ++ [.lst []])) Q := draws_ok P small (fun h' _ => chk h') step done
section
variable [hB : Has fs F.n__law_batch F.f__law_batch]
theorem batch_ok {a c : Nat} {p q : Int} {xs : List Int} (P : Pool h a c) (p0 : 0 < p) (p1 : p ≤ 65521) (q0 : 0 < q) (q1 : q ≤ 1000) : Wp E (callF fs (k + 2) F.n__law_batch [.loc a, .tup [.int p, .int q, ti xs]] h) fun d h' => ∃ ns : List Int, d = ti ns ∧ (ns.length : Int) = q ∧ (∀ n ∈ ns, 0 ≤ n ∧ n < p) ∧ Pool h' a c ∧ Kp [a, c] h h' := by
  refine wp_call hB.has rfl ?_
  unfold F.f__law_batch
  dsimp only
  rw [wss_cons]
  simp only [we_int, we_str, we_bl, we_non, we_ty, we_cst, we_var, we_bin, we_cmp, we_chain, we_neg, we_not, we_and1, we_and2, we_or1, we_or2, we_ife, we_tup, we_lst, we_ix, we_sl, wo_none, wo_some, we_blt, we_call, we_meth, we_rev, we_srt, we_lrg1, we_lrg2, we_trg1, ws_nil, ws_cons, wt_tr, wt_cmp, wt_chain, wt_not, wt_and1, wt_and2, wt_or1, wt_or2, wts_nil, wts_one, wr_bl, wr_non, wr_int, wr_tup, wn_add, wn_sub, wn_mul, wn_div, wn_mod, wn_pow, wn_neg, wn_cat, wn_tmul, wn_lmul, wn_ladd, wc_lt, wc_le, wc_gt, wc_ge, wc_eq, wc_ne, wc_isnon, wc_isnt, wx_tup, wx_loc, wl_tup, wl_loc, wv_tup, wb_len_tup, wb_len_loc, wb_int, wb_list, wb_tuple, wb_sum, wb_min, wb_max, wi_int_int, wi_int_bool, wi_int_tup, wi_tup_tup, wi_tup_int, wm_append, wm_extend, wm_popAt, wm_count, wss_nil, wss_one, seqK_rt, seqK_bk, seqK_ct, wq_expr, wq_ret, wq_retN, wq_pass, wq_brk, wq_cont, wq_set, wq_setc, wq_par, wq_setIx, ws_setIx, wq_ife, wq_for, wq_whil, wq_never, outK_rt, outK_nx, wv_rng1, wv_rng2, wv_seq, wv_seq_tup, wv_seq_loc, wv_zip, wv_zip_tup, we_comp, wp_ok, wp_bad, wp_br, wp_bind, items_tup, tgF, setAll, startE_eq, nones, List.getElem?_cons_zero, List.getElem?_cons_succ, List.set_cons_zero, List.set_cons_succ, List.map_cons, List.map_nil, List.cons_append, List.nil_append, List.length_cons, List.length_nil, Nat.reduceAdd, Nat.reduceSub, Nat.reduceMul, Nat.reduceLT, Nat.reduceLeDiff, Nat.reduceEqDiff, Option.some.injEq, D.int.injEq, D.tup.injEq, D.loc.injEq, D.bl.injEq, exists_eq_left, exists_eq_left', exists_eq_right, true_and, and_true, if_true, if_false, ite_true, ite_false, reduceIte, Bool.false_eq_true, decide_eq_true_eq, eq_self, exists_const, Bool.not_true, Bool.not_false, Bool.not_eq_true', Bool.and_true, Bool.true_and, Bool.and_false, Bool.false_and, ne_eq, not_true_eq_false, not_false_eq_true, reduceCtorEq, Int.cast_ofNat_Int, Bool.not_eq_true, Bool.true_eq_false]
  rw [seqK_nx, wss_cons, wq_ife, wt_cmp, we_cmp]
  simp only [we_int, we_str, we_bl, we_non, we_ty, we_cst, we_var, we_bin, we_cmp, we_chain, we_neg, we_not, we_and1, we_and2, we_or1, we_or2, we_ife, we_tup, we_lst, we_ix, we_sl, wo_none, wo_some, we_blt, we_call, we_meth, we_rev, we_srt, we_lrg1, we_lrg2, we_trg1, ws_nil, ws_cons, wt_tr, wt_cmp, wt_chain, wt_not, wt_and1, wt_and2, wt_or1, wt_or2, wts_nil, wts_one, wr_bl, wr_non, wr_int, wr_tup, wn_add, wn_sub, wn_mul, wn_div, wn_mod, wn_pow, wn_neg, wn_cat, wn_tmul, wn_lmul, wn_ladd, wc_lt, wc_le, wc_gt, wc_ge, wc_eq, wc_ne, wc_isnon, wc_isnt, wx_tup, wx_loc, wl_tup, wl_loc, wv_tup, wb_len_tup, wb_len_loc, wb_int, wb_list, wb_tuple, wb_sum, wb_min, wb_max, wi_int_int, wi_int_bool, wi_int_tup, wi_tup_tup, wi_tup_int, wm_append, wm_extend, wm_popAt, wm_count, wss_nil, wss_one, seqK_rt, seqK_bk, seqK_ct, wq_expr, wq_ret, wq_retN, wq_pass, wq_brk, wq_cont, wq_set, wq_setc, wq_par, wq_setIx, ws_setIx, wq_ife, wq_for, wq_whil, wq_never, outK_rt, outK_nx, wv_rng1, wv_rng2, wv_seq, wv_seq_tup, wv_seq_loc, wv_zip, wv_zip_tup, we_comp, wp_ok, wp_bad, wp_br, wp_bind, items_tup, tgF, setAll, startE_eq, nones, List.getElem?_cons_zero, List.getElem?_cons_succ, List.set_cons_zero, List.set_cons_succ, List.map_cons, List.map_nil, List.cons_append, List.nil_append, List.length_cons, List.length_nil, Nat.reduceAdd, Nat.reduceSub, Nat.reduceMul, Nat.reduceLT, Nat.reduceLeDiff, Nat.reduceEqDiff, Option.some.injEq, D.int.injEq, D.tup.injEq, D.loc.injEq, D.bl.injEq, exists_eq_left, exists_eq_left', exists_eq_right, true_and, and_true, if_true, if_false, ite_true, ite_false, reduceIte, Bool.false_eq_true, decide_eq_true_eq, eq_self, exists_const, Bool.not_true, Bool.not_false, Bool.not_eq_true', Bool.and_true, Bool.true_and, Bool.and_false, Bool.false_and, ne_eq, not_true_eq_false, not_false_eq_true, reduceCtorEq, Int.cast_ofNat_Int, Bool.not_eq_true, Bool.true_eq_false]
  refine Wp.mono (draw_ok P (by omega) (by omega)) fun d h1 ⟨r, ed, hr, P1, k1⟩ => ?_
  subst ed
  simp only [we_int, we_str, we_bl, we_non, we_ty, we_cst, we_var, we_bin, we_cmp, we_chain, we_neg, we_not, we_and1, we_and2, we_or1, we_or2, we_ife, we_tup, we_lst, we_ix, we_sl, wo_none, wo_some, we_blt, we_call, we_meth, we_rev, we_srt, we_lrg1, we_lrg2, we_trg1, ws_nil, ws_cons, wt_tr, wt_cmp, wt_chain, wt_not, wt_and1, wt_and2, wt_or1, wt_or2, wts_nil, wts_one, wr_bl, wr_non, wr_int, wr_tup, wn_add, wn_sub, wn_mul, wn_div, wn_mod, wn_pow, wn_neg, wn_cat, wn_tmul, wn_lmul, wn_ladd, wc_lt, wc_le, wc_gt, wc_ge, wc_eq, wc_ne, wc_isnon, wc_isnt, wx_tup, wx_loc, wl_tup, wl_loc, wv_tup, wb_len_tup, wb_len_loc, wb_int, wb_list, wb_tuple, wb_sum, wb_min, wb_max, wi_int_int, wi_int_bool, wi_int_tup, wi_tup_tup, wi_tup_int, wm_append, wm_extend, wm_popAt, wm_count, wss_nil, wss_one, seqK_rt, seqK_bk, seqK_ct, wq_expr, wq_ret, wq_retN, wq_pass, wq_brk, wq_cont, wq_set, wq_setc, wq_par, wq_setIx, ws_setIx, wq_ife, wq_for, wq_whil, wq_never, outK_rt, outK_nx, wv_rng1, wv_rng2, wv_seq, wv_seq_tup, wv_seq_loc, wv_zip, wv_zip_tup, we_comp, wp_ok, wp_bad, wp_br, wp_bind, items_tup, tgF, setAll, startE_eq, nones, List.getElem?_cons_zero, List.getElem?_cons_succ, List.set_cons_zero, List.set_cons_succ, List.map_cons, List.map_nil, List.cons_append, List.nil_append, List.length_cons, List.length_nil, Nat.reduceAdd, Nat.reduceSub, Nat.reduceMul, Nat.reduceLT, Nat.reduceLeDiff, Nat.reduceEqDiff, Option.some.injEq, D.int.injEq, D.tup.injEq, D.loc.injEq, D.bl.injEq, exists_eq_left, exists_eq_left', exists_eq_right, true_and, and_true, if_true, if_false, ite_true, ite_false, reduceIte, Bool.false_eq_true, decide_eq_true_eq, eq_self, exists_const, Bool.not_true, Bool.not_false, Bool.not_eq_true', Bool.and_true, Bool.true_and, Bool.and_false, Bool.false_and, ne_eq, not_true_eq_false, not_false_eq_true, reduceCtorEq, Int.cast_ofNat_Int, Bool.not_eq_true, Bool.true_eq_false]
  split
  · refine ⟨⟨by omega, by omega⟩, ?_⟩
    refine draws_lit (S := Src.rng 0 q.toNat) (many := p) P1 (by rw [rng_len]; omega) (fun _ => rfl) (fun x hx h' P' => ?_) (fun h' ns hl hr2 P' kp hb => ?_)
    · obtain ⟨i, hi, ex⟩ := rng_items_mem hx
      subst ex
      refine ⟨_, rfl, ⟨rfl, rfl⟩, ?_⟩
      simp only [we_int, we_str, we_bl, we_non, we_ty, we_cst, we_var, we_bin, we_cmp, we_chain, we_neg, we_not, we_and1, we_and2, we_or1, we_or2, we_ife, we_tup, we_lst, we_ix, we_sl, wo_none, wo_some, we_blt, we_call, we_meth, we_rev, we_srt, we_lrg1, we_lrg2, we_trg1, ws_nil, ws_cons, wt_tr, wt_cmp, wt_chain, wt_not, wt_and1, wt_and2, wt_or1, wt_or2, wts_nil, wts_one, wr_bl, wr_non, wr_int, wr_tup, wn_add, wn_sub, wn_mul, wn_div, wn_mod, wn_pow, wn_neg, wn_cat, wn_tmul, wn_lmul, wn_ladd, wc_lt, wc_le, wc_gt, wc_ge, wc_eq, wc_ne, wc_isnon, wc_isnt, wx_tup, wx_loc, wl_tup, wl_loc, wv_tup, wb_len_tup, wb_len_loc, wb_int, wb_list, wb_tuple, wb_sum, wb_min, wb_max, wi_int_int, wi_int_bool, wi_int_tup, wi_tup_tup, wi_tup_int, wm_append, wm_extend, wm_popAt, wm_count, wss_nil, wss_one, seqK_rt, seqK_bk, seqK_ct, wq_expr, wq_ret, wq_retN, wq_pass, wq_brk, wq_cont, wq_set, wq_setc, wq_par, wq_setIx, ws_setIx, wq_ife, wq_for, wq_whil, wq_never, outK_rt, outK_nx, wv_rng1, wv_rng2, wv_seq, wv_seq_tup, wv_seq_loc, wv_zip, wv_zip_tup, we_comp, wp_ok, wp_bad, wp_br, wp_bind, items_tup, tgF, setAll, startE_eq, nones, List.getElem?_cons_zero, List.getElem?_cons_succ, List.set_cons_zero, List.set_cons_succ, List.map_cons, List.map_nil, List.cons_append, List.nil_append, List.length_cons, List.length_nil, Nat.reduceAdd, Nat.reduceSub, Nat.reduceMul, Nat.reduceLT, Nat.reduceLeDiff, Nat.reduceEqDiff, Option.some.injEq, D.int.injEq, D.tup.injEq, D.loc.injEq, D.bl.injEq, exists_eq_left, exists_eq_left', exists_eq_right, true_and, and_true, if_true, if_false, ite_true, ite_false, reduceIte, Bool.false_eq_true, decide_eq_true_eq, eq_self, exists_const, Bool.not_true, Bool.not_false, Bool.not_eq_true', Bool.and_true, Bool.true_and, Bool.and_false, Bool.false_and, ne_eq, not_true_eq_false, not_false_eq_true, reduceCtorEq, Int.cast_ofNat_Int, Bool.not_eq_true, Bool.true_eq_false, wipeE]
      exact draw_ok P' p0 (by omega)
    · simp only [we_int, we_str, we_bl, we_non, we_ty, we_cst, we_var, we_bin, we_cmp, we_chain, we_neg, we_not, we_and1, we_and2, we_or1, we_or2, we_ife, we_tup, we_lst, we_ix, we_sl, wo_none, wo_some, we_blt, we_call, we_meth, we_rev, we_srt, we_lrg1, we_lrg2, we_trg1, ws_nil, ws_cons, wt_tr, wt_cmp, wt_chain, wt_not, wt_and1, wt_and2, wt_or1, wt_or2, wts_nil, wts_one, wr_bl, wr_non, wr_int, wr_tup, wn_add, wn_sub, wn_mul, wn_div, wn_mod, wn_pow, wn_neg, wn_cat, wn_tmul, wn_lmul, wn_ladd, wc_lt, wc_le, wc_gt, wc_ge, wc_eq, wc_ne, wc_isnon, wc_isnt, wx_tup, wx_loc, wl_tup, wl_loc, wv_tup, wb_len_tup, wb_len_loc, wb_int, wb_list, wb_tuple, wb_sum, wb_min, wb_max, wi_int_int, wi_int_bool, wi_int_tup, wi_tup_tup, wi_tup_int, wm_append, wm_extend, wm_popAt, wm_count, wss_nil, wss_one, seqK_rt, seqK_bk, seqK_ct, wq_expr, wq_ret, wq_retN, wq_pass, wq_brk, wq_cont, wq_set, wq_setc, wq_par, wq_setIx, ws_setIx, wq_ife, wq_for, wq_whil, wq_never, outK_rt, outK_nx, wv_rng1, wv_rng2, wv_seq, wv_seq_tup, wv_seq_loc, wv_zip, wv_zip_tup, we_comp, wp_ok, wp_bad, wp_br, wp_bind, items_tup, tgF, setAll, startE_eq, nones, List.getElem?_cons_zero, List.getElem?_cons_succ, List.set_cons_zero, List.set_cons_succ, List.map_cons, List.map_nil, List.cons_append, List.nil_append, List.length_cons, List.length_nil, Nat.reduceAdd, Nat.reduceSub, Nat.reduceMul, Nat.reduceLT, Nat.reduceLeDiff, Nat.reduceEqDiff, Option.some.injEq, D.int.injEq, D.tup.injEq, D.loc.injEq, D.bl.injEq, exists_eq_left, exists_eq_left', exists_eq_right, true_and, and_true, if_true, if_false, ite_true, ite_false, reduceIte, Bool.false_eq_true, decide_eq_true_eq, eq_self, exists_const, Bool.not_true, Bool.not_false, Bool.not_eq_true', Bool.and_true, Bool.true_and, Bool.and_false, Bool.false_and, ne_eq, not_true_eq_false, not_false_eq_true, reduceCtorEq, Int.cast_ofNat_Int, Bool.not_eq_true, Bool.true_eq_false, items_lst hb]
      rw [rng_len] at hl
      exact ⟨ns, rfl, by omega, hr2, P', k1.trans kp⟩
  · rw [seqK_nx, wss_cons, wq_set]
    simp only [we_int, we_str, we_bl, we_non, we_ty, we_cst, we_var, we_bin, we_cmp, we_chain, we_neg, we_not, we_and1, we_and2, we_or1, we_or2, we_ife, we_tup, we_lst, we_ix, we_sl, wo_none, wo_some, we_blt, we_call, we_meth, we_rev, we_srt, we_lrg1, we_lrg2, we_trg1, ws_nil, ws_cons, wt_tr, wt_cmp, wt_chain, wt_not, wt_and1, wt_and2, wt_or1, wt_or2, wts_nil, wts_one, wr_bl, wr_non, wr_int, wr_tup, wn_add, wn_sub, wn_mul, wn_div, wn_mod, wn_pow, wn_neg, wn_cat, wn_tmul, wn_lmul, wn_ladd, wc_lt, wc_le, wc_gt, wc_ge, wc_eq, wc_ne, wc_isnon, wc_isnt, wx_tup, wx_loc, wl_tup, wl_loc, wv_tup, wb_len_tup, wb_len_loc, wb_int, wb_list, wb_tuple, wb_sum, wb_min, wb_max, wi_int_int, wi_int_bool, wi_int_tup, wi_tup_tup, wi_tup_int, wm_append, wm_extend, wm_popAt, wm_count, wss_nil, wss_one, seqK_rt, seqK_bk, seqK_ct, wq_expr, wq_ret, wq_retN, wq_pass, wq_brk, wq_cont, wq_set, wq_setc, wq_par, wq_setIx, ws_setIx, wq_ife, wq_for, wq_whil, wq_never, outK_rt, outK_nx, wv_rng1, wv_rng2, wv_seq, wv_seq_tup, wv_seq_loc, wv_zip, wv_zip_tup, we_comp, wp_ok, wp_bad, wp_br, wp_bind, items_tup, tgF, setAll, startE_eq, nones, List.getElem?_cons_zero, List.getElem?_cons_succ, List.set_cons_zero, List.set_cons_succ, List.map_cons, List.map_nil, List.cons_append, List.nil_append, List.length_cons, List.length_nil, Nat.reduceAdd, Nat.reduceSub, Nat.reduceMul, Nat.reduceLT, Nat.reduceLeDiff, Nat.reduceEqDiff, Option.some.injEq, D.int.injEq, D.tup.injEq, D.loc.injEq, D.bl.injEq, exists_eq_left, exists_eq_left', exists_eq_right, true_and, and_true, if_true, if_false, ite_true, ite_false, reduceIte, Bool.false_eq_true, decide_eq_true_eq, eq_self, exists_const, Bool.not_true, Bool.not_false, Bool.not_eq_true', Bool.and_true, Bool.true_and, Bool.and_false, Bool.false_and, ne_eq, not_true_eq_false, not_false_eq_true, reduceCtorEq, Int.cast_ofNat_Int, Bool.not_eq_true, Bool.true_eq_false]
    refine Wp.mono (draw_ok P1 q0 (by omega)) fun d h2 ⟨r2, ed, hr2, P2, k2⟩ => ?_
    subst ed
    rw [seqK_nx]
    simp only [we_int, we_str, we_bl, we_non, we_ty, we_cst, we_var, we_bin, we_cmp, we_chain, we_neg, we_not, we_and1, we_and2, we_or1, we_or2, we_ife, we_tup, we_lst, we_ix, we_sl, wo_none, wo_some, we_blt, we_call, we_meth, we_rev, we_srt, we_lrg1, we_lrg2, we_trg1, ws_nil, ws_cons, wt_tr, wt_cmp, wt_chain, wt_not, wt_and1, wt_and2, wt_or1, wt_or2, wts_nil, wts_one, wr_bl, wr_non, wr_int, wr_tup, wn_add, wn_sub, wn_mul, wn_div, wn_mod, wn_pow, wn_neg, wn_cat, wn_tmul, wn_lmul, wn_ladd, wc_lt, wc_le, wc_gt, wc_ge, wc_eq, wc_ne, wc_isnon, wc_isnt, wx_tup, wx_loc, wl_tup, wl_loc, wv_tup, wb_len_tup, wb_len_loc, wb_int, wb_list, wb_tuple, wb_sum, wb_min, wb_max, wi_int_int, wi_int_bool, wi_int_tup, wi_tup_tup, wi_tup_int, wm_append, wm_extend, wm_popAt, wm_count, wss_nil, wss_one, seqK_rt, seqK_bk, seqK_ct, wq_expr, wq_ret, wq_retN, wq_pass, wq_brk, wq_cont, wq_set, wq_setc, wq_par, wq_setIx, ws_setIx, wq_ife, wq_for, wq_whil, wq_never, outK_rt, outK_nx, wv_rng1, wv_rng2, wv_seq, wv_seq_tup, wv_seq_loc, wv_zip, wv_zip_tup, we_comp, wp_ok, wp_bad, wp_br, wp_bind, items_tup, tgF, setAll, startE_eq, nones, List.getElem?_cons_zero, List.getElem?_cons_succ, List.set_cons_zero, List.set_cons_succ, List.map_cons, List.map_nil, List.cons_append, List.nil_append, List.length_cons, List.length_nil, Nat.reduceAdd, Nat.reduceSub, Nat.reduceMul, Nat.reduceLT, Nat.reduceLeDiff, Nat.reduceEqDiff, Option.some.injEq, D.int.injEq, D.tup.injEq, D.loc.injEq, D.bl.injEq, exists_eq_left, exists_eq_left', exists_eq_right, true_and, and_true, if_true, if_false, ite_true, ite_false, reduceIte, Bool.false_eq_true, decide_eq_true_eq, eq_self, exists_const, Bool.not_true, Bool.not_false, Bool.not_eq_true', Bool.and_true, Bool.true_and, Bool.and_false, Bool.false_and, ne_eq, not_true_eq_false, not_false_eq_true, reduceCtorEq, Int.cast_ofNat_Int, Bool.not_eq_true, Bool.true_eq_false]
    refine ⟨⟨by omega, by omega⟩, ?_⟩
    refine wp_comp (S := Src.rng 0 q.toNat) (fun x => match x with | .int i => some (.int (if i = r2 then p - 1 else 0)) | _ => none) rfl (by rw [rng_len, sizeLine_eq]; omega) (fun x hx h' k' => ?_) (fun h' k' hb => ?_)
    · obtain ⟨i, hi, ex⟩ := rng_items_mem hx
      subst ex
      refine ⟨_, rfl, ?_⟩
      simp only [we_int, we_str, we_bl, we_non, we_ty, we_cst, we_var, we_bin, we_cmp, we_chain, we_neg, we_not, we_and1, we_and2, we_or1, we_or2, we_ife, we_tup, we_lst, we_ix, we_sl, wo_none, wo_some, we_blt, we_call, we_meth, we_rev, we_srt, we_lrg1, we_lrg2, we_trg1, ws_nil, ws_cons, wt_tr, wt_cmp, wt_chain, wt_not, wt_and1, wt_and2, wt_or1, wt_or2, wts_nil, wts_one, wr_bl, wr_non, wr_int, wr_tup, wn_add, wn_sub, wn_mul, wn_div, wn_mod, wn_pow, wn_neg, wn_cat, wn_tmul, wn_lmul, wn_ladd, wc_lt, wc_le, wc_gt, wc_ge, wc_eq, wc_ne, wc_isnon, wc_isnt, wx_tup, wx_loc, wl_tup, wl_loc, wv_tup, wb_len_tup, wb_len_loc, wb_int, wb_list, wb_tuple, wb_sum, wb_min, wb_max, wi_int_int, wi_int_bool, wi_int_tup, wi_tup_tup, wi_tup_int, wm_append, wm_extend, wm_popAt, wm_count, wss_nil, wss_one, seqK_rt, seqK_bk, seqK_ct, wq_expr, wq_ret, wq_retN, wq_pass, wq_brk, wq_cont, wq_set, wq_setc, wq_par, wq_setIx, ws_setIx, wq_ife, wq_for, wq_whil, wq_never, outK_rt, outK_nx, wv_rng1, wv_rng2, wv_seq, wv_seq_tup, wv_seq_loc, wv_zip, wv_zip_tup, we_comp, wp_ok, wp_bad, wp_br, wp_bind, items_tup, tgF, setAll, startE_eq, nones, List.getElem?_cons_zero, List.getElem?_cons_succ, List.set_cons_zero, List.set_cons_succ, List.map_cons, List.map_nil, List.cons_append, List.nil_append, List.length_cons, List.length_nil, Nat.reduceAdd, Nat.reduceSub, Nat.reduceMul, Nat.reduceLT, Nat.reduceLeDiff, Nat.reduceEqDiff, Option.some.injEq, D.int.injEq, D.tup.injEq, D.loc.injEq, D.bl.injEq, exists_eq_left, exists_eq_left', exists_eq_right, true_and, and_true, if_true, if_false, ite_true, ite_false, reduceIte, Bool.false_eq_true, decide_eq_true_eq, eq_self, exists_const, Bool.not_true, Bool.not_false, Bool.not_eq_true', Bool.and_true, Bool.true_and, Bool.and_false, Bool.false_and, ne_eq, not_true_eq_false, not_false_eq_true, reduceCtorEq, Int.cast_ofNat_Int, Bool.not_eq_true, Bool.true_eq_false, wipeE]
      refine ⟨Kp.refl, ?_⟩
      split
      · exact ⟨Kp.refl, rfl⟩
      · exact ⟨Kp.refl, rfl⟩
    · have e : (Src.rng 0 q.toNat).items.filterMap (fun x => match x with | .int i => some (D.int (if i = r2 then p - 1 else 0)) | _ => none) = ((List.range q.toNat).map fun i => if ((i : Nat) : Int) = r2 then p - 1 else 0).map D.int := by
        simp only [Src.items, List.filterMap_map, List.map_map]
        refine fmap_some fun i _ => ?_
        show some (D.int (if 0 + (i : Int) = r2 then p - 1 else 0)) = _
        rw [Int.zero_add]; rfl
      rw [e] at hb
      simp only [we_int, we_str, we_bl, we_non, we_ty, we_cst, we_var, we_bin, we_cmp, we_chain, we_neg, we_not, we_and1, we_and2, we_or1, we_or2, we_ife, we_tup, we_lst, we_ix, we_sl, wo_none, wo_some, we_blt, we_call, we_meth, we_rev, we_srt, we_lrg1, we_lrg2, we_trg1, ws_nil, ws_cons, wt_tr, wt_cmp, wt_chain, wt_not, wt_and1, wt_and2, wt_or1, wt_or2, wts_nil, wts_one, wr_bl, wr_non, wr_int, wr_tup, wn_add, wn_sub, wn_mul, wn_div, wn_mod, wn_pow, wn_neg, wn_cat, wn_tmul, wn_lmul, wn_ladd, wc_lt, wc_le, wc_gt, wc_ge, wc_eq, wc_ne, wc_isnon, wc_isnt, wx_tup, wx_loc, wl_tup, wl_loc, wv_tup, wb_len_tup, wb_len_loc, wb_int, wb_list, wb_tuple, wb_sum, wb_min, wb_max, wi_int_int, wi_int_bool, wi_int_tup, wi_tup_tup, wi_tup_int, wm_append, wm_extend, wm_popAt, wm_count, wss_nil, wss_one, seqK_rt, seqK_bk, seqK_ct, wq_expr, wq_ret, wq_retN, wq_pass, wq_brk, wq_cont, wq_set, wq_setc, wq_par, wq_setIx, ws_setIx, wq_ife, wq_for, wq_whil, wq_never, outK_rt, outK_nx, wv_rng1, wv_rng2, wv_seq, wv_seq_tup, wv_seq_loc, wv_zip, wv_zip_tup, we_comp, wp_ok, wp_bad, wp_br, wp_bind, items_tup, tgF, setAll, startE_eq, nones, List.getElem?_cons_zero, List.getElem?_cons_succ, List.set_cons_zero, List.set_cons_succ, List.map_cons, List.map_nil, List.cons_append, List.nil_append, List.length_cons, List.length_nil, Nat.reduceAdd, Nat.reduceSub, Nat.reduceMul, Nat.reduceLT, Nat.reduceLeDiff, Nat.reduceEqDiff, Option.some.injEq, D.int.injEq, D.tup.injEq, D.loc.injEq, D.bl.injEq, exists_eq_left, exists_eq_left', exists_eq_right, true_and, and_true, if_true, if_false, ite_true, ite_false, reduceIte, Bool.false_eq_true, decide_eq_true_eq, eq_self, exists_const, Bool.not_true, Bool.not_false, Bool.not_eq_true', Bool.and_true, Bool.true_and, Bool.and_false, Bool.false_and, ne_eq, not_true_eq_false, not_false_eq_true, reduceCtorEq, Int.cast_ofNat_Int, Bool.not_eq_true, Bool.true_eq_false, items_lst hb]
      refine ⟨_, rfl, by rw [List.length_map, List.length_range]; omega, fun n hn => ?_, P2.kp k' (by simp) (by simp), (k1.trans k2).trans k'.nil⟩
      obtain ⟨i, _, ei⟩ := List.mem_map.mp hn
      rw [← ei]
      split <;> omega
variable [hLl : Has fs F.n__law_lengths_v2 F.f__law_lengths_v2]
theorem lengths_ok {a c : Nat} {p q most : Int} {xs : List Int} (P : Pool h a c) (m0 : 0 ≤ most) (m1 : most ≤ 1000) (hx : xs.length ≤ 1000) : Wp E (callF fs (k + 2) F.n__law_lengths_v2 [.loc a, .tup [.int p, .int q, ti xs], .int most] h) fun d h' => ∃ ns : List Int, d = ti ns ∧ ns.length = xs.length ∧ (∀ n ∈ ns, 0 ≤ n ∧ n ≤ most) ∧ Pool h' a c ∧ Kp [a, c] h h' := by
  refine wp_call hLl.has rfl ?_
  unfold F.f__law_lengths_v2
  simp only [we_int, we_str, we_bl, we_non, we_ty, we_cst, we_var, we_bin, we_cmp, we_chain, we_neg, we_not, we_and1, we_and2, we_or1, we_or2, we_ife, we_tup, we_lst, we_ix, we_sl, wo_none, wo_some, we_blt, we_call, we_meth, we_rev, we_srt, we_lrg1, we_lrg2, we_trg1, ws_nil, ws_cons, wt_tr, wt_cmp, wt_chain, wt_not, wt_and1, wt_and2, wt_or1, wt_or2, wts_nil, wts_one, wr_bl, wr_non, wr_int, wr_tup, wn_add, wn_sub, wn_mul, wn_div, wn_mod, wn_pow, wn_neg, wn_cat, wn_tmul, wn_lmul, wn_ladd, wc_lt, wc_le, wc_gt, wc_ge, wc_eq, wc_ne, wc_isnon, wc_isnt, wx_tup, wx_loc, wl_tup, wl_loc, wv_tup, wb_len_tup, wb_len_loc, wb_int, wb_list, wb_tuple, wb_sum, wb_min, wb_max, wi_int_int, wi_int_bool, wi_int_tup, wi_tup_tup, wi_tup_int, wm_append, wm_extend, wm_popAt, wm_count, wss_nil, wss_one, seqK_rt, seqK_bk, seqK_ct, wq_expr, wq_ret, wq_retN, wq_pass, wq_brk, wq_cont, wq_set, wq_setc, wq_par, wq_setIx, ws_setIx, wq_ife, wq_for, wq_whil, wq_never, outK_rt, outK_nx, wv_rng1, wv_rng2, wv_seq, wv_seq_tup, wv_seq_loc, wv_zip, wv_zip_tup, we_comp, wp_ok, wp_bad, wp_br, wp_bind, items_tup, tgF, setAll, startE_eq, nones, List.getElem?_cons_zero, List.getElem?_cons_succ, List.set_cons_zero, List.set_cons_succ, List.map_cons, List.map_nil, List.cons_append, List.nil_append, List.length_cons, List.length_nil, Nat.reduceAdd, Nat.reduceSub, Nat.reduceMul, Nat.reduceLT, Nat.reduceLeDiff, Nat.reduceEqDiff, Option.some.injEq, D.int.injEq, D.tup.injEq, D.loc.injEq, D.bl.injEq, exists_eq_left, exists_eq_left', exists_eq_right, true_and, and_true, if_true, if_false, ite_true, ite_false, reduceIte, Bool.false_eq_true, decide_eq_true_eq, eq_self, exists_const, Bool.not_true, Bool.not_false, Bool.not_eq_true', Bool.and_true, Bool.true_and, Bool.and_false, Bool.false_and, ne_eq, not_true_eq_false, not_false_eq_true, reduceCtorEq, Int.cast_ofNat_Int, Bool.not_eq_true, Bool.true_eq_false, at3_2]
  refine draws_lit (S := Src.tup (xs.map D.int)) (many := most + 1) P (by simp [Src.items]; omega) (fun _ => rfl) (fun x hx h' P' => ?_) (fun h' ns hl hr2 P' kp hb => ?_)
  · refine ⟨_, rfl, ⟨rfl, rfl⟩, ?_⟩
    simp only [we_int, we_str, we_bl, we_non, we_ty, we_cst, we_var, we_bin, we_cmp, we_chain, we_neg, we_not, we_and1, we_and2, we_or1, we_or2, we_ife, we_tup, we_lst, we_ix, we_sl, wo_none, wo_some, we_blt, we_call, we_meth, we_rev, we_srt, we_lrg1, we_lrg2, we_trg1, ws_nil, ws_cons, wt_tr, wt_cmp, wt_chain, wt_not, wt_and1, wt_and2, wt_or1, wt_or2, wts_nil, wts_one, wr_bl, wr_non, wr_int, wr_tup, wn_add, wn_sub, wn_mul, wn_div, wn_mod, wn_pow, wn_neg, wn_cat, wn_tmul, wn_lmul, wn_ladd, wc_lt, wc_le, wc_gt, wc_ge, wc_eq, wc_ne, wc_isnon, wc_isnt, wx_tup, wx_loc, wl_tup, wl_loc, wv_tup, wb_len_tup, wb_len_loc, wb_int, wb_list, wb_tuple, wb_sum, wb_min, wb_max, wi_int_int, wi_int_bool, wi_int_tup, wi_tup_tup, wi_tup_int, wm_append, wm_extend, wm_popAt, wm_count, wss_nil, wss_one, seqK_rt, seqK_bk, seqK_ct, wq_expr, wq_ret, wq_retN, wq_pass, wq_brk, wq_cont, wq_set, wq_setc, wq_par, wq_setIx, ws_setIx, wq_ife, wq_for, wq_whil, wq_never, outK_rt, outK_nx, wv_rng1, wv_rng2, wv_seq, wv_seq_tup, wv_seq_loc, wv_zip, wv_zip_tup, we_comp, wp_ok, wp_bad, wp_br, wp_bind, items_tup, tgF, setAll, startE_eq, nones, List.getElem?_cons_zero, List.getElem?_cons_succ, List.set_cons_zero, List.set_cons_succ, List.map_cons, List.map_nil, List.cons_append, List.nil_append, List.length_cons, List.length_nil, Nat.reduceAdd, Nat.reduceSub, Nat.reduceMul, Nat.reduceLT, Nat.reduceLeDiff, Nat.reduceEqDiff, Option.some.injEq, D.int.injEq, D.tup.injEq, D.loc.injEq, D.bl.injEq, exists_eq_left, exists_eq_left', exists_eq_right, true_and, and_true, if_true, if_false, ite_true, ite_false, reduceIte, Bool.false_eq_true, decide_eq_true_eq, eq_self, exists_const, Bool.not_true, Bool.not_false, Bool.not_eq_true', Bool.and_true, Bool.true_and, Bool.and_false, Bool.false_and, ne_eq, not_true_eq_false, not_false_eq_true, reduceCtorEq, Int.cast_ofNat_Int, Bool.not_eq_true, Bool.true_eq_false, wipeE]
    exact draw_ok P' (by omega) (by omega)
  · simp only [we_int, we_str, we_bl, we_non, we_ty, we_cst, we_var, we_bin, we_cmp, we_chain, we_neg, we_not, we_and1, we_and2, we_or1, we_or2, we_ife, we_tup, we_lst, we_ix, we_sl, wo_none, wo_some, we_blt, we_call, we_meth, we_rev, we_srt, we_lrg1, we_lrg2, we_trg1, ws_nil, ws_cons, wt_tr, wt_cmp, wt_chain, wt_not, wt_and1, wt_and2, wt_or1, wt_or2, wts_nil, wts_one, wr_bl, wr_non, wr_int, wr_tup, wn_add, wn_sub, wn_mul, wn_div, wn_mod, wn_pow, wn_neg, wn_cat, wn_tmul, wn_lmul, wn_ladd, wc_lt, wc_le, wc_gt, wc_ge, wc_eq, wc_ne, wc_isnon, wc_isnt, wx_tup, wx_loc, wl_tup, wl_loc, wv_tup, wb_len_tup, wb_len_loc, wb_int, wb_list, wb_tuple, wb_sum, wb_min, wb_max, wi_int_int, wi_int_bool, wi_int_tup, wi_tup_tup, wi_tup_int, wm_append, wm_extend, wm_popAt, wm_count, wss_nil, wss_one, seqK_rt, seqK_bk, seqK_ct, wq_expr, wq_ret, wq_retN, wq_pass, wq_brk, wq_cont, wq_set, wq_setc, wq_par, wq_setIx, ws_setIx, wq_ife, wq_for, wq_whil, wq_never, outK_rt, outK_nx, wv_rng1, wv_rng2, wv_seq, wv_seq_tup, wv_seq_loc, wv_zip, wv_zip_tup, we_comp, wp_ok, wp_bad, wp_br, wp_bind, items_tup, tgF, setAll, startE_eq, nones, List.getElem?_cons_zero, List.getElem?_cons_succ, List.set_cons_zero, List.set_cons_succ, List.map_cons, List.map_nil, List.cons_append, List.nil_append, List.length_cons, List.length_nil, Nat.reduceAdd, Nat.reduceSub, Nat.reduceMul, Nat.reduceLT, Nat.reduceLeDiff, Nat.reduceEqDiff, Option.some.injEq, D.int.injEq, D.tup.injEq, D.loc.injEq, D.bl.injEq, exists_eq_left, exists_eq_left', exists_eq_right, true_and, and_true, if_true, if_false, ite_true, ite_false, reduceIte, Bool.false_eq_true, decide_eq_true_eq, eq_self, exists_const, Bool.not_true, Bool.not_false, Bool.not_eq_true', Bool.and_true, Bool.true_and, Bool.and_false, Bool.false_and, ne_eq, not_true_eq_false, not_false_eq_true, reduceCtorEq, Int.cast_ofNat_Int, Bool.not_eq_true, Bool.true_eq_false, items_lst hb]
    refine ⟨ns, rfl, by simpa [Src.items] using hl, fun n hn => ?_, P', kp⟩
    have := hr2 n hn
    omega
end
end
end Dx

/-! PRows: the laws' own writing out, all batches, beginnings of rows. -/
namespace Dx
open PySem L2
variable {E : Xc} {fs : Fns} {k : Nat} {h : HA}
def shiftL (p x : Int) (L : List Int) : List Int := (List.range (L.length + 1)).map fun a => (x * (L ++ [0]).getD a 0 + if a > 0 then (L ++ [0]).getD (a - 1) 0 else 0) % p
def stepL (p x : Int) (L : List Int) (a : Int) : List Int := (shiftL p x L).set 0 (((shiftL p x L).getD 0 0 + a) % p)
def taylL (p x : Int) : List Int → List Int
  | [] => []
  | a :: g => stepL p x (taylL p x g) a
def rowL (p x : Int) (f : List Int) : List Int := if x = p then f.reverse else taylL p x f
theorem taylL_len {p x : Int} : ∀ {f : List Int}, (taylL p x f).length = f.length
  | [] => rfl
  | a :: g => by unfold taylL stepL shiftL; rw [List.length_set, List.length_map, List.length_range, taylL_len, List.length_cons]
theorem rowL_len {p x : Int} {f : List Int} : (rowL p x f).length = f.length := by
  unfold rowL
  split
  · exact List.length_reverse
  · exact taylL_len
theorem tup_item {xs : List D} {i : Nat} {x : D} (hx : (Src.tup xs).items[i]? = some x) : xs[i]? = some x := hx
section
variable [hO : Has fs F.n__law_written_out F.f__law_written_out]
theorem written_ok {p x : Int} {f : List Int} (p0 : 0 < p) (p1 : p ≤ 65521) (x0 : 0 ≤ x) (x1 : x ≤ p) (hf : f.length ≤ 1000) : Wp E (callF fs (k + 1) F.n__law_written_out [.int p, ti f, .int x] h) fun d h' => ∃ l, d = .loc l ∧ h'[l]? = some (.lst ((rowL p x f).map D.int)) ∧ h.length ≤ l ∧ Kp [] h h' := by
  refine wp_call hO.has rfl ?_
  unfold F.f__law_written_out
  dsimp only
  rw [wss_cons]
  simp only [we_int, we_str, we_bl, we_non, we_ty, we_cst, we_var, we_bin, we_cmp, we_chain, we_neg, we_not, we_and1, we_and2, we_or1, we_or2, we_ife, we_tup, we_lst, we_ix, we_sl, wo_none, wo_some, we_blt, we_call, we_meth, we_rev, we_srt, we_lrg1, we_lrg2, we_trg1, ws_nil, ws_cons, wt_tr, wt_cmp, wt_chain, wt_not, wt_and1, wt_and2, wt_or1, wt_or2, wts_nil, wts_one, wr_bl, wr_non, wr_int, wr_tup, wn_add, wn_sub, wn_mul, wn_div, wn_mod, wn_pow, wn_neg, wn_cat, wn_tmul, wn_lmul, wn_ladd, wc_lt, wc_le, wc_gt, wc_ge, wc_eq, wc_ne, wc_isnon, wc_isnt, wx_tup, wx_loc, wl_tup, wl_loc, wv_tup, wb_len_tup, wb_len_loc, wb_int, wb_list, wb_tuple, wb_sum, wb_min, wb_max, wi_int_int, wi_int_bool, wi_int_tup, wi_tup_tup, wi_tup_int, wm_append, wm_extend, wm_popAt, wm_count, wss_nil, wss_one, seqK_rt, seqK_bk, seqK_ct, wq_expr, wq_ret, wq_retN, wq_pass, wq_brk, wq_cont, wq_set, wq_setc, wq_par, wq_setIx, ws_setIx, wq_ife, wq_for, wq_whil, wq_never, outK_rt, outK_nx, wv_rng1, wv_rng2, wv_seq, wv_seq_tup, wv_seq_loc, wv_zip, wv_zip_tup, we_comp, wp_ok, wp_bad, wp_br, wp_bind, items_tup, tgF, setAll, startE_eq, nones, List.getElem?_cons_zero, List.getElem?_cons_succ, List.set_cons_zero, List.set_cons_succ, List.map_cons, List.map_nil, List.cons_append, List.nil_append, List.length_cons, List.length_nil, Nat.reduceAdd, Nat.reduceSub, Nat.reduceMul, Nat.reduceLT, Nat.reduceLeDiff, Nat.reduceEqDiff, Option.some.injEq, D.int.injEq, D.tup.injEq, D.loc.injEq, D.bl.injEq, exists_eq_left, exists_eq_left', exists_eq_right, true_and, and_true, if_true, if_false, ite_true, ite_false, reduceIte, Bool.false_eq_true, decide_eq_true_eq, eq_self, exists_const, Bool.not_true, Bool.not_false, Bool.not_eq_true', Bool.and_true, Bool.true_and, Bool.and_false, Bool.false_and, ne_eq, not_true_eq_false, not_false_eq_true, reduceCtorEq, Int.cast_ofNat_Int, Bool.not_eq_true, Bool.true_eq_false]
  split
  · next c =>
    refine ⟨?_, Nat.le_refl _, Kp.refl.app⟩
    unfold rowL
    rw [if_pos c, get_new, List.map_reverse]
  · next c =>
    have er : rowL p x f = taylL p x f := by unfold rowL; rw [if_neg c]
    rw [er, seqK_nx, wss_cons]
    simp only [we_int, we_str, we_bl, we_non, we_ty, we_cst, we_var, we_bin, we_cmp, we_chain, we_neg, we_not, we_and1, we_and2, we_or1, we_or2, we_ife, we_tup, we_lst, we_ix, we_sl, wo_none, wo_some, we_blt, we_call, we_meth, we_rev, we_srt, we_lrg1, we_lrg2, we_trg1, ws_nil, ws_cons, wt_tr, wt_cmp, wt_chain, wt_not, wt_and1, wt_and2, wt_or1, wt_or2, wts_nil, wts_one, wr_bl, wr_non, wr_int, wr_tup, wn_add, wn_sub, wn_mul, wn_div, wn_mod, wn_pow, wn_neg, wn_cat, wn_tmul, wn_lmul, wn_ladd, wc_lt, wc_le, wc_gt, wc_ge, wc_eq, wc_ne, wc_isnon, wc_isnt, wx_tup, wx_loc, wl_tup, wl_loc, wv_tup, wb_len_tup, wb_len_loc, wb_int, wb_list, wb_tuple, wb_sum, wb_min, wb_max, wi_int_int, wi_int_bool, wi_int_tup, wi_tup_tup, wi_tup_int, wm_append, wm_extend, wm_popAt, wm_count, wss_nil, wss_one, seqK_rt, seqK_bk, seqK_ct, wq_expr, wq_ret, wq_retN, wq_pass, wq_brk, wq_cont, wq_set, wq_setc, wq_par, wq_setIx, ws_setIx, wq_ife, wq_for, wq_whil, wq_never, outK_rt, outK_nx, wv_rng1, wv_rng2, wv_seq, wv_seq_tup, wv_seq_loc, wv_zip, wv_zip_tup, we_comp, wp_ok, wp_bad, wp_br, wp_bind, items_tup, tgF, setAll, startE_eq, nones, List.getElem?_cons_zero, List.getElem?_cons_succ, List.set_cons_zero, List.set_cons_succ, List.map_cons, List.map_nil, List.cons_append, List.nil_append, List.length_cons, List.length_nil, Nat.reduceAdd, Nat.reduceSub, Nat.reduceMul, Nat.reduceLT, Nat.reduceLeDiff, Nat.reduceEqDiff, Option.some.injEq, D.int.injEq, D.tup.injEq, D.loc.injEq, D.bl.injEq, exists_eq_left, exists_eq_left', exists_eq_right, true_and, and_true, if_true, if_false, ite_true, ite_false, reduceIte, Bool.false_eq_true, decide_eq_true_eq, eq_self, exists_const, Bool.not_true, Bool.not_false, Bool.not_eq_true', Bool.and_true, Bool.true_and, Bool.and_false, Bool.false_and, ne_eq, not_true_eq_false, not_false_eq_true, reduceCtorEq, Int.cast_ofNat_Int, Bool.not_eq_true, Bool.true_eq_false]
    refine ⟨by rw [sizeLine_eq]; omega, ?_⟩
    rw [seqK_nx, wss_cons]
    simp only [we_int, we_str, we_bl, we_non, we_ty, we_cst, we_var, we_bin, we_cmp, we_chain, we_neg, we_not, we_and1, we_and2, we_or1, we_or2, we_ife, we_tup, we_lst, we_ix, we_sl, wo_none, wo_some, we_blt, we_call, we_meth, we_rev, we_srt, we_lrg1, we_lrg2, we_trg1, ws_nil, ws_cons, wt_tr, wt_cmp, wt_chain, wt_not, wt_and1, wt_and2, wt_or1, wt_or2, wts_nil, wts_one, wr_bl, wr_non, wr_int, wr_tup, wn_add, wn_sub, wn_mul, wn_div, wn_mod, wn_pow, wn_neg, wn_cat, wn_tmul, wn_lmul, wn_ladd, wc_lt, wc_le, wc_gt, wc_ge, wc_eq, wc_ne, wc_isnon, wc_isnt, wx_tup, wx_loc, wl_tup, wl_loc, wv_tup, wb_len_tup, wb_len_loc, wb_int, wb_list, wb_tuple, wb_sum, wb_min, wb_max, wi_int_int, wi_int_bool, wi_int_tup, wi_tup_tup, wi_tup_int, wm_append, wm_extend, wm_popAt, wm_count, wss_nil, wss_one, seqK_rt, seqK_bk, seqK_ct, wq_expr, wq_ret, wq_retN, wq_pass, wq_brk, wq_cont, wq_set, wq_setc, wq_par, wq_setIx, ws_setIx, wq_ife, wq_for, wq_whil, wq_never, outK_rt, outK_nx, wv_rng1, wv_rng2, wv_seq, wv_seq_tup, wv_seq_loc, wv_zip, wv_zip_tup, we_comp, wp_ok, wp_bad, wp_br, wp_bind, items_tup, tgF, setAll, startE_eq, nones, List.getElem?_cons_zero, List.getElem?_cons_succ, List.set_cons_zero, List.set_cons_succ, List.map_cons, List.map_nil, List.cons_append, List.nil_append, List.length_cons, List.length_nil, Nat.reduceAdd, Nat.reduceSub, Nat.reduceMul, Nat.reduceLT, Nat.reduceLeDiff, Nat.reduceEqDiff, Option.some.injEq, D.int.injEq, D.tup.injEq, D.loc.injEq, D.bl.injEq, exists_eq_left, exists_eq_left', exists_eq_right, true_and, and_true, if_true, if_false, ite_true, ite_false, reduceIte, Bool.false_eq_true, decide_eq_true_eq, eq_self, exists_const, Bool.not_true, Bool.not_false, Bool.not_eq_true', Bool.and_true, Bool.true_and, Bool.and_false, Bool.false_and, ne_eq, not_true_eq_false, not_false_eq_true, reduceCtorEq, Int.cast_ofNat_Int, Bool.not_eq_true, Bool.true_eq_false]
    refine wp_loop (S := Src.tup (List.map D.int f).reverse) (fun i ρ h' => ∃ (x4 x5 x6 : Option D) (l : Nat), ρ = [some (.int p), some (ti f), some (.int x), some (.loc l), x4, x5, x6] ∧ h'[l]? = some (.lst ((taylL p x (f.drop (f.length - i))).map D.int)) ∧ h.length ≤ l ∧ Kp [] h h') (fun _ _ _ _ => rfl) (fun i y ρ h' hx ⟨x4, x5, x6, l, e, e1, hl, kp⟩ => ?_) (fun ρ h' ⟨x4, x5, x6, l, e, e1, hl, kp⟩ => ?_) ⟨none, none, none, _, rfl, by rw [get_new, Nat.sub_zero, List.drop_length]; rfl, Nat.le_refl _, Kp.refl.app⟩
    · have hx := tup_item hx
      have hi : i < f.length := by
        have := (List.getElem?_eq_some_iff.mp hx).1
        simpa using this
      rw [List.getElem?_reverse (by simpa using hi), List.length_map, List.getElem?_map, List.getElem?_eq_getElem (show f.length - 1 - i < f.length by omega)] at hx
      have ey : y = .int f[f.length - 1 - i] := (Option.some.inj hx).symm
      subst e ey
      refine ⟨_, rfl, ?_⟩
      have ed : f.drop (f.length - (i + 1)) = f[f.length - 1 - i] :: f.drop (f.length - i) := by
        rw [show f.length - (i + 1) = f.length - 1 - i by omega, List.drop_eq_getElem_cons (by omega), show f.length - 1 - i + 1 = f.length - i by omega]
      generalize hL : taylL p x (f.drop (f.length - i)) = L at e1
      have hLl : L.length = i := by rw [← hL, taylL_len, List.length_drop]; omega
      rw [ed]
      show Wp E _ _
      generalize f[f.length - 1 - i] = a
      rw [wss_cons]
      have e2 : (h' ++ [O.lst [D.int 0]])[l]? = some (.lst (L.map D.int)) := get_app e1
      have e3 : (h' ++ [O.lst [D.int 0]])[h'.length]? = some (.lst [D.int 0]) := get_new
      simp only [we_int, we_str, we_bl, we_non, we_ty, we_cst, we_var, we_bin, we_cmp, we_chain, we_neg, we_not, we_and1, we_and2, we_or1, we_or2, we_ife, we_tup, we_lst, we_ix, we_sl, wo_none, wo_some, we_blt, we_call, we_meth, we_rev, we_srt, we_lrg1, we_lrg2, we_trg1, ws_nil, ws_cons, wt_tr, wt_cmp, wt_chain, wt_not, wt_and1, wt_and2, wt_or1, wt_or2, wts_nil, wts_one, wr_bl, wr_non, wr_int, wr_tup, wn_add, wn_sub, wn_mul, wn_div, wn_mod, wn_pow, wn_neg, wn_cat, wn_tmul, wn_lmul, wn_ladd, wc_lt, wc_le, wc_gt, wc_ge, wc_eq, wc_ne, wc_isnon, wc_isnt, wx_tup, wx_loc, wl_tup, wl_loc, wv_tup, wb_len_tup, wb_len_loc, wb_int, wb_list, wb_tuple, wb_sum, wb_min, wb_max, wi_int_int, wi_int_bool, wi_int_tup, wi_tup_tup, wi_tup_int, wm_append, wm_extend, wm_popAt, wm_count, wss_nil, wss_one, seqK_rt, seqK_bk, seqK_ct, wq_expr, wq_ret, wq_retN, wq_pass, wq_brk, wq_cont, wq_set, wq_setc, wq_par, wq_setIx, ws_setIx, wq_ife, wq_for, wq_whil, wq_never, outK_rt, outK_nx, wv_rng1, wv_rng2, wv_seq, wv_seq_tup, wv_seq_loc, wv_zip, wv_zip_tup, we_comp, wp_ok, wp_bad, wp_br, wp_bind, items_tup, tgF, setAll, startE_eq, nones, List.getElem?_cons_zero, List.getElem?_cons_succ, List.set_cons_zero, List.set_cons_succ, List.map_cons, List.map_nil, List.cons_append, List.nil_append, List.length_cons, List.length_nil, Nat.reduceAdd, Nat.reduceSub, Nat.reduceMul, Nat.reduceLT, Nat.reduceLeDiff, Nat.reduceEqDiff, Option.some.injEq, D.int.injEq, D.tup.injEq, D.loc.injEq, D.bl.injEq, exists_eq_left, exists_eq_left', exists_eq_right, true_and, and_true, if_true, if_false, ite_true, ite_false, reduceIte, Bool.false_eq_true, decide_eq_true_eq, eq_self, exists_const, Bool.not_true, Bool.not_false, Bool.not_eq_true', Bool.and_true, Bool.true_and, Bool.and_false, Bool.false_and, ne_eq, not_true_eq_false, not_false_eq_true, reduceCtorEq, Int.cast_ofNat_Int, Bool.not_eq_true, Bool.true_eq_false, e2, e3, O.lst.injEq, List.length_map]
      refine ⟨by rw [sizeLine_eq]; omega, by rw [sizeLine_eq]; omega, ?_⟩
      rw [seqK_nx, wss_cons]
      generalize hh : h' ++ [O.lst [D.int 0]] ++ [O.lst (L.map D.int ++ [D.int 0])] = h2
      generalize hl2 : (h' ++ [O.lst [D.int 0]]).length = l2
      have e4 : h2[l2]? = some (.lst ((L ++ [0]).map D.int)) := by rw [← hh, ← hl2, List.map_append]; exact get_new
      have k2 : Kp [] h h2 := by rw [← hh]; exact kp.app.app
      simp only [we_int, we_str, we_bl, we_non, we_ty, we_cst, we_var, we_bin, we_cmp, we_chain, we_neg, we_not, we_and1, we_and2, we_or1, we_or2, we_ife, we_tup, we_lst, we_ix, we_sl, wo_none, wo_some, we_blt, we_call, we_meth, we_rev, we_srt, we_lrg1, we_lrg2, we_trg1, ws_nil, ws_cons, wt_tr, wt_cmp, wt_chain, wt_not, wt_and1, wt_and2, wt_or1, wt_or2, wts_nil, wts_one, wr_bl, wr_non, wr_int, wr_tup, wn_add, wn_sub, wn_mul, wn_div, wn_mod, wn_pow, wn_neg, wn_cat, wn_tmul, wn_lmul, wn_ladd, wc_lt, wc_le, wc_gt, wc_ge, wc_eq, wc_ne, wc_isnon, wc_isnt, wx_tup, wx_loc, wl_tup, wl_loc, wv_tup, wb_len_tup, wb_len_loc, wb_int, wb_list, wb_tuple, wb_sum, wb_min, wb_max, wi_int_int, wi_int_bool, wi_int_tup, wi_tup_tup, wi_tup_int, wm_append, wm_extend, wm_popAt, wm_count, wss_nil, wss_one, seqK_rt, seqK_bk, seqK_ct, wq_expr, wq_ret, wq_retN, wq_pass, wq_brk, wq_cont, wq_set, wq_setc, wq_par, wq_setIx, ws_setIx, wq_ife, wq_for, wq_whil, wq_never, outK_rt, outK_nx, wv_rng1, wv_rng2, wv_seq, wv_seq_tup, wv_seq_loc, wv_zip, wv_zip_tup, we_comp, wp_ok, wp_bad, wp_br, wp_bind, items_tup, tgF, setAll, startE_eq, nones, List.getElem?_cons_zero, List.getElem?_cons_succ, List.set_cons_zero, List.set_cons_succ, List.map_cons, List.map_nil, List.cons_append, List.nil_append, List.length_cons, List.length_nil, Nat.reduceAdd, Nat.reduceSub, Nat.reduceMul, Nat.reduceLT, Nat.reduceLeDiff, Nat.reduceEqDiff, Option.some.injEq, D.int.injEq, D.tup.injEq, D.loc.injEq, D.bl.injEq, exists_eq_left, exists_eq_left', exists_eq_right, true_and, and_true, if_true, if_false, ite_true, ite_false, reduceIte, Bool.false_eq_true, decide_eq_true_eq, eq_self, exists_const, Bool.not_true, Bool.not_false, Bool.not_eq_true', Bool.and_true, Bool.true_and, Bool.and_false, Bool.false_and, ne_eq, not_true_eq_false, not_false_eq_true, reduceCtorEq, Int.cast_ofNat_Int, Bool.not_eq_true, Bool.true_eq_false, items_lst e4, List.length_map]
      refine ⟨⟨by simp; omega, by simp; omega⟩, ?_⟩
      refine wp_comp (S := Src.rng 0 (((L ++ [0]).length : Int)).toNat) (fun y => match y with | .int b => some (.int ((x * (L ++ [0]).getD b.toNat 0 + if b > 0 then (L ++ [0]).getD (b - 1).toNat 0 else 0) % p)) | _ => none) rfl (by rw [rng_len, sizeLine_eq]; simp; omega) (fun y hy h3 k3 => ?_) (fun h3 k3 hb => ?_)
      · obtain ⟨b, hb, ey⟩ := rng_items_mem hy
        subst ey
        have hb2 : b < (L ++ [0]).length := by simpa using hb
        refine ⟨_, rfl, ?_⟩
        have e5 := k3.get e4 (by simp)
        have a1 : atI ((L ++ [0]).map D.int) (0 + (b : Int)) = some (.int ((L ++ [0]).getD b 0)) := by
          rw [Int.zero_add, ti_at hb2, getD_of hb2]
        simp only [we_int, we_str, we_bl, we_non, we_ty, we_cst, we_var, we_bin, we_cmp, we_chain, we_neg, we_not, we_and1, we_and2, we_or1, we_or2, we_ife, we_tup, we_lst, we_ix, we_sl, wo_none, wo_some, we_blt, we_call, we_meth, we_rev, we_srt, we_lrg1, we_lrg2, we_trg1, ws_nil, ws_cons, wt_tr, wt_cmp, wt_chain, wt_not, wt_and1, wt_and2, wt_or1, wt_or2, wts_nil, wts_one, wr_bl, wr_non, wr_int, wr_tup, wn_add, wn_sub, wn_mul, wn_div, wn_mod, wn_pow, wn_neg, wn_cat, wn_tmul, wn_lmul, wn_ladd, wc_lt, wc_le, wc_gt, wc_ge, wc_eq, wc_ne, wc_isnon, wc_isnt, wx_tup, wx_loc, wl_tup, wl_loc, wv_tup, wb_len_tup, wb_len_loc, wb_int, wb_list, wb_tuple, wb_sum, wb_min, wb_max, wi_int_int, wi_int_bool, wi_int_tup, wi_tup_tup, wi_tup_int, wm_append, wm_extend, wm_popAt, wm_count, wss_nil, wss_one, seqK_rt, seqK_bk, seqK_ct, wq_expr, wq_ret, wq_retN, wq_pass, wq_brk, wq_cont, wq_set, wq_setc, wq_par, wq_setIx, ws_setIx, wq_ife, wq_for, wq_whil, wq_never, outK_rt, outK_nx, wv_rng1, wv_rng2, wv_seq, wv_seq_tup, wv_seq_loc, wv_zip, wv_zip_tup, we_comp, wp_ok, wp_bad, wp_br, wp_bind, items_tup, tgF, setAll, startE_eq, nones, List.getElem?_cons_zero, List.getElem?_cons_succ, List.set_cons_zero, List.set_cons_succ, List.map_cons, List.map_nil, List.cons_append, List.nil_append, List.length_cons, List.length_nil, Nat.reduceAdd, Nat.reduceSub, Nat.reduceMul, Nat.reduceLT, Nat.reduceLeDiff, Nat.reduceEqDiff, Option.some.injEq, D.int.injEq, D.tup.injEq, D.loc.injEq, D.bl.injEq, exists_eq_left, exists_eq_left', exists_eq_right, true_and, and_true, if_true, if_false, ite_true, ite_false, reduceIte, Bool.false_eq_true, decide_eq_true_eq, eq_self, exists_const, Bool.not_true, Bool.not_false, Bool.not_eq_true', Bool.and_true, Bool.true_and, Bool.and_false, Bool.false_and, ne_eq, not_true_eq_false, not_false_eq_true, reduceCtorEq, Int.cast_ofNat_Int, Bool.not_eq_true, Bool.true_eq_false, wipeE, items_lst e5, a1]
        refine ⟨Kp.refl, mulOk_of (by omega) (by omega), ?_⟩
        by_cases z : 0 < 0 + (b : Int)
        · have hb3 : b - 1 < (L ++ [0]).length := by omega
          have a2 : atI ((L ++ [0]).map D.int) (0 + (b : Int) - 1) = some (.int ((L ++ [0]).getD (b - 1) 0)) := by
            rw [show 0 + (b : Int) - 1 = ((b - 1 : Nat) : Int) by omega, ti_at hb3, getD_of hb3]
          have t1 : (0 + (b : Int)).toNat = b := by omega
          have t2 : (0 + (b : Int) - 1).toNat = b - 1 := by omega
          simp only [z, we_int, we_str, we_bl, we_non, we_ty, we_cst, we_var, we_bin, we_cmp, we_chain, we_neg, we_not, we_and1, we_and2, we_or1, we_or2, we_ife, we_tup, we_lst, we_ix, we_sl, wo_none, wo_some, we_blt, we_call, we_meth, we_rev, we_srt, we_lrg1, we_lrg2, we_trg1, ws_nil, ws_cons, wt_tr, wt_cmp, wt_chain, wt_not, wt_and1, wt_and2, wt_or1, wt_or2, wts_nil, wts_one, wr_bl, wr_non, wr_int, wr_tup, wn_add, wn_sub, wn_mul, wn_div, wn_mod, wn_pow, wn_neg, wn_cat, wn_tmul, wn_lmul, wn_ladd, wc_lt, wc_le, wc_gt, wc_ge, wc_eq, wc_ne, wc_isnon, wc_isnt, wx_tup, wx_loc, wl_tup, wl_loc, wv_tup, wb_len_tup, wb_len_loc, wb_int, wb_list, wb_tuple, wb_sum, wb_min, wb_max, wi_int_int, wi_int_bool, wi_int_tup, wi_tup_tup, wi_tup_int, wm_append, wm_extend, wm_popAt, wm_count, wss_nil, wss_one, seqK_rt, seqK_bk, seqK_ct, wq_expr, wq_ret, wq_retN, wq_pass, wq_brk, wq_cont, wq_set, wq_setc, wq_par, wq_setIx, ws_setIx, wq_ife, wq_for, wq_whil, wq_never, outK_rt, outK_nx, wv_rng1, wv_rng2, wv_seq, wv_seq_tup, wv_seq_loc, wv_zip, wv_zip_tup, we_comp, wp_ok, wp_bad, wp_br, wp_bind, items_tup, tgF, setAll, startE_eq, nones, List.getElem?_cons_zero, List.getElem?_cons_succ, List.set_cons_zero, List.set_cons_succ, List.map_cons, List.map_nil, List.cons_append, List.nil_append, List.length_cons, List.length_nil, Nat.reduceAdd, Nat.reduceSub, Nat.reduceMul, Nat.reduceLT, Nat.reduceLeDiff, Nat.reduceEqDiff, Option.some.injEq, D.int.injEq, D.tup.injEq, D.loc.injEq, D.bl.injEq, exists_eq_left, exists_eq_left', exists_eq_right, true_and, and_true, if_true, if_false, ite_true, ite_false, reduceIte, Bool.false_eq_true, decide_eq_true_eq, eq_self, exists_const, Bool.not_true, Bool.not_false, Bool.not_eq_true', Bool.and_true, Bool.true_and, Bool.and_false, Bool.false_and, ne_eq, not_true_eq_false, not_false_eq_true, reduceCtorEq, Int.cast_ofNat_Int, Bool.not_eq_true, Bool.true_eq_false, a2, t1, t2, gt_iff_lt]
          exact ⟨p0, Kp.refl⟩
        · have t1 : (0 + (b : Int)).toNat = b := by omega
          simp only [z, we_int, we_str, we_bl, we_non, we_ty, we_cst, we_var, we_bin, we_cmp, we_chain, we_neg, we_not, we_and1, we_and2, we_or1, we_or2, we_ife, we_tup, we_lst, we_ix, we_sl, wo_none, wo_some, we_blt, we_call, we_meth, we_rev, we_srt, we_lrg1, we_lrg2, we_trg1, ws_nil, ws_cons, wt_tr, wt_cmp, wt_chain, wt_not, wt_and1, wt_and2, wt_or1, wt_or2, wts_nil, wts_one, wr_bl, wr_non, wr_int, wr_tup, wn_add, wn_sub, wn_mul, wn_div, wn_mod, wn_pow, wn_neg, wn_cat, wn_tmul, wn_lmul, wn_ladd, wc_lt, wc_le, wc_gt, wc_ge, wc_eq, wc_ne, wc_isnon, wc_isnt, wx_tup, wx_loc, wl_tup, wl_loc, wv_tup, wb_len_tup, wb_len_loc, wb_int, wb_list, wb_tuple, wb_sum, wb_min, wb_max, wi_int_int, wi_int_bool, wi_int_tup, wi_tup_tup, wi_tup_int, wm_append, wm_extend, wm_popAt, wm_count, wss_nil, wss_one, seqK_rt, seqK_bk, seqK_ct, wq_expr, wq_ret, wq_retN, wq_pass, wq_brk, wq_cont, wq_set, wq_setc, wq_par, wq_setIx, ws_setIx, wq_ife, wq_for, wq_whil, wq_never, outK_rt, outK_nx, wv_rng1, wv_rng2, wv_seq, wv_seq_tup, wv_seq_loc, wv_zip, wv_zip_tup, we_comp, wp_ok, wp_bad, wp_br, wp_bind, items_tup, tgF, setAll, startE_eq, nones, List.getElem?_cons_zero, List.getElem?_cons_succ, List.set_cons_zero, List.set_cons_succ, List.map_cons, List.map_nil, List.cons_append, List.nil_append, List.length_cons, List.length_nil, Nat.reduceAdd, Nat.reduceSub, Nat.reduceMul, Nat.reduceLT, Nat.reduceLeDiff, Nat.reduceEqDiff, Option.some.injEq, D.int.injEq, D.tup.injEq, D.loc.injEq, D.bl.injEq, exists_eq_left, exists_eq_left', exists_eq_right, true_and, and_true, if_true, if_false, ite_true, ite_false, reduceIte, Bool.false_eq_true, decide_eq_true_eq, eq_self, exists_const, Bool.not_true, Bool.not_false, Bool.not_eq_true', Bool.and_true, Bool.true_and, Bool.and_false, Bool.false_and, ne_eq, not_true_eq_false, not_false_eq_true, reduceCtorEq, Int.cast_ofNat_Int, Bool.not_eq_true, Bool.true_eq_false, t1, gt_iff_lt]
          exact ⟨p0, Kp.refl⟩
      · have ef : (Src.rng 0 (((L ++ [0]).length : Int)).toNat).items.filterMap (fun y => match y with | .int b => some (D.int ((x * (L ++ [0]).getD b.toNat 0 + if b > 0 then (L ++ [0]).getD (b - 1).toNat 0 else 0) % p)) | _ => none) = (shiftL p x L).map D.int := by
          unfold shiftL
          simp only [Src.items, List.filterMap_map, List.map_map]
          simp only [Int.toNat_natCast, List.length_append, List.length_cons, List.length_nil]
          refine fmap_some fun b _ => ?_
          show some (D.int ((x * (L ++ [0]).getD (0 + (b : Int)).toNat 0 + if 0 + (b : Int) > 0 then (L ++ [0]).getD (0 + (b : Int) - 1).toNat 0 else 0) % p)) = some (D.int ((x * (L ++ [0]).getD b 0 + if b > 0 then (L ++ [0]).getD (b - 1) 0 else 0) % p))
          rw [show (0 + (b : Int)).toNat = b by omega]
          by_cases z : b > 0
          · rw [if_pos z, if_pos (by omega), show (0 + (b : Int) - 1).toNat = b - 1 by omega]
          · rw [if_neg z, if_neg (by omega)]
        rw [ef] at hb
        have hs : 0 < (shiftL p x L).length := by unfold shiftL; simp
        have a3 : atI ((shiftL p x L).map D.int) 0 = some (.int ((shiftL p x L).getD 0 0)) := by
          rw [getD_of hs]
          exact atI_of (n := 0) rfl (by rw [List.getElem?_map, List.getElem?_eq_getElem hs]; rfl)
        have i3 : ixN ((shiftL p x L).map D.int).length 0 = some 0 := ixN_of rfl (by rw [List.length_map]; exact hs)
        rw [seqK_nx]
        simp only [we_int, we_str, we_bl, we_non, we_ty, we_cst, we_var, we_bin, we_cmp, we_chain, we_neg, we_not, we_and1, we_and2, we_or1, we_or2, we_ife, we_tup, we_lst, we_ix, we_sl, wo_none, wo_some, we_blt, we_call, we_meth, we_rev, we_srt, we_lrg1, we_lrg2, we_trg1, ws_nil, ws_cons, wt_tr, wt_cmp, wt_chain, wt_not, wt_and1, wt_and2, wt_or1, wt_or2, wts_nil, wts_one, wr_bl, wr_non, wr_int, wr_tup, wn_add, wn_sub, wn_mul, wn_div, wn_mod, wn_pow, wn_neg, wn_cat, wn_tmul, wn_lmul, wn_ladd, wc_lt, wc_le, wc_gt, wc_ge, wc_eq, wc_ne, wc_isnon, wc_isnt, wx_tup, wx_loc, wl_tup, wl_loc, wv_tup, wb_len_tup, wb_len_loc, wb_int, wb_list, wb_tuple, wb_sum, wb_min, wb_max, wi_int_int, wi_int_bool, wi_int_tup, wi_tup_tup, wi_tup_int, wm_append, wm_extend, wm_popAt, wm_count, wss_nil, wss_one, seqK_rt, seqK_bk, seqK_ct, wq_expr, wq_ret, wq_retN, wq_pass, wq_brk, wq_cont, wq_set, wq_setc, wq_par, wq_setIx, ws_setIx, wq_ife, wq_for, wq_whil, wq_never, outK_rt, outK_nx, wv_rng1, wv_rng2, wv_seq, wv_seq_tup, wv_seq_loc, wv_zip, wv_zip_tup, we_comp, wp_ok, wp_bad, wp_br, wp_bind, items_tup, tgF, setAll, startE_eq, nones, List.getElem?_cons_zero, List.getElem?_cons_succ, List.set_cons_zero, List.set_cons_succ, List.map_cons, List.map_nil, List.cons_append, List.nil_append, List.length_cons, List.length_nil, Nat.reduceAdd, Nat.reduceSub, Nat.reduceMul, Nat.reduceLT, Nat.reduceLeDiff, Nat.reduceEqDiff, Option.some.injEq, D.int.injEq, D.tup.injEq, D.loc.injEq, D.bl.injEq, exists_eq_left, exists_eq_left', exists_eq_right, true_and, and_true, if_true, if_false, ite_true, ite_false, reduceIte, Bool.false_eq_true, decide_eq_true_eq, eq_self, exists_const, Bool.not_true, Bool.not_false, Bool.not_eq_true', Bool.and_true, Bool.true_and, Bool.and_false, Bool.false_and, ne_eq, not_true_eq_false, not_false_eq_true, reduceCtorEq, Int.cast_ofNat_Int, Bool.not_eq_true, Bool.true_eq_false, items_lst hb, a3, hb, O.lst.injEq, i3]
        refine ⟨p0, _, _, _, _, rfl, ?_, by have := k2.len; omega, (k2.trans k3).set (.inr (by have := k2.len; omega))⟩
        rw [get_set hb]
        unfold taylL
        rw [hL]
        unfold stepL
        rw [List.map_set]
    · subst e
      rw [seqK_nx]
      have en : (Src.tup (List.map D.int f).reverse).items.length = f.length := by simp [Src.items]
      rw [en, Nat.sub_self, List.drop_zero] at e1
      simp only [we_int, we_str, we_bl, we_non, we_ty, we_cst, we_var, we_bin, we_cmp, we_chain, we_neg, we_not, we_and1, we_and2, we_or1, we_or2, we_ife, we_tup, we_lst, we_ix, we_sl, wo_none, wo_some, we_blt, we_call, we_meth, we_rev, we_srt, we_lrg1, we_lrg2, we_trg1, ws_nil, ws_cons, wt_tr, wt_cmp, wt_chain, wt_not, wt_and1, wt_and2, wt_or1, wt_or2, wts_nil, wts_one, wr_bl, wr_non, wr_int, wr_tup, wn_add, wn_sub, wn_mul, wn_div, wn_mod, wn_pow, wn_neg, wn_cat, wn_tmul, wn_lmul, wn_ladd, wc_lt, wc_le, wc_gt, wc_ge, wc_eq, wc_ne, wc_isnon, wc_isnt, wx_tup, wx_loc, wl_tup, wl_loc, wv_tup, wb_len_tup, wb_len_loc, wb_int, wb_list, wb_tuple, wb_sum, wb_min, wb_max, wi_int_int, wi_int_bool, wi_int_tup, wi_tup_tup, wi_tup_int, wm_append, wm_extend, wm_popAt, wm_count, wss_nil, wss_one, seqK_rt, seqK_bk, seqK_ct, wq_expr, wq_ret, wq_retN, wq_pass, wq_brk, wq_cont, wq_set, wq_setc, wq_par, wq_setIx, ws_setIx, wq_ife, wq_for, wq_whil, wq_never, outK_rt, outK_nx, wv_rng1, wv_rng2, wv_seq, wv_seq_tup, wv_seq_loc, wv_zip, wv_zip_tup, we_comp, wp_ok, wp_bad, wp_br, wp_bind, items_tup, tgF, setAll, startE_eq, nones, List.getElem?_cons_zero, List.getElem?_cons_succ, List.set_cons_zero, List.set_cons_succ, List.map_cons, List.map_nil, List.cons_append, List.nil_append, List.length_cons, List.length_nil, Nat.reduceAdd, Nat.reduceSub, Nat.reduceMul, Nat.reduceLT, Nat.reduceLeDiff, Nat.reduceEqDiff, Option.some.injEq, D.int.injEq, D.tup.injEq, D.loc.injEq, D.bl.injEq, exists_eq_left, exists_eq_left', exists_eq_right, true_and, and_true, if_true, if_false, ite_true, ite_false, reduceIte, Bool.false_eq_true, decide_eq_true_eq, eq_self, exists_const, Bool.not_true, Bool.not_false, Bool.not_eq_true', Bool.and_true, Bool.true_and, Bool.and_false, Bool.false_and, ne_eq, not_true_eq_false, not_false_eq_true, reduceCtorEq, Int.cast_ofNat_Int, Bool.not_eq_true, Bool.true_eq_false]
      exact ⟨e1, hl, kp⟩
variable [hB : Has fs F.n__law_begun F.f__law_begun]
def begunL (p : Int) (xs ms f : List Int) : List (List Int) := List.zipWith (fun x m => (rowL p x f).take m.toNat) xs ms
abbrev tti (xss : List (List Int)) : D := .tup (xss.map ti)
theorem begun_take {p x m : Int} {f : List Int} : ∀ {xs ms : List Int} {i : Nat}, xs[i]? = some x → ms[i]? = some m → begunL p (xs.take (i + 1)) (ms.take (i + 1)) f = begunL p (xs.take i) (ms.take i) f ++ [(rowL p x f).take m.toNat]
  | y :: xs, n :: ms, 0, e1, e2 => by cases e1; cases e2; simp [begunL]
  | y :: xs, n :: ms, i + 1, e1, e2 => by
    have := begun_take (p := p) (f := f) (xs := xs) (ms := ms) (i := i) e1 e2
    unfold begunL at *
    rw [List.take_succ_cons, List.take_succ_cons, List.zipWith_cons_cons, this, List.take_succ_cons, List.take_succ_cons, List.zipWith_cons_cons, List.cons_append]
  | [], _, i, e1, _ => by simp at e1
  | _ :: _, [], i, _, e2 => by simp at e2
theorem begun_ok {p q : Int} {xs ms f : List Int} (p0 : 0 < p) (p1 : p ≤ 65521) (hx : ∀ x ∈ xs, 0 ≤ x ∧ x ≤ p) (hm : ∀ m ∈ ms, 0 ≤ m) (hl : ms.length = xs.length) (hl2 : xs.length ≤ 1000) (hf : f.length ≤ 1000) : Wp E (callF fs (k + 2) F.n__law_begun [.tup [.int p, .int q, ti xs], ti f, ti ms] h) fun d h' => d = tti (begunL p xs ms f) ∧ Kp [] h h' := by
  refine wp_call hB.has rfl ?_
  unfold F.f__law_begun
  have g2 : atI [D.int p, D.int q, ti xs] 2 = some (ti xs) := rfl
  have g0 : atI [D.int p, D.int q, ti xs] 0 = some (.int p) := rfl
  dsimp only
  rw [wss_cons]
  simp only [we_int, we_str, we_bl, we_non, we_ty, we_cst, we_var, we_bin, we_cmp, we_chain, we_neg, we_not, we_and1, we_and2, we_or1, we_or2, we_ife, we_tup, we_lst, we_ix, we_sl, wo_none, wo_some, we_blt, we_call, we_meth, we_rev, we_srt, we_lrg1, we_lrg2, we_trg1, ws_nil, ws_cons, wt_tr, wt_cmp, wt_chain, wt_not, wt_and1, wt_and2, wt_or1, wt_or2, wts_nil, wts_one, wr_bl, wr_non, wr_int, wr_tup, wn_add, wn_sub, wn_mul, wn_div, wn_mod, wn_pow, wn_neg, wn_cat, wn_tmul, wn_lmul, wn_ladd, wc_lt, wc_le, wc_gt, wc_ge, wc_eq, wc_ne, wc_isnon, wc_isnt, wx_tup, wx_loc, wl_tup, wl_loc, wv_tup, wb_len_tup, wb_len_loc, wb_int, wb_list, wb_tuple, wb_sum, wb_min, wb_max, wi_int_int, wi_int_bool, wi_int_tup, wi_tup_tup, wi_tup_int, wm_append, wm_extend, wm_popAt, wm_count, wss_nil, wss_one, seqK_rt, seqK_bk, seqK_ct, wq_expr, wq_ret, wq_retN, wq_pass, wq_brk, wq_cont, wq_set, wq_setc, wq_par, wq_setIx, ws_setIx, wq_ife, wq_for, wq_whil, wq_never, outK_rt, outK_nx, wv_rng1, wv_rng2, wv_seq, wv_seq_tup, wv_seq_loc, wv_zip, wv_zip_tup, we_comp, wp_ok, wp_bad, wp_br, wp_bind, items_tup, tgF, setAll, startE_eq, nones, List.getElem?_cons_zero, List.getElem?_cons_succ, List.set_cons_zero, List.set_cons_succ, List.map_cons, List.map_nil, List.cons_append, List.nil_append, List.length_cons, List.length_nil, Nat.reduceAdd, Nat.reduceSub, Nat.reduceMul, Nat.reduceLT, Nat.reduceLeDiff, Nat.reduceEqDiff, Option.some.injEq, D.int.injEq, D.tup.injEq, D.loc.injEq, D.bl.injEq, exists_eq_left, exists_eq_left', exists_eq_right, true_and, and_true, if_true, if_false, ite_true, ite_false, reduceIte, Bool.false_eq_true, decide_eq_true_eq, eq_self, exists_const, Bool.not_true, Bool.not_false, Bool.not_eq_true', Bool.and_true, Bool.true_and, Bool.and_false, Bool.false_and, ne_eq, not_true_eq_false, not_false_eq_true, reduceCtorEq, Int.cast_ofNat_Int, Bool.not_eq_true, Bool.true_eq_false]
  refine ⟨by rw [sizeLine_eq]; omega, ?_⟩
  rw [seqK_nx, wss_cons]
  simp only [we_int, we_str, we_bl, we_non, we_ty, we_cst, we_var, we_bin, we_cmp, we_chain, we_neg, we_not, we_and1, we_and2, we_or1, we_or2, we_ife, we_tup, we_lst, we_ix, we_sl, wo_none, wo_some, we_blt, we_call, we_meth, we_rev, we_srt, we_lrg1, we_lrg2, we_trg1, ws_nil, ws_cons, wt_tr, wt_cmp, wt_chain, wt_not, wt_and1, wt_and2, wt_or1, wt_or2, wts_nil, wts_one, wr_bl, wr_non, wr_int, wr_tup, wn_add, wn_sub, wn_mul, wn_div, wn_mod, wn_pow, wn_neg, wn_cat, wn_tmul, wn_lmul, wn_ladd, wc_lt, wc_le, wc_gt, wc_ge, wc_eq, wc_ne, wc_isnon, wc_isnt, wx_tup, wx_loc, wl_tup, wl_loc, wv_tup, wb_len_tup, wb_len_loc, wb_int, wb_list, wb_tuple, wb_sum, wb_min, wb_max, wi_int_int, wi_int_bool, wi_int_tup, wi_tup_tup, wi_tup_int, wm_append, wm_extend, wm_popAt, wm_count, wss_nil, wss_one, seqK_rt, seqK_bk, seqK_ct, wq_expr, wq_ret, wq_retN, wq_pass, wq_brk, wq_cont, wq_set, wq_setc, wq_par, wq_setIx, ws_setIx, wq_ife, wq_for, wq_whil, wq_never, outK_rt, outK_nx, wv_rng1, wv_rng2, wv_seq, wv_seq_tup, wv_seq_loc, wv_zip, wv_zip_tup, we_comp, wp_ok, wp_bad, wp_br, wp_bind, items_tup, tgF, setAll, startE_eq, nones, List.getElem?_cons_zero, List.getElem?_cons_succ, List.set_cons_zero, List.set_cons_succ, List.map_cons, List.map_nil, List.cons_append, List.nil_append, List.length_cons, List.length_nil, Nat.reduceAdd, Nat.reduceSub, Nat.reduceMul, Nat.reduceLT, Nat.reduceLeDiff, Nat.reduceEqDiff, Option.some.injEq, D.int.injEq, D.tup.injEq, D.loc.injEq, D.bl.injEq, exists_eq_left, exists_eq_left', exists_eq_right, true_and, and_true, if_true, if_false, ite_true, ite_false, reduceIte, Bool.false_eq_true, decide_eq_true_eq, eq_self, exists_const, Bool.not_true, Bool.not_false, Bool.not_eq_true', Bool.and_true, Bool.true_and, Bool.and_false, Bool.false_and, ne_eq, not_true_eq_false, not_false_eq_true, reduceCtorEq, Int.cast_ofNat_Int, Bool.not_eq_true, Bool.true_eq_false, g2]
  generalize hl0 : h.length = l
  refine wp_loop (S := Src.zipT (xs.map D.int) (ms.map D.int)) (fun i ρ h' => ∃ (x4 x5 : Option D), ρ = [some (.tup [.int p, .int q, ti xs]), some (ti f), some (ti ms), some (.loc l), x4, x5] ∧ h'[l]? = some (.lst ((begunL p (xs.take i) (ms.take i) f).map ti)) ∧ Kp [] h h') (fun _ _ _ _ => rfl) (fun i y ρ h' hy ⟨x4, x5, e, e1, kp⟩ => ?_) (fun ρ h' ⟨x4, x5, e, e1, kp⟩ => ?_) ⟨none, none, rfl, by subst hl0; exact get_new, Kp.refl.app⟩
  · obtain ⟨a, b, ea, eb, ey⟩ := zip_item hy
    obtain ⟨x, ex, ea⟩ := map_int_at ea
    obtain ⟨m, em, eb⟩ := map_int_at eb
    subst e ey ea eb
    refine ⟨_, rfl, ?_⟩
    have rx := hx x (List.mem_of_getElem? ex)
    have rm := hm m (List.mem_of_getElem? em)
    simp only [we_int, we_str, we_bl, we_non, we_ty, we_cst, we_var, we_bin, we_cmp, we_chain, we_neg, we_not, we_and1, we_and2, we_or1, we_or2, we_ife, we_tup, we_lst, we_ix, we_sl, wo_none, wo_some, we_blt, we_call, we_meth, we_rev, we_srt, we_lrg1, we_lrg2, we_trg1, ws_nil, ws_cons, wt_tr, wt_cmp, wt_chain, wt_not, wt_and1, wt_and2, wt_or1, wt_or2, wts_nil, wts_one, wr_bl, wr_non, wr_int, wr_tup, wn_add, wn_sub, wn_mul, wn_div, wn_mod, wn_pow, wn_neg, wn_cat, wn_tmul, wn_lmul, wn_ladd, wc_lt, wc_le, wc_gt, wc_ge, wc_eq, wc_ne, wc_isnon, wc_isnt, wx_tup, wx_loc, wl_tup, wl_loc, wv_tup, wb_len_tup, wb_len_loc, wb_int, wb_list, wb_tuple, wb_sum, wb_min, wb_max, wi_int_int, wi_int_bool, wi_int_tup, wi_tup_tup, wi_tup_int, wm_append, wm_extend, wm_popAt, wm_count, wss_nil, wss_one, seqK_rt, seqK_bk, seqK_ct, wq_expr, wq_ret, wq_retN, wq_pass, wq_brk, wq_cont, wq_set, wq_setc, wq_par, wq_setIx, ws_setIx, wq_ife, wq_for, wq_whil, wq_never, outK_rt, outK_nx, wv_rng1, wv_rng2, wv_seq, wv_seq_tup, wv_seq_loc, wv_zip, wv_zip_tup, we_comp, wp_ok, wp_bad, wp_br, wp_bind, items_tup, tgF, setAll, startE_eq, nones, List.getElem?_cons_zero, List.getElem?_cons_succ, List.set_cons_zero, List.set_cons_succ, List.map_cons, List.map_nil, List.cons_append, List.nil_append, List.length_cons, List.length_nil, Nat.reduceAdd, Nat.reduceSub, Nat.reduceMul, Nat.reduceLT, Nat.reduceLeDiff, Nat.reduceEqDiff, Option.some.injEq, D.int.injEq, D.tup.injEq, D.loc.injEq, D.bl.injEq, exists_eq_left, exists_eq_left', exists_eq_right, true_and, and_true, if_true, if_false, ite_true, ite_false, reduceIte, Bool.false_eq_true, decide_eq_true_eq, eq_self, exists_const, Bool.not_true, Bool.not_false, Bool.not_eq_true', Bool.and_true, Bool.true_and, Bool.and_false, Bool.false_and, ne_eq, not_true_eq_false, not_false_eq_true, reduceCtorEq, Int.cast_ofNat_Int, Bool.not_eq_true, Bool.true_eq_false, ty_loc e1, g0]
    refine (written_ok p0 p1 rx.1 rx.2 hf).mono fun d h2 ⟨l2, ed, e2, hl3, k2⟩ => ?_
    subst ed
    have e3 := (k2.get e1 (by simp))
    have hi : i < xs.length := (List.getElem?_eq_some_iff.mp ex).1
    have cut : cutD ((rowL p x f).map D.int) none (some m) = ((rowL p x f).take m.toNat).map D.int := by
      rw [cutD_to (j := m.toNat) (by omega), List.map_take]
    have e4 : items? (h2 ++ [O.lst (((rowL p x f).take m.toNat).map D.int)]) (.loc h2.length) = some _ := items_lst get_new
    have e5 : (h2 ++ [O.lst (((rowL p x f).take m.toNat).map D.int)])[l]? = some _ := get_app e3
    have hge : h.length ≤ l := by omega
    have bl : (begunL p (xs.take i) (ms.take i) f).length ≤ 1000 := by
      unfold begunL
      rw [List.length_zipWith, List.length_take]
      omega
    simp only [we_int, we_str, we_bl, we_non, we_ty, we_cst, we_var, we_bin, we_cmp, we_chain, we_neg, we_not, we_and1, we_and2, we_or1, we_or2, we_ife, we_tup, we_lst, we_ix, we_sl, wo_none, wo_some, we_blt, we_call, we_meth, we_rev, we_srt, we_lrg1, we_lrg2, we_trg1, ws_nil, ws_cons, wt_tr, wt_cmp, wt_chain, wt_not, wt_and1, wt_and2, wt_or1, wt_or2, wts_nil, wts_one, wr_bl, wr_non, wr_int, wr_tup, wn_add, wn_sub, wn_mul, wn_div, wn_mod, wn_pow, wn_neg, wn_cat, wn_tmul, wn_lmul, wn_ladd, wc_lt, wc_le, wc_gt, wc_ge, wc_eq, wc_ne, wc_isnon, wc_isnt, wx_tup, wx_loc, wl_tup, wl_loc, wv_tup, wb_len_tup, wb_len_loc, wb_int, wb_list, wb_tuple, wb_sum, wb_min, wb_max, wi_int_int, wi_int_bool, wi_int_tup, wi_tup_tup, wi_tup_int, wm_append, wm_extend, wm_popAt, wm_count, wss_nil, wss_one, seqK_rt, seqK_bk, seqK_ct, wq_expr, wq_ret, wq_retN, wq_pass, wq_brk, wq_cont, wq_set, wq_setc, wq_par, wq_setIx, ws_setIx, wq_ife, wq_for, wq_whil, wq_never, outK_rt, outK_nx, wv_rng1, wv_rng2, wv_seq, wv_seq_tup, wv_seq_loc, wv_zip, wv_zip_tup, we_comp, wp_ok, wp_bad, wp_br, wp_bind, items_tup, tgF, setAll, startE_eq, nones, List.getElem?_cons_zero, List.getElem?_cons_succ, List.set_cons_zero, List.set_cons_succ, List.map_cons, List.map_nil, List.cons_append, List.nil_append, List.length_cons, List.length_nil, Nat.reduceAdd, Nat.reduceSub, Nat.reduceMul, Nat.reduceLT, Nat.reduceLeDiff, Nat.reduceEqDiff, Option.some.injEq, D.int.injEq, D.tup.injEq, D.loc.injEq, D.bl.injEq, exists_eq_left, exists_eq_left', exists_eq_right, true_and, and_true, if_true, if_false, ite_true, ite_false, reduceIte, Bool.false_eq_true, decide_eq_true_eq, eq_self, exists_const, Bool.not_true, Bool.not_false, Bool.not_eq_true', Bool.and_true, Bool.true_and, Bool.and_false, Bool.false_and, ne_eq, not_true_eq_false, not_false_eq_true, reduceCtorEq, Int.cast_ofNat_Int, Bool.not_eq_true, Bool.true_eq_false, items_lst e2, cut, e4, e5, O.lst.injEq, List.length_map]
    refine ⟨by rw [sizeLine_eq]; omega, _, _, rfl, ?_, ((kp.trans k2).app).set (.inr hge)⟩
    rw [get_set e5, begun_take ex em, List.map_append]
    rfl
  · subst e
    have en : (Src.zipT (xs.map D.int) (ms.map D.int)).items.length = xs.length := by rw [zip_len (by simpa using hl), List.length_map]
    rw [en, List.take_length, ← hl, List.take_length] at e1
    rw [seqK_nx]
    simp only [we_int, we_str, we_bl, we_non, we_ty, we_cst, we_var, we_bin, we_cmp, we_chain, we_neg, we_not, we_and1, we_and2, we_or1, we_or2, we_ife, we_tup, we_lst, we_ix, we_sl, wo_none, wo_some, we_blt, we_call, we_meth, we_rev, we_srt, we_lrg1, we_lrg2, we_trg1, ws_nil, ws_cons, wt_tr, wt_cmp, wt_chain, wt_not, wt_and1, wt_and2, wt_or1, wt_or2, wts_nil, wts_one, wr_bl, wr_non, wr_int, wr_tup, wn_add, wn_sub, wn_mul, wn_div, wn_mod, wn_pow, wn_neg, wn_cat, wn_tmul, wn_lmul, wn_ladd, wc_lt, wc_le, wc_gt, wc_ge, wc_eq, wc_ne, wc_isnon, wc_isnt, wx_tup, wx_loc, wl_tup, wl_loc, wv_tup, wb_len_tup, wb_len_loc, wb_int, wb_list, wb_tuple, wb_sum, wb_min, wb_max, wi_int_int, wi_int_bool, wi_int_tup, wi_tup_tup, wi_tup_int, wm_append, wm_extend, wm_popAt, wm_count, wss_nil, wss_one, seqK_rt, seqK_bk, seqK_ct, wq_expr, wq_ret, wq_retN, wq_pass, wq_brk, wq_cont, wq_set, wq_setc, wq_par, wq_setIx, ws_setIx, wq_ife, wq_for, wq_whil, wq_never, outK_rt, outK_nx, wv_rng1, wv_rng2, wv_seq, wv_seq_tup, wv_seq_loc, wv_zip, wv_zip_tup, we_comp, wp_ok, wp_bad, wp_br, wp_bind, items_tup, tgF, setAll, startE_eq, nones, List.getElem?_cons_zero, List.getElem?_cons_succ, List.set_cons_zero, List.set_cons_succ, List.map_cons, List.map_nil, List.cons_append, List.nil_append, List.length_cons, List.length_nil, Nat.reduceAdd, Nat.reduceSub, Nat.reduceMul, Nat.reduceLT, Nat.reduceLeDiff, Nat.reduceEqDiff, Option.some.injEq, D.int.injEq, D.tup.injEq, D.loc.injEq, D.bl.injEq, exists_eq_left, exists_eq_left', exists_eq_right, true_and, and_true, if_true, if_false, ite_true, ite_false, reduceIte, Bool.false_eq_true, decide_eq_true_eq, eq_self, exists_const, Bool.not_true, Bool.not_false, Bool.not_eq_true', Bool.and_true, Bool.true_and, Bool.and_false, Bool.false_and, ne_eq, not_true_eq_false, not_false_eq_true, reduceCtorEq, Int.cast_ofNat_Int, Bool.not_eq_true, Bool.true_eq_false, items_lst e1]
    exact kp
end
section
variable [hI : Has fs F.n__law_listed_v3 F.f__law_listed_v3]
def rgI (p : Int) : List Int := (List.range p.toNat).map fun i => ((i : Nat) : Int)
def allT (p : Int) : Nat → List (List Int)
  | 0 => [[]]
  | n + 1 => (allT p n).flatMap fun b => (rgI p).map fun y => b ++ [y]
theorem rgI_len {p : Int} : (rgI p).length = p.toNat := by unfold rgI; simp
theorem allT_len {p : Int} : ∀ {n : Nat}, (allT p n).length = p.toNat ^ n
  | 0 => rfl
  | n + 1 => by
    unfold allT
    rw [List.length_flatMap]
    have : (allT p n).map (fun b => ((rgI p).map fun y => b ++ [y]).length) = (allT p n).map (fun _ => p.toNat) := List.map_congr_left fun b _ => by rw [List.length_map, rgI_len]
    rw [this, List.map_const', List.sum_replicate_nat, allT_len, Nat.pow_succ]
theorem allT_mem {p : Int} : ∀ {n : Nat} {b : List Int}, b ∈ allT p n → b.length = n ∧ ∀ x ∈ b, 0 ≤ x ∧ x < p
  | 0, b, h => by
    unfold allT at h
    rw [List.mem_singleton.mp h]
    exact ⟨rfl, by simp⟩
  | n + 1, b, h => by
    unfold allT at h
    obtain ⟨c, hc, hb⟩ := List.mem_flatMap.mp h
    obtain ⟨y, hy, e⟩ := List.mem_map.mp hb
    obtain ⟨h1, h2⟩ := allT_mem hc
    unfold rgI at hy
    obtain ⟨i, hi, ei⟩ := List.mem_map.mp hy
    have := List.mem_range.mp hi
    subst e
    refine ⟨by rw [List.length_append, h1]; rfl, fun x hx => ?_⟩
    rcases List.mem_append.mp hx with z | z
    · exact h2 x z
    · rw [List.mem_singleton.mp z]; omega
theorem lst_item {l : Nat} {xs : List D} {i : Nat} {x : D} (hx : (Src.lst l xs).items[i]? = some x) : xs[i]? = some x := hx
theorem listed_ok {p q : Int} (p0 : 0 < p) (q0 : 0 ≤ q) (q1 : q ≤ 1000) (sz : p.toNat ^ q.toNat ≤ 1000000) : Wp E (callF fs (k + 1) F.n__law_listed_v3 [.int p, .int q] h) fun d h' => ∃ l, d = .loc l ∧ h'[l]? = some (.lst ((allT p q.toNat).map ti)) ∧ h.length ≤ l ∧ Kp [] h h' := by
  refine wp_call hI.has rfl ?_
  unfold F.f__law_listed_v3
  dsimp only
  have szn : ∀ i, i ≤ q.toNat → p.toNat ^ i ≤ 1000000 := fun i hi => Nat.le_trans (Nat.pow_le_pow_right (by omega) hi) sz
  have szp : 0 < q.toNat → p.toNat ≤ 1000000 := fun z => by have := szn 1 z; rwa [Nat.pow_one] at this
  rw [wss_cons]
  simp only [we_int, we_str, we_bl, we_non, we_ty, we_cst, we_var, we_bin, we_cmp, we_chain, we_neg, we_not, we_and1, we_and2, we_or1, we_or2, we_ife, we_tup, we_lst, we_ix, we_sl, wo_none, wo_some, we_blt, we_call, we_meth, we_rev, we_srt, we_lrg1, we_lrg2, we_trg1, ws_nil, ws_cons, wt_tr, wt_cmp, wt_chain, wt_not, wt_and1, wt_and2, wt_or1, wt_or2, wts_nil, wts_one, wr_bl, wr_non, wr_int, wr_tup, wn_add, wn_sub, wn_mul, wn_div, wn_mod, wn_pow, wn_neg, wn_cat, wn_tmul, wn_lmul, wn_ladd, wc_lt, wc_le, wc_gt, wc_ge, wc_eq, wc_ne, wc_isnon, wc_isnt, wx_tup, wx_loc, wl_tup, wl_loc, wv_tup, wb_len_tup, wb_len_loc, wb_int, wb_list, wb_tuple, wb_sum, wb_min, wb_max, wi_int_int, wi_int_bool, wi_int_tup, wi_tup_tup, wi_tup_int, wm_append, wm_extend, wm_popAt, wm_count, wss_nil, wss_one, seqK_rt, seqK_bk, seqK_ct, wq_expr, wq_ret, wq_retN, wq_pass, wq_brk, wq_cont, wq_set, wq_setc, wq_par, wq_setIx, ws_setIx, wq_ife, wq_for, wq_whil, wq_never, outK_rt, outK_nx, wv_rng1, wv_rng2, wv_seq, wv_seq_tup, wv_seq_loc, wv_zip, wv_zip_tup, we_comp, wp_ok, wp_bad, wp_br, wp_bind, items_tup, tgF, setAll, startE_eq, nones, List.getElem?_cons_zero, List.getElem?_cons_succ, List.set_cons_zero, List.set_cons_succ, List.map_cons, List.map_nil, List.cons_append, List.nil_append, List.length_cons, List.length_nil, Nat.reduceAdd, Nat.reduceSub, Nat.reduceMul, Nat.reduceLT, Nat.reduceLeDiff, Nat.reduceEqDiff, Option.some.injEq, D.int.injEq, D.tup.injEq, D.loc.injEq, D.bl.injEq, exists_eq_left, exists_eq_left', exists_eq_right, true_and, and_true, if_true, if_false, ite_true, ite_false, reduceIte, Bool.false_eq_true, decide_eq_true_eq, eq_self, exists_const, Bool.not_true, Bool.not_false, Bool.not_eq_true', Bool.and_true, Bool.true_and, Bool.and_false, Bool.false_and, ne_eq, not_true_eq_false, not_false_eq_true, reduceCtorEq, Int.cast_ofNat_Int, Bool.not_eq_true, Bool.true_eq_false]
  refine ⟨by rw [sizeLine_eq]; omega, by rw [sizeLine_eq]; omega, ?_⟩
  rw [seqK_nx, wss_cons]
  simp only [we_int, we_str, we_bl, we_non, we_ty, we_cst, we_var, we_bin, we_cmp, we_chain, we_neg, we_not, we_and1, we_and2, we_or1, we_or2, we_ife, we_tup, we_lst, we_ix, we_sl, wo_none, wo_some, we_blt, we_call, we_meth, we_rev, we_srt, we_lrg1, we_lrg2, we_trg1, ws_nil, ws_cons, wt_tr, wt_cmp, wt_chain, wt_not, wt_and1, wt_and2, wt_or1, wt_or2, wts_nil, wts_one, wr_bl, wr_non, wr_int, wr_tup, wn_add, wn_sub, wn_mul, wn_div, wn_mod, wn_pow, wn_neg, wn_cat, wn_tmul, wn_lmul, wn_ladd, wc_lt, wc_le, wc_gt, wc_ge, wc_eq, wc_ne, wc_isnon, wc_isnt, wx_tup, wx_loc, wl_tup, wl_loc, wv_tup, wb_len_tup, wb_len_loc, wb_int, wb_list, wb_tuple, wb_sum, wb_min, wb_max, wi_int_int, wi_int_bool, wi_int_tup, wi_tup_tup, wi_tup_int, wm_append, wm_extend, wm_popAt, wm_count, wss_nil, wss_one, seqK_rt, seqK_bk, seqK_ct, wq_expr, wq_ret, wq_retN, wq_pass, wq_brk, wq_cont, wq_set, wq_setc, wq_par, wq_setIx, ws_setIx, wq_ife, wq_for, wq_whil, wq_never, outK_rt, outK_nx, wv_rng1, wv_rng2, wv_seq, wv_seq_tup, wv_seq_loc, wv_zip, wv_zip_tup, we_comp, wp_ok, wp_bad, wp_br, wp_bind, items_tup, tgF, setAll, startE_eq, nones, List.getElem?_cons_zero, List.getElem?_cons_succ, List.set_cons_zero, List.set_cons_succ, List.map_cons, List.map_nil, List.cons_append, List.nil_append, List.length_cons, List.length_nil, Nat.reduceAdd, Nat.reduceSub, Nat.reduceMul, Nat.reduceLT, Nat.reduceLeDiff, Nat.reduceEqDiff, Option.some.injEq, D.int.injEq, D.tup.injEq, D.loc.injEq, D.bl.injEq, exists_eq_left, exists_eq_left', exists_eq_right, true_and, and_true, if_true, if_false, ite_true, ite_false, reduceIte, Bool.false_eq_true, decide_eq_true_eq, eq_self, exists_const, Bool.not_true, Bool.not_false, Bool.not_eq_true', Bool.and_true, Bool.true_and, Bool.and_false, Bool.false_and, ne_eq, not_true_eq_false, not_false_eq_true, reduceCtorEq, Int.cast_ofNat_Int, Bool.not_eq_true, Bool.true_eq_false]
  refine ⟨⟨by omega, by omega⟩, ?_⟩
  refine wp_loop (S := Src.rng 0 q.toNat) (fun i ρ h' => ∃ (x3 x4 x5 x6 : Option D) (l : Nat), ρ = [some (.int p), some (.int q), some (.loc l), x3, x4, x5, x6] ∧ h'[l]? = some (.lst ((allT p i).map ti)) ∧ h.length ≤ l ∧ Kp [] h h') (fun _ _ _ _ => rfl) (fun i y ρ h' hy ⟨x3, x4, x5, x6, l, e, e1, hl, kp⟩ => ?_) (fun ρ h' ⟨x3, x4, x5, x6, l, e, e1, hl, kp⟩ => ?_) ⟨none, none, none, none, _, rfl, get_new, Nat.le_refl _, Kp.refl.app⟩
  · obtain ⟨hi, ex⟩ := rng_item hy
    subst e ex
    refine ⟨_, rfl, ?_⟩
    rw [wss_cons]
    simp only [we_int, we_str, we_bl, we_non, we_ty, we_cst, we_var, we_bin, we_cmp, we_chain, we_neg, we_not, we_and1, we_and2, we_or1, we_or2, we_ife, we_tup, we_lst, we_ix, we_sl, wo_none, wo_some, we_blt, we_call, we_meth, we_rev, we_srt, we_lrg1, we_lrg2, we_trg1, ws_nil, ws_cons, wt_tr, wt_cmp, wt_chain, wt_not, wt_and1, wt_and2, wt_or1, wt_or2, wts_nil, wts_one, wr_bl, wr_non, wr_int, wr_tup, wn_add, wn_sub, wn_mul, wn_div, wn_mod, wn_pow, wn_neg, wn_cat, wn_tmul, wn_lmul, wn_ladd, wc_lt, wc_le, wc_gt, wc_ge, wc_eq, wc_ne, wc_isnon, wc_isnt, wx_tup, wx_loc, wl_tup, wl_loc, wv_tup, wb_len_tup, wb_len_loc, wb_int, wb_list, wb_tuple, wb_sum, wb_min, wb_max, wi_int_int, wi_int_bool, wi_int_tup, wi_tup_tup, wi_tup_int, wm_append, wm_extend, wm_popAt, wm_count, wss_nil, wss_one, seqK_rt, seqK_bk, seqK_ct, wq_expr, wq_ret, wq_retN, wq_pass, wq_brk, wq_cont, wq_set, wq_setc, wq_par, wq_setIx, ws_setIx, wq_ife, wq_for, wq_whil, wq_never, outK_rt, outK_nx, wv_rng1, wv_rng2, wv_seq, wv_seq_tup, wv_seq_loc, wv_zip, wv_zip_tup, we_comp, wp_ok, wp_bad, wp_br, wp_bind, items_tup, tgF, setAll, startE_eq, nones, List.getElem?_cons_zero, List.getElem?_cons_succ, List.set_cons_zero, List.set_cons_succ, List.map_cons, List.map_nil, List.cons_append, List.nil_append, List.length_cons, List.length_nil, Nat.reduceAdd, Nat.reduceSub, Nat.reduceMul, Nat.reduceLT, Nat.reduceLeDiff, Nat.reduceEqDiff, Option.some.injEq, D.int.injEq, D.tup.injEq, D.loc.injEq, D.bl.injEq, exists_eq_left, exists_eq_left', exists_eq_right, true_and, and_true, if_true, if_false, ite_true, ite_false, reduceIte, Bool.false_eq_true, decide_eq_true_eq, eq_self, exists_const, Bool.not_true, Bool.not_false, Bool.not_eq_true', Bool.and_true, Bool.true_and, Bool.and_false, Bool.false_and, ne_eq, not_true_eq_false, not_false_eq_true, reduceCtorEq, Int.cast_ofNat_Int, Bool.not_eq_true, Bool.true_eq_false]
    refine ⟨by rw [sizeLine_eq]; omega, ?_⟩
    rw [seqK_nx, wss_cons]
    have e2 : (h' ++ [O.lst []])[l]? = some (.lst ((allT p i).map ti)) := get_app e1
    simp only [we_int, we_str, we_bl, we_non, we_ty, we_cst, we_var, we_bin, we_cmp, we_chain, we_neg, we_not, we_and1, we_and2, we_or1, we_or2, we_ife, we_tup, we_lst, we_ix, we_sl, wo_none, wo_some, we_blt, we_call, we_meth, we_rev, we_srt, we_lrg1, we_lrg2, we_trg1, ws_nil, ws_cons, wt_tr, wt_cmp, wt_chain, wt_not, wt_and1, wt_and2, wt_or1, wt_or2, wts_nil, wts_one, wr_bl, wr_non, wr_int, wr_tup, wn_add, wn_sub, wn_mul, wn_div, wn_mod, wn_pow, wn_neg, wn_cat, wn_tmul, wn_lmul, wn_ladd, wc_lt, wc_le, wc_gt, wc_ge, wc_eq, wc_ne, wc_isnon, wc_isnt, wx_tup, wx_loc, wl_tup, wl_loc, wv_tup, wb_len_tup, wb_len_loc, wb_int, wb_list, wb_tuple, wb_sum, wb_min, wb_max, wi_int_int, wi_int_bool, wi_int_tup, wi_tup_tup, wi_tup_int, wm_append, wm_extend, wm_popAt, wm_count, wss_nil, wss_one, seqK_rt, seqK_bk, seqK_ct, wq_expr, wq_ret, wq_retN, wq_pass, wq_brk, wq_cont, wq_set, wq_setc, wq_par, wq_setIx, ws_setIx, wq_ife, wq_for, wq_whil, wq_never, outK_rt, outK_nx, wv_rng1, wv_rng2, wv_seq, wv_seq_tup, wv_seq_loc, wv_zip, wv_zip_tup, we_comp, wp_ok, wp_bad, wp_br, wp_bind, items_tup, tgF, setAll, startE_eq, nones, List.getElem?_cons_zero, List.getElem?_cons_succ, List.set_cons_zero, List.set_cons_succ, List.map_cons, List.map_nil, List.cons_append, List.nil_append, List.length_cons, List.length_nil, Nat.reduceAdd, Nat.reduceSub, Nat.reduceMul, Nat.reduceLT, Nat.reduceLeDiff, Nat.reduceEqDiff, Option.some.injEq, D.int.injEq, D.tup.injEq, D.loc.injEq, D.bl.injEq, exists_eq_left, exists_eq_left', exists_eq_right, true_and, and_true, if_true, if_false, ite_true, ite_false, reduceIte, Bool.false_eq_true, decide_eq_true_eq, eq_self, exists_const, Bool.not_true, Bool.not_false, Bool.not_eq_true', Bool.and_true, Bool.true_and, Bool.and_false, Bool.false_and, ne_eq, not_true_eq_false, not_false_eq_true, reduceCtorEq, Int.cast_ofNat_Int, Bool.not_eq_true, Bool.true_eq_false, items_lst e2]
    generalize hl2 : h'.length = l2
    have ll : l < l2 := by rw [← hl2]; exact get_lt' e1
    have pi1 := szn (i + 1) (by omega)
    have sub : ∀ j, ((allT p i).take j).length * p.toNat ≤ p.toNat ^ (i + 1) := fun j => by
      rw [Nat.pow_succ, ← allT_len (p := p) (n := i), List.length_take]
      exact Nat.mul_le_mul_right _ (Nat.min_le_right _ _)
    have flen : ∀ j, (((allT p i).take j).flatMap fun b => (rgI p).map fun y => b ++ [y]).length = ((allT p i).take j).length * p.toNat := fun j => by
      rw [List.length_flatMap]
      have : ((allT p i).take j).map (fun b => ((rgI p).map fun y => b ++ [y]).length) = ((allT p i).take j).map (fun _ => p.toNat) := List.map_congr_left fun b _ => by rw [List.length_map, rgI_len]
      rw [this, List.map_const', List.sum_replicate_nat]
    refine wp_loop (S := Src.lst l ((allT p i).map ti)) (fun j ρ h2 => ∃ (x5 x6 : Option D), ρ = [some (.int p), some (.int q), some (.loc l), some (.int (i : Int)), some (.loc l2), x5, x6] ∧ h2[l]? = some (.lst ((allT p i).map ti)) ∧ h2[l2]? = some (.lst ((((allT p i).take j).flatMap fun b => (rgI p).map fun y => b ++ [y]).map ti)) ∧ Kp [] h h2) (fun j ρ h2 ⟨_, _, _, e, _⟩ => still_of (.inl e)) (fun j y ρ h2 hy ⟨x5, x6, e, e1, e2, kp⟩ => ?_) (fun ρ h2 ⟨x5, x6, e, e1, e2, kp⟩ => ?_) ⟨x5, x6, rfl, e2, by subst hl2; exact get_new, kp.app⟩
    · have hy := lst_item hy
      rw [List.getElem?_map] at hy
      obtain ⟨b, eb, ey⟩ := Option.map_eq_some_iff.mp hy
      subst e ey
      refine ⟨_, rfl, ?_⟩
      have bm := allT_mem (List.mem_of_getElem? eb)
      simp only [we_int, we_str, we_bl, we_non, we_ty, we_cst, we_var, we_bin, we_cmp, we_chain, we_neg, we_not, we_and1, we_and2, we_or1, we_or2, we_ife, we_tup, we_lst, we_ix, we_sl, wo_none, wo_some, we_blt, we_call, we_meth, we_rev, we_srt, we_lrg1, we_lrg2, we_trg1, ws_nil, ws_cons, wt_tr, wt_cmp, wt_chain, wt_not, wt_and1, wt_and2, wt_or1, wt_or2, wts_nil, wts_one, wr_bl, wr_non, wr_int, wr_tup, wn_add, wn_sub, wn_mul, wn_div, wn_mod, wn_pow, wn_neg, wn_cat, wn_tmul, wn_lmul, wn_ladd, wc_lt, wc_le, wc_gt, wc_ge, wc_eq, wc_ne, wc_isnon, wc_isnt, wx_tup, wx_loc, wl_tup, wl_loc, wv_tup, wb_len_tup, wb_len_loc, wb_int, wb_list, wb_tuple, wb_sum, wb_min, wb_max, wi_int_int, wi_int_bool, wi_int_tup, wi_tup_tup, wi_tup_int, wm_append, wm_extend, wm_popAt, wm_count, wss_nil, wss_one, seqK_rt, seqK_bk, seqK_ct, wq_expr, wq_ret, wq_retN, wq_pass, wq_brk, wq_cont, wq_set, wq_setc, wq_par, wq_setIx, ws_setIx, wq_ife, wq_for, wq_whil, wq_never, outK_rt, outK_nx, wv_rng1, wv_rng2, wv_seq, wv_seq_tup, wv_seq_loc, wv_zip, wv_zip_tup, we_comp, wp_ok, wp_bad, wp_br, wp_bind, items_tup, tgF, setAll, startE_eq, nones, List.getElem?_cons_zero, List.getElem?_cons_succ, List.set_cons_zero, List.set_cons_succ, List.map_cons, List.map_nil, List.cons_append, List.nil_append, List.length_cons, List.length_nil, Nat.reduceAdd, Nat.reduceSub, Nat.reduceMul, Nat.reduceLT, Nat.reduceLeDiff, Nat.reduceEqDiff, Option.some.injEq, D.int.injEq, D.tup.injEq, D.loc.injEq, D.bl.injEq, exists_eq_left, exists_eq_left', exists_eq_right, true_and, and_true, if_true, if_false, ite_true, ite_false, reduceIte, Bool.false_eq_true, decide_eq_true_eq, eq_self, exists_const, Bool.not_true, Bool.not_false, Bool.not_eq_true', Bool.and_true, Bool.true_and, Bool.and_false, Bool.false_and, ne_eq, not_true_eq_false, not_false_eq_true, reduceCtorEq, Int.cast_ofNat_Int, Bool.not_eq_true, Bool.true_eq_false, ty_loc e2]
      refine ⟨⟨by omega, by have := szp (by omega); omega⟩, ?_⟩
      refine wp_comp (S := Src.rng 0 p.toNat) (fun y => match y with | .int c => some (ti (b ++ [c])) | _ => none) rfl (by rw [rng_len, sizeLine_eq]; have := szp (by omega); omega) (fun y hy h3 k3 => ?_) (fun h3 k3 hb => ?_)
      · obtain ⟨c, hc, ey⟩ := rng_items_mem hy
        subst ey
        refine ⟨_, rfl, ?_⟩
        simp only [we_int, we_str, we_bl, we_non, we_ty, we_cst, we_var, we_bin, we_cmp, we_chain, we_neg, we_not, we_and1, we_and2, we_or1, we_or2, we_ife, we_tup, we_lst, we_ix, we_sl, wo_none, wo_some, we_blt, we_call, we_meth, we_rev, we_srt, we_lrg1, we_lrg2, we_trg1, ws_nil, ws_cons, wt_tr, wt_cmp, wt_chain, wt_not, wt_and1, wt_and2, wt_or1, wt_or2, wts_nil, wts_one, wr_bl, wr_non, wr_int, wr_tup, wn_add, wn_sub, wn_mul, wn_div, wn_mod, wn_pow, wn_neg, wn_cat, wn_tmul, wn_lmul, wn_ladd, wc_lt, wc_le, wc_gt, wc_ge, wc_eq, wc_ne, wc_isnon, wc_isnt, wx_tup, wx_loc, wl_tup, wl_loc, wv_tup, wb_len_tup, wb_len_loc, wb_int, wb_list, wb_tuple, wb_sum, wb_min, wb_max, wi_int_int, wi_int_bool, wi_int_tup, wi_tup_tup, wi_tup_int, wm_append, wm_extend, wm_popAt, wm_count, wss_nil, wss_one, seqK_rt, seqK_bk, seqK_ct, wq_expr, wq_ret, wq_retN, wq_pass, wq_brk, wq_cont, wq_set, wq_setc, wq_par, wq_setIx, ws_setIx, wq_ife, wq_for, wq_whil, wq_never, outK_rt, outK_nx, wv_rng1, wv_rng2, wv_seq, wv_seq_tup, wv_seq_loc, wv_zip, wv_zip_tup, we_comp, wp_ok, wp_bad, wp_br, wp_bind, items_tup, tgF, setAll, startE_eq, nones, List.getElem?_cons_zero, List.getElem?_cons_succ, List.set_cons_zero, List.set_cons_succ, List.map_cons, List.map_nil, List.cons_append, List.nil_append, List.length_cons, List.length_nil, Nat.reduceAdd, Nat.reduceSub, Nat.reduceMul, Nat.reduceLT, Nat.reduceLeDiff, Nat.reduceEqDiff, Option.some.injEq, D.int.injEq, D.tup.injEq, D.loc.injEq, D.bl.injEq, exists_eq_left, exists_eq_left', exists_eq_right, true_and, and_true, if_true, if_false, ite_true, ite_false, reduceIte, Bool.false_eq_true, decide_eq_true_eq, eq_self, exists_const, Bool.not_true, Bool.not_false, Bool.not_eq_true', Bool.and_true, Bool.true_and, Bool.and_false, Bool.false_and, ne_eq, not_true_eq_false, not_false_eq_true, reduceCtorEq, Int.cast_ofNat_Int, Bool.not_eq_true, Bool.true_eq_false, wipeE, List.length_map]
        refine ⟨Kp.refl, by rw [sizeLine_eq]; omega, by rw [sizeLine_eq]; omega, Kp.refl, ?_⟩
        rw [List.map_append]; rfl
      · have ef : (Src.rng 0 p.toNat).items.filterMap (fun y => match y with | .int c => some (ti (b ++ [c])) | _ => none) = ((rgI p).map fun y => b ++ [y]).map ti := by
          unfold rgI
          simp only [Src.items, List.filterMap_map, List.map_map]
          refine fmap_some fun c _ => ?_
          show some (ti (b ++ [0 + (c : Int)])) = some (ti (b ++ [(c : Int)]))
          rw [Int.zero_add]
        rw [ef] at hb
        have f2 := k3.get e2 (by simp)
        have f1 := k3.get e1 (by simp)
        simp only [we_int, we_str, we_bl, we_non, we_ty, we_cst, we_var, we_bin, we_cmp, we_chain, we_neg, we_not, we_and1, we_and2, we_or1, we_or2, we_ife, we_tup, we_lst, we_ix, we_sl, wo_none, wo_some, we_blt, we_call, we_meth, we_rev, we_srt, we_lrg1, we_lrg2, we_trg1, ws_nil, ws_cons, wt_tr, wt_cmp, wt_chain, wt_not, wt_and1, wt_and2, wt_or1, wt_or2, wts_nil, wts_one, wr_bl, wr_non, wr_int, wr_tup, wn_add, wn_sub, wn_mul, wn_div, wn_mod, wn_pow, wn_neg, wn_cat, wn_tmul, wn_lmul, wn_ladd, wc_lt, wc_le, wc_gt, wc_ge, wc_eq, wc_ne, wc_isnon, wc_isnt, wx_tup, wx_loc, wl_tup, wl_loc, wv_tup, wb_len_tup, wb_len_loc, wb_int, wb_list, wb_tuple, wb_sum, wb_min, wb_max, wi_int_int, wi_int_bool, wi_int_tup, wi_tup_tup, wi_tup_int, wm_append, wm_extend, wm_popAt, wm_count, wss_nil, wss_one, seqK_rt, seqK_bk, seqK_ct, wq_expr, wq_ret, wq_retN, wq_pass, wq_brk, wq_cont, wq_set, wq_setc, wq_par, wq_setIx, ws_setIx, wq_ife, wq_for, wq_whil, wq_never, outK_rt, outK_nx, wv_rng1, wv_rng2, wv_seq, wv_seq_tup, wv_seq_loc, wv_zip, wv_zip_tup, we_comp, wp_ok, wp_bad, wp_br, wp_bind, items_tup, tgF, setAll, startE_eq, nones, List.getElem?_cons_zero, List.getElem?_cons_succ, List.set_cons_zero, List.set_cons_succ, List.map_cons, List.map_nil, List.cons_append, List.nil_append, List.length_cons, List.length_nil, Nat.reduceAdd, Nat.reduceSub, Nat.reduceMul, Nat.reduceLT, Nat.reduceLeDiff, Nat.reduceEqDiff, Option.some.injEq, D.int.injEq, D.tup.injEq, D.loc.injEq, D.bl.injEq, exists_eq_left, exists_eq_left', exists_eq_right, true_and, and_true, if_true, if_false, ite_true, ite_false, reduceIte, Bool.false_eq_true, decide_eq_true_eq, eq_self, exists_const, Bool.not_true, Bool.not_false, Bool.not_eq_true', Bool.and_true, Bool.true_and, Bool.and_false, Bool.false_and, ne_eq, not_true_eq_false, not_false_eq_true, reduceCtorEq, Int.cast_ofNat_Int, Bool.not_eq_true, Bool.true_eq_false, f2, hb, O.lst.injEq, List.length_map, flen, rgI_len]
        have tk : (allT p i).take (j + 1) = (allT p i).take j ++ [b] := by rw [List.take_add_one, eb]; rfl
        have s1 := sub (j + 1)
        rw [tk, List.length_append] at s1
        refine ⟨?_, _, _, rfl, get_set_ne f1 (by omega), ?_, (kp.trans k3).set (.inr (by have := kp.len; omega))⟩
        · rw [sizeLine_eq]
          have : (((allT p i).take j).length + [b].length) * p.toNat = ((allT p i).take j).length * p.toNat + p.toNat := by rw [Nat.add_mul]; simp
          omega
        · rw [get_set f2, tk, List.flatMap_append, ← List.map_append]
          simp
    · subst e
      have en : (Src.lst l ((allT p i).map ti)).items.length = (allT p i).length := by simp [Src.items]
      rw [en, List.take_length] at e2
      rw [seqK_nx]
      simp only [we_int, we_str, we_bl, we_non, we_ty, we_cst, we_var, we_bin, we_cmp, we_chain, we_neg, we_not, we_and1, we_and2, we_or1, we_or2, we_ife, we_tup, we_lst, we_ix, we_sl, wo_none, wo_some, we_blt, we_call, we_meth, we_rev, we_srt, we_lrg1, we_lrg2, we_trg1, ws_nil, ws_cons, wt_tr, wt_cmp, wt_chain, wt_not, wt_and1, wt_and2, wt_or1, wt_or2, wts_nil, wts_one, wr_bl, wr_non, wr_int, wr_tup, wn_add, wn_sub, wn_mul, wn_div, wn_mod, wn_pow, wn_neg, wn_cat, wn_tmul, wn_lmul, wn_ladd, wc_lt, wc_le, wc_gt, wc_ge, wc_eq, wc_ne, wc_isnon, wc_isnt, wx_tup, wx_loc, wl_tup, wl_loc, wv_tup, wb_len_tup, wb_len_loc, wb_int, wb_list, wb_tuple, wb_sum, wb_min, wb_max, wi_int_int, wi_int_bool, wi_int_tup, wi_tup_tup, wi_tup_int, wm_append, wm_extend, wm_popAt, wm_count, wss_nil, wss_one, seqK_rt, seqK_bk, seqK_ct, wq_expr, wq_ret, wq_retN, wq_pass, wq_brk, wq_cont, wq_set, wq_setc, wq_par, wq_setIx, ws_setIx, wq_ife, wq_for, wq_whil, wq_never, outK_rt, outK_nx, wv_rng1, wv_rng2, wv_seq, wv_seq_tup, wv_seq_loc, wv_zip, wv_zip_tup, we_comp, wp_ok, wp_bad, wp_br, wp_bind, items_tup, tgF, setAll, startE_eq, nones, List.getElem?_cons_zero, List.getElem?_cons_succ, List.set_cons_zero, List.set_cons_succ, List.map_cons, List.map_nil, List.cons_append, List.nil_append, List.length_cons, List.length_nil, Nat.reduceAdd, Nat.reduceSub, Nat.reduceMul, Nat.reduceLT, Nat.reduceLeDiff, Nat.reduceEqDiff, Option.some.injEq, D.int.injEq, D.tup.injEq, D.loc.injEq, D.bl.injEq, exists_eq_left, exists_eq_left', exists_eq_right, true_and, and_true, if_true, if_false, ite_true, ite_false, reduceIte, Bool.false_eq_true, decide_eq_true_eq, eq_self, exists_const, Bool.not_true, Bool.not_false, Bool.not_eq_true', Bool.and_true, Bool.true_and, Bool.and_false, Bool.false_and, ne_eq, not_true_eq_false, not_false_eq_true, reduceCtorEq, Int.cast_ofNat_Int, Bool.not_eq_true, Bool.true_eq_false]
      exact ⟨_, _, _, _, _, rfl, e2, by have := kp.len; omega, kp⟩
  · subst e
    rw [rng_len] at e1
    rw [seqK_nx]
    simp only [we_int, we_str, we_bl, we_non, we_ty, we_cst, we_var, we_bin, we_cmp, we_chain, we_neg, we_not, we_and1, we_and2, we_or1, we_or2, we_ife, we_tup, we_lst, we_ix, we_sl, wo_none, wo_some, we_blt, we_call, we_meth, we_rev, we_srt, we_lrg1, we_lrg2, we_trg1, ws_nil, ws_cons, wt_tr, wt_cmp, wt_chain, wt_not, wt_and1, wt_and2, wt_or1, wt_or2, wts_nil, wts_one, wr_bl, wr_non, wr_int, wr_tup, wn_add, wn_sub, wn_mul, wn_div, wn_mod, wn_pow, wn_neg, wn_cat, wn_tmul, wn_lmul, wn_ladd, wc_lt, wc_le, wc_gt, wc_ge, wc_eq, wc_ne, wc_isnon, wc_isnt, wx_tup, wx_loc, wl_tup, wl_loc, wv_tup, wb_len_tup, wb_len_loc, wb_int, wb_list, wb_tuple, wb_sum, wb_min, wb_max, wi_int_int, wi_int_bool, wi_int_tup, wi_tup_tup, wi_tup_int, wm_append, wm_extend, wm_popAt, wm_count, wss_nil, wss_one, seqK_rt, seqK_bk, seqK_ct, wq_expr, wq_ret, wq_retN, wq_pass, wq_brk, wq_cont, wq_set, wq_setc, wq_par, wq_setIx, ws_setIx, wq_ife, wq_for, wq_whil, wq_never, outK_rt, outK_nx, wv_rng1, wv_rng2, wv_seq, wv_seq_tup, wv_seq_loc, wv_zip, wv_zip_tup, we_comp, wp_ok, wp_bad, wp_br, wp_bind, items_tup, tgF, setAll, startE_eq, nones, List.getElem?_cons_zero, List.getElem?_cons_succ, List.set_cons_zero, List.set_cons_succ, List.map_cons, List.map_nil, List.cons_append, List.nil_append, List.length_cons, List.length_nil, Nat.reduceAdd, Nat.reduceSub, Nat.reduceMul, Nat.reduceLT, Nat.reduceLeDiff, Nat.reduceEqDiff, Option.some.injEq, D.int.injEq, D.tup.injEq, D.loc.injEq, D.bl.injEq, exists_eq_left, exists_eq_left', exists_eq_right, true_and, and_true, if_true, if_false, ite_true, ite_false, reduceIte, Bool.false_eq_true, decide_eq_true_eq, eq_self, exists_const, Bool.not_true, Bool.not_false, Bool.not_eq_true', Bool.and_true, Bool.true_and, Bool.and_false, Bool.false_and, ne_eq, not_true_eq_false, not_false_eq_true, reduceCtorEq, Int.cast_ofNat_Int, Bool.not_eq_true, Bool.true_eq_false]
    exact ⟨e1, hl, kp⟩
end
end Dx

/-! PMod: plain algebra by a prime: congruence, lines, rows, batches. No program in sight. -/
namespace Dx

/-! ### congruence -/
def Cg (p a b : Int) : Prop := ∃ k : Int, a = b + p * k
section
variable {p a b c d : Int}
theorem Cg.refl : Cg p a a := ⟨0, by grind⟩
theorem Cg.of_eq (e : a = b) : Cg p a b := e ▸ Cg.refl
theorem Cg.symm (h : Cg p a b) : Cg p b a := let ⟨k, e⟩ := h; ⟨-k, by grind⟩
theorem Cg.trans (h : Cg p a b) (g : Cg p b c) : Cg p a c := let ⟨k, e⟩ := h; let ⟨l, f⟩ := g; ⟨k + l, by grind⟩
theorem Cg.add (h : Cg p a b) (g : Cg p c d) : Cg p (a + c) (b + d) := let ⟨k, e⟩ := h; let ⟨l, f⟩ := g; ⟨k + l, by grind⟩
theorem Cg.sub (h : Cg p a b) (g : Cg p c d) : Cg p (a - c) (b - d) := let ⟨k, e⟩ := h; let ⟨l, f⟩ := g; ⟨k - l, by grind⟩
theorem Cg.mul (h : Cg p a b) (g : Cg p c d) : Cg p (a * c) (b * d) := let ⟨k, e⟩ := h; let ⟨l, f⟩ := g; ⟨k * d + b * l + p * k * l, by grind⟩
theorem Cg.mod : Cg p (a % p) a := ⟨-(a / p), by have := Int.mul_ediv_add_emod a p; grind⟩
theorem Cg.mod_eq (h : Cg p a b) : a % p = b % p := by
  obtain ⟨k, e⟩ := h
  rw [e, Int.add_mul_emod_self_left]
theorem Cg.of_mod (h : a % p = b % p) : Cg p a b := Cg.mod.symm.trans ((Cg.of_eq h).trans Cg.mod)
theorem cg_iff : Cg p a b ↔ a % p = b % p := ⟨Cg.mod_eq, Cg.of_mod⟩
theorem Cg.small (h : Cg p a b) (a0 : 0 ≤ a) (a1 : a < p) (b0 : 0 ≤ b) (b1 : b < p) : a = b := by
  have := h.mod_eq
  rwa [Int.emod_eq_of_lt a0 a1, Int.emod_eq_of_lt b0 b1] at this
theorem Cg.sub0 (h : Cg p (a - b) 0) : Cg p a b := let ⟨k, e⟩ := h; ⟨k, by grind⟩
theorem Cg.diff (h : Cg p a b) : Cg p (a - b) 0 := let ⟨k, e⟩ := h; ⟨k, by grind⟩
/-- a product is nought only if a factor is -/
def Euc (p : Int) : Prop := 0 < p ∧ ∀ a b : Int, Cg p (a * b) 0 → Cg p a 0 ∨ Cg p b 0
theorem cg0_dvd : Cg p a 0 ↔ p ∣ a := ⟨fun ⟨k, e⟩ => ⟨k, by grind⟩, fun ⟨k, e⟩ => ⟨k, by grind⟩⟩
end
theorem prime_div {p d : Int} (h : PrimeI p) (d2 : 2 ≤ d) (dv : d ∣ p) : d = p := by
  obtain ⟨e, he⟩ := dv
  have p2 := h.1
  have e0 : 0 < e := by
    rcases Int.lt_trichotomy e 0 with z | z | z
    · have : d * e < 0 := Int.mul_neg_of_pos_of_neg (by omega) z
      omega
    · rw [z, Int.mul_zero] at he; omega
    · exact z
  by_cases e1 : e = 1
  · rw [e1, Int.mul_one] at he; exact he.symm
  · exfalso
    by_cases c : d ≤ e
    · have : d * d ≤ d * e := Int.mul_le_mul_of_nonneg_left c (by omega)
      refine h.2 d d2 (by omega) ?_
      rw [he]; exact Int.mul_emod_right d e
    · have : e * e ≤ d * e := Int.mul_le_mul_of_nonneg_right (by omega) (by omega)
      refine h.2 e (by omega) (by omega) ?_
      rw [he]; exact Int.mul_emod_left d e
theorem euc {p : Int} (h : PrimeI p) : Euc p := by
  refine ⟨by have := h.1; omega, fun a b hab => ?_⟩
  rw [cg0_dvd] at hab ⊢
  rw [cg0_dvd]
  by_cases c : p ∣ a
  · exact .inl c
  · refine .inr ?_
    have g : Int.gcd p a = 1 := by
      by_cases g2 : 2 ≤ (Int.gcd p a : Int)
      · have := prime_div h g2 (Int.gcd_dvd_left ..)
        exact absurd (this ▸ Int.gcd_dvd_right .. : p ∣ a) c
      · have : Int.gcd p a ≠ 0 := by
          intro z
          have := Int.gcd_eq_zero_iff.mp z
          have := h.1
          omega
        omega
    have : p.natAbs ∣ a.natAbs * b.natAbs := by rw [← Int.natAbs_mul]; exact Int.natAbs_dvd_natAbs.mpr hab
    have := (Nat.Coprime.dvd_of_dvd_mul_left (show Nat.Coprime p.natAbs a.natAbs from g) this)
    exact Int.natAbs_dvd_natAbs.mp this

/-! ### rows: the written out form, the elder form -/
def Tc (x : Int) : List Int → Nat → Int
  | [], _ => 0
  | a :: g, 0 => x * Tc x g 0 + a
  | a :: g, j + 1 => x * Tc x g (j + 1) + Tc x g j
def Fr (f : List Int) (j : Nat) : Int := f.reverse.getD j 0
def Rw (p x : Int) (f : List Int) (j : Nat) : Int := if x = p then Fr f j else Tc x f j
theorem Tc_0 {x a : Int} {g : List Int} : Tc x (a :: g) 0 = x * Tc x g 0 + a := by rw [Tc]
theorem Tc_s {x a : Int} {g : List Int} {j : Nat} : Tc x (a :: g) (j + 1) = x * Tc x g (j + 1) + Tc x g j := by rw [Tc]
theorem Tc_out {x : Int} : ∀ {f : List Int} {j : Nat}, f.length ≤ j → Tc x f j = 0
  | [], _, _ => by unfold Tc; rfl
  | a :: g, j + 1, h => by
    rw [List.length_cons] at h
    unfold Tc
    rw [Tc_out (f := g) (j := j + 1) (by omega), Tc_out (f := g) (j := j) (by omega)]; simp
  | a :: g, 0, h => by rw [List.length_cons] at h; omega
theorem getD_map_range {n : Nat} {u : Nat → Int} {i : Nat} : ((List.range n).map u).getD i 0 = if i < n then u i else 0 := by
  rw [List.getD_eq_getElem?_getD]
  by_cases h : i < n
  · rw [List.getElem?_map, List.getElem?_range h, if_pos h]; rfl
  · rw [List.getElem?_eq_none (by simpa using h), if_neg h]; rfl
theorem getD_app0 {L : List Int} {i : Nat} : (L ++ [0]).getD i 0 = L.getD i 0 := by
  rw [List.getD_eq_getElem?_getD, List.getD_eq_getElem?_getD]
  by_cases h : i < L.length
  · rw [List.getElem?_append_left h]
  · rw [List.getElem?_append_right (by omega), List.getElem?_eq_none (l := L) (by omega)]
    cases i - L.length with
    | zero => rfl
    | succ n => rfl
theorem taylL_eq {p x : Int} : ∀ {f : List Int}, taylL p x f = (List.range f.length).map fun j => Tc x f j % p
  | [] => rfl
  | a :: g => by
    unfold taylL stepL shiftL
    rw [taylL_eq (f := g)]
    simp only [getD_app0, getD_map_range, List.length_map, List.length_range]
    refine List.ext_getElem? fun j => ?_
    by_cases hj : j < g.length + 1
    · rw [List.length_cons, List.getElem?_map, List.getElem?_range hj, Option.map_some]
      have e1 : ∀ i, (if i < g.length then Tc x g i % p else 0) = Tc x g i % p := fun i => by
        split
        · rfl
        · rw [Tc_out (by omega), Int.zero_emod]
      simp only [e1]
      cases j with
      | zero =>
        rw [List.getElem?_set_self (by simp)]
        rw [if_pos (by omega), if_neg (by omega)]
        refine congrArg some ?_
        show _ = (x * Tc x g 0 + a) % p
        rw [Int.emod_add_emod]
        exact ((((Cg.refl (p := p) (a := x)).mul Cg.mod).add Cg.refl).add Cg.refl |>.trans (Cg.of_eq (by grind))).mod_eq
      | succ j =>
        rw [List.getElem?_set_ne (by omega), List.getElem?_map, List.getElem?_range hj, Option.map_some]
        refine congrArg some ?_
        show (x * (Tc x g (j + 1) % p) + if j + 1 > 0 then Tc x g (j + 1 - 1) % p else 0) % p = (x * Tc x g (j + 1) + Tc x g j) % p
        rw [if_pos (by omega), Nat.add_sub_cancel]
        exact (((Cg.refl (p := p) (a := x)).mul Cg.mod).add Cg.mod).mod_eq
    · rw [List.getElem?_eq_none (by simpa using hj), List.getElem?_eq_none (by simpa using hj)]
theorem row_at {p x : Int} {f : List Int} {j : Nat} (hj : j < f.length) (hr : ∀ y ∈ f, 0 ≤ y ∧ y < p) : (rowL p x f)[j]? = some (Rw p x f j % p) := by
  unfold rowL Rw
  by_cases c : x = p
  · rw [if_pos c, if_pos c]
    unfold Fr
    rw [List.getD_eq_getElem?_getD, List.getElem?_eq_getElem (by simpa using hj)]
    have m := hr _ (List.mem_reverse.mp (List.getElem_mem (l := f.reverse) (n := j) (by simpa using hj)))
    refine congrArg some ?_
    show _ = _ % p
    exact (Int.emod_eq_of_lt m.1 m.2).symm
  · rw [if_neg c, if_neg c, taylL_eq, List.getElem?_map, List.getElem?_range hj]; rfl

/-! ### a form out of its value at a point and a shorter form -/
def cmbZ (x : Int) : Int → List Int → List Int
  | r, [] => [r]
  | r, q :: Q => (r - x * q) :: cmbZ x q Q
theorem Tc_cmb {x : Int} : ∀ {Q : List Int} {r : Int} {y : Int} {j : Nat}, Tc y (cmbZ x r Q) j = (if j = 0 then r else Tc y Q (j - 1)) + (y - x) * Tc y Q j
  | [], r, y, 0 => by simp [cmbZ, Tc]
  | [], r, y, j + 1 => by simp [cmbZ, Tc]
  | q :: Q, r, y, 0 => by
    rw [show cmbZ x r (q :: Q) = (r - x * q) :: cmbZ x q Q from rfl, Tc_0, Tc_cmb (Q := Q), Tc_0]
    simp only [if_true]
    grind
  | q :: Q, r, y, 1 => by
    rw [show cmbZ x r (q :: Q) = (r - x * q) :: cmbZ x q Q from rfl, Tc_s, Tc_cmb (Q := Q) (j := 0 + 1), Tc_cmb (Q := Q) (j := 0), Tc_s]
    simp only [Nat.zero_add, Nat.sub_self, Tc_0]
    simp
    grind
  | q :: Q, r, y, j + 2 => by
    rw [show cmbZ x r (q :: Q) = (r - x * q) :: cmbZ x q Q from rfl, Tc_s, Tc_cmb (Q := Q) (j := j + 1 + 1), Tc_cmb (Q := Q) (j := j + 1), Tc_s]
    rw [if_neg (by omega), if_neg (by omega), if_neg (by omega)]
    rw [show j + 2 - 1 = j + 1 by omega, show j + 1 - 1 = j by omega, Tc_s]
    grind
theorem cmbZ_len {x : Int} : ∀ {Q : List Int} {r : Int}, (cmbZ x r Q).length = Q.length + 1
  | [], r => rfl
  | q :: Q, r => by unfold cmbZ; rw [List.length_cons, cmbZ_len, List.length_cons]
/-- the coefficient of a shifted form -/
def cf (f : List Int) (c : Nat) : Int := f.getD c 0
theorem cf_cmb {x : Int} : ∀ {Q : List Int} {r : Int} {c : Nat}, cf (cmbZ x r Q) c = (if c = 0 then r else cf Q (c - 1)) - x * cf Q c
  | [], r, 0 => by simp [cmbZ, cf]
  | [], r, c + 1 => by simp [cmbZ, cf]
  | q :: Q, r, 0 => by simp [cmbZ, cf]
  | q :: Q, r, 1 => by
    have := cf_cmb (x := x) (Q := Q) (r := q) (c := 0)
    unfold cmbZ
    show cf (cmbZ x q Q) 0 = _
    rw [this]; simp [cf]
  | q :: Q, r, c + 2 => by
    have := cf_cmb (x := x) (Q := Q) (r := q) (c := c + 1)
    unfold cmbZ
    show cf (cmbZ x q Q) (c + 1) = _
    rw [this, if_neg (by omega), if_neg (by omega)]
    rfl
theorem Fr_cf {f : List Int} {j : Nat} (h : j < f.length) : Fr f j = cf f (f.length - 1 - j) := by
  unfold Fr cf
  rw [List.getD_eq_getElem?_getD, List.getElem?_reverse h, List.getD_eq_getElem?_getD]
theorem Fr_out {f : List Int} {j : Nat} (h : f.length ≤ j) : Fr f j = 0 := by
  unfold Fr
  rw [List.getD_eq_getElem?_getD, List.getElem?_eq_none (by simpa using h)]; rfl
theorem Fr_cmb {x r : Int} {Q : List Int} {j : Nat} (h : j ≤ Q.length) : Fr (cmbZ x r Q) j = Fr Q j - (if j = 0 then 0 else x * Fr Q (j - 1)) + (if j = Q.length then r else 0) := by
  rw [Fr_cf (by rw [cmbZ_len]; omega), cmbZ_len, cf_cmb]
  by_cases z : j = Q.length
  · subst z
    rw [if_pos (by omega), if_pos rfl, Fr_out (Nat.le_refl _)]
    cases Q with
    | nil => simp [cf]
    | cons q Q =>
      rw [if_neg (by simp), Fr_cf (by simp)]
      simp only [List.length_cons]
      rw [show Q.length + 1 + 1 - 1 - (Q.length + 1) = 0 by omega, show Q.length + 1 - 1 - (Q.length + 1 - 1) = 0 by omega]
      grind
  · rw [if_neg (by omega), if_neg z, Fr_cf (by omega)]
    by_cases y : j = 0
    · subst y
      rw [if_pos rfl, show Q.length + 1 - 1 - 0 - 1 = Q.length - 1 - 0 by omega]
      have : cf Q (Q.length + 1 - 1 - 0) = 0 := by unfold cf; rw [List.getD_eq_getElem?_getD, List.getElem?_eq_none (by omega)]; rfl
      rw [this]; grind
    · rw [if_neg y, Fr_cf (by omega), show Q.length + 1 - 1 - j - 1 = Q.length - 1 - j by omega, show Q.length - 1 - (j - 1) = Q.length + 1 - 1 - j by omega]
      grind

/-! ### modulo p: a form is made of a number and a shorter form in just one way -/
def cmbL (p x : Int) : Int → List Int → List Int
  | r, [] => [r % p]
  | r, q :: Q => ((r - x * q) % p) :: cmbL p x q Q
theorem cmbL_eq {p x : Int} : ∀ {Q : List Int} {r : Int}, cmbL p x r Q = (cmbZ x r Q).map (· % p)
  | [], r => rfl
  | q :: Q, r => by unfold cmbL cmbZ; rw [List.map_cons, cmbL_eq]
def cmb (p x r : Int) (Q : List Int) : List Int := if x = p then Q ++ [r] else cmbL p x r Q
theorem cmb_len {p x r : Int} {Q : List Int} : (cmb p x r Q).length = Q.length + 1 := by
  unfold cmb
  split
  · simp
  · rw [cmbL_eq, List.length_map, cmbZ_len]
def divL (p x : Int) : List Int → Int × List Int
  | [] => (0, [])
  | [a] => (a, [])
  | a :: b :: f => ((a + x * (divL p x (b :: f)).1) % p, (divL p x (b :: f)).1 :: (divL p x (b :: f)).2)
abbrev Ok (p : Int) (f : List Int) : Prop := ∀ y ∈ f, 0 ≤ y ∧ y < p
theorem divL_ok {p x : Int} (p0 : 0 < p) : ∀ {f : List Int}, f ≠ [] → Ok p f → (0 ≤ (divL p x f).1 ∧ (divL p x f).1 < p) ∧ Ok p (divL p x f).2 ∧ (divL p x f).2.length + 1 = f.length ∧ cmbL p x (divL p x f).1 (divL p x f).2 = f
  | [a], _, h => by
    have := h a (by simp)
    refine ⟨this, (fun y hy => by cases hy), rfl, ?_⟩
    show [a % p] = [a]
    rw [Int.emod_eq_of_lt this.1 this.2]
  | a :: b :: f, _, h => by
    obtain ⟨h1, h2, h3, h4⟩ := divL_ok (x := x) p0 (f := b :: f) (by simp) fun y hy => h y (List.mem_cons_of_mem _ hy)
    have ha := h a (by simp)
    unfold divL
    refine ⟨⟨Int.emod_nonneg _ (by omega), Int.emod_lt_of_pos _ p0⟩, fun y hy => ?_, by simp only [List.length_cons] at h3 ⊢; omega, ?_⟩
    · rcases List.mem_cons.mp hy with e | e
      · rw [e]; exact h1
      · exact h2 y e
    · show ((a + x * (divL p x (b :: f)).1) % p - x * (divL p x (b :: f)).1) % p :: cmbL p x (divL p x (b :: f)).1 (divL p x (b :: f)).2 = _
      rw [h4]
      have : ((a + x * (divL p x (b :: f)).1) % p - x * (divL p x (b :: f)).1) % p = a := by
        have : Cg p ((a + x * (divL p x (b :: f)).1) % p - x * (divL p x (b :: f)).1) a := (Cg.mod.sub Cg.refl).trans (Cg.of_eq (by grind))
        rw [this.mod_eq, Int.emod_eq_of_lt ha.1 ha.2]
      rw [this]
theorem cmb_ex {p x : Int} (p0 : 0 < p) {n : Nat} {f : List Int} (hl : f.length = n + 1) (h : Ok p f) : ∃ r Q, f = cmb p x r Q ∧ (0 ≤ r ∧ r < p) ∧ Ok p Q ∧ Q.length = n := by
  unfold cmb
  by_cases c : x = p
  · have hn : f ≠ [] := fun z => by rw [z] at hl; cases hl
    refine ⟨f.getLast hn, f.dropLast, ?_, h _ (List.getLast_mem hn), fun y hy => h y (List.dropLast_subset _ hy), by rw [List.length_dropLast]; omega⟩
    rw [if_pos c, List.dropLast_concat_getLast]
  · obtain ⟨h1, h2, h3, h4⟩ := divL_ok (x := x) p0 (f := f) (fun z => by rw [z] at hl; cases hl) h
    exact ⟨_, _, by rw [if_neg c, h4], h1, h2, by omega⟩
theorem cmb_ok {p x r : Int} {Q : List Int} (p0 : 0 < p) (hr : 0 ≤ r ∧ r < p) (h : Ok p Q) : Ok p (cmb p x r Q) := by
  unfold cmb
  split
  · intro y hy
    rcases List.mem_append.mp hy with e | e
    · exact h y e
    · rw [List.mem_singleton.mp e]; exact hr
  · intro y hy
    rw [cmbL_eq] at hy
    obtain ⟨z, _, e⟩ := List.mem_map.mp hy
    rw [← e]
    exact ⟨Int.emod_nonneg _ (by omega), Int.emod_lt_of_pos _ p0⟩
theorem cmbL_inj {p x : Int} : ∀ {Q Q' : List Int} {r r' : Int}, Q.length = Q'.length → (0 ≤ r ∧ r < p) → (0 ≤ r' ∧ r' < p) → Ok p Q → Ok p Q' → cmbL p x r Q = cmbL p x r' Q' → r = r' ∧ Q = Q'
  | [], [], r, r', _, h1, h2, _, _, e => by
    have : r % p = r' % p := (List.cons.inj e).1
    rw [Int.emod_eq_of_lt h1.1 h1.2, Int.emod_eq_of_lt h2.1 h2.2] at this
    exact ⟨this, rfl⟩
  | q :: Q, q' :: Q', r, r', hl, h1, h2, h3, h4, e => by
    obtain ⟨e1, e2⟩ := List.cons.inj e
    obtain ⟨a, b⟩ := cmbL_inj (Q := Q) (Q' := Q') (by simpa using hl) (h3 q (by simp)) (h4 q' (by simp)) (fun y hy => h3 y (List.mem_cons_of_mem _ hy)) (fun y hy => h4 y (List.mem_cons_of_mem _ hy)) e2
    subst a b
    have : Cg p r r' := by
      have := (Cg.of_mod e1).add (Cg.refl (p := p) (a := x * q))
      exact ((Cg.of_eq (by grind)).trans this).trans (Cg.of_eq (by grind))
    exact ⟨this.small h1.1 h1.2 h2.1 h2.2, rfl⟩
  | [], _ :: _, _, _, hl, _, _, _, _, _ => by simp at hl
  | _ :: _, [], _, _, hl, _, _, _, _, _ => by simp at hl
theorem cmb_inj {p x r r' : Int} {Q Q' : List Int} (hl : Q.length = Q'.length) (h1 : 0 ≤ r ∧ r < p) (h2 : 0 ≤ r' ∧ r' < p) (h3 : Ok p Q) (h4 : Ok p Q') (e : cmb p x r Q = cmb p x r' Q') : r = r' ∧ Q = Q' := by
  unfold cmb at e
  by_cases c : x = p
  · rw [if_pos c, if_pos c] at e
    have := List.append_inj e hl
    exact ⟨(List.cons.inj this.2).1, this.1⟩
  · rw [if_neg c, if_neg c] at e
    exact cmbL_inj hl h1 h2 h3 h4 e

/-! ### which rows agree -/
theorem Tc_mod {p x : Int} : ∀ {f : List Int} {j : Nat}, Cg p (Tc x (f.map (· % p)) j) (Tc x f j)
  | [], j => Cg.refl
  | a :: g, 0 => by
    rw [List.map_cons, Tc_0, Tc_0]
    exact ((Cg.refl (p := p) (a := x)).mul Tc_mod).add Cg.mod
  | a :: g, j + 1 => by
    rw [List.map_cons, Tc_s, Tc_s]
    exact ((Cg.refl (p := p) (a := x)).mul Tc_mod).add Tc_mod
theorem cf_mod {p : Int} {f : List Int} {c : Nat} : Cg p (cf (f.map (· % p)) c) (cf f c) := by
  unfold cf
  rw [List.getD_eq_getElem?_getD, List.getElem?_map, List.getD_eq_getElem?_getD]
  cases f[c]? with
  | none => exact Cg.refl
  | some y => exact Cg.mod
theorem Fr_mod {p : Int} {f : List Int} {j : Nat} : Cg p (Fr (f.map (· % p)) j) (Fr f j) := by
  by_cases h : j < f.length
  · rw [Fr_cf (by simpa using h), Fr_cf h, List.length_map]
    exact cf_mod
  · rw [Fr_out (by simpa using h), Fr_out (by omega)]
    exact Cg.refl
/-- what a longer form's own product tells at another point -/
def tail (y : Int) (n : Nat) (j : Nat) : Int := Tc y (List.replicate n 0 ++ [1]) j
theorem Tc_snoc {y t : Int} : ∀ {Q : List Int} {j : Nat}, Tc y (Q ++ [t]) j = Tc y Q j + t * tail y Q.length j
  | [], 0 => by simp [tail, Tc_0, Tc]
  | [], j + 1 => by simp [tail, Tc_s, Tc]
  | q :: Q, 0 => by
    rw [List.cons_append, Tc_0, Tc_0, Tc_snoc]
    unfold tail
    rw [List.length_cons, List.replicate_succ, List.cons_append, Tc_0]
    grind
  | q :: Q, j + 1 => by
    rw [List.cons_append, Tc_s, Tc_s, Tc_snoc, Tc_snoc]
    unfold tail
    rw [List.length_cons, List.replicate_succ, List.cons_append, Tc_s]
    grind
theorem Fr_snoc {t : Int} {Q : List Int} {j : Nat} : Fr (Q ++ [t]) j = if j = 0 then t else Fr Q (j - 1) := by
  unfold Fr
  rw [List.reverse_append]
  cases j with
  | zero => rfl
  | succ j => rw [if_neg (by omega)]; rfl
/-- the row at the own point: the number, then the shorter form's row -/
theorem Rw_own {p x r : Int} {Q : List Int} {j : Nat} : Cg p (Rw p x (cmb p x r Q) j) (if j = 0 then r else Rw p x Q (j - 1)) := by
  unfold Rw cmb
  by_cases c : x = p
  · simp only [if_pos c]
    rw [Fr_snoc]; exact Cg.refl
  · simp only [if_neg c]
    rw [cmbL_eq]
    refine Tc_mod.trans (Cg.of_eq ?_)
    rw [Tc_cmb, Int.sub_self, Int.zero_mul, Int.add_zero]
theorem agree_of {p u : Int} {d e : Nat → Int} {v : Int} {l : Nat} (hp : Euc p) (hu : ¬ Cg p u 0) (h : ∀ j, j < l → Cg p (d j) (u * e j + if j = 0 then 0 else v * e (j - 1))) : (∀ j, j < l → Cg p (d j) 0) ↔ ∀ j, j < l → Cg p (e j) 0 := by
  constructor
  · intro q j
    induction j with
    | zero =>
      intro hj
      have a := (h 0 hj).symm.trans (q 0 hj)
      rw [if_pos rfl, Int.add_zero] at a
      exact (hp.2 _ _ a).resolve_left hu
    | succ j ih =>
      intro hj
      have a := (h (j + 1) hj).symm.trans (q (j + 1) hj)
      rw [if_neg (by omega), Nat.add_sub_cancel] at a
      have b := (Cg.refl (p := p) (a := v)).mul (ih (by omega))
      have c := a.sub b
      exact (hp.2 _ _ ((Cg.of_eq (by grind)).trans (c.trans (Cg.of_eq (by grind))))).resolve_left hu
  · intro q j hj
    have a := (Cg.refl (p := p) (a := u)).mul (q j hj)
    refine (h j hj).trans ?_
    by_cases z : j = 0
    · rw [if_pos z, Int.add_zero]; exact a.trans (Cg.of_eq (Int.mul_zero _))
    · rw [if_neg z]
      have b := (Cg.refl (p := p) (a := v)).mul (q (j - 1) (by omega))
      exact (a.add b).trans (Cg.of_eq (by grind))
/-- the row at another point agrees as the shorter form's row does -/
theorem Rw_other {p x y r : Int} {Q Q' : List Int} {l : Nat} (hp : Euc p) (hx : 0 ≤ x ∧ x ≤ p) (hy : 0 ≤ y ∧ y ≤ p) (ne : y ≠ x) (hQ : Q'.length = Q.length) (hl : l ≤ Q.length + 1) :
    (∀ j, j < l → Cg p (Rw p y (cmb p x r Q) j) (Rw p y (cmb p x r Q') j)) ↔ ∀ j, j < l → Cg p (Rw p y Q j) (Rw p y Q' j) := by
  have fin : ∀ u v : Int, ¬ Cg p u 0 → (∀ j, j < l → Cg p (Rw p y (cmb p x r Q) j - Rw p y (cmb p x r Q') j) (u * (Rw p y Q j - Rw p y Q' j) + if j = 0 then 0 else v * (Rw p y Q (j - 1) - Rw p y Q' (j - 1)))) → ((∀ j, j < l → Cg p (Rw p y (cmb p x r Q) j) (Rw p y (cmb p x r Q') j)) ↔ ∀ j, j < l → Cg p (Rw p y Q j) (Rw p y Q' j)) := by
    intro u v hu h
    have := agree_of (d := fun j => Rw p y (cmb p x r Q) j - Rw p y (cmb p x r Q') j) (e := fun j => Rw p y Q j - Rw p y Q' j) hp hu h
    exact ⟨fun q j hj => (this.mp (fun j hj => (q j hj).diff) j hj).sub0, fun q j hj => (this.mpr (fun j hj => (q j hj).diff) j hj).sub0⟩
  have p0 := hp.1
  by_cases cx : x = p
  · have cy : y ≠ p := fun z => ne (z.trans cx.symm)
    by_cases p1 : p = 1
    · subst p1
      exact ⟨fun _ j _ => ⟨_, (by grind : _ = _ + 1 * (Rw 1 y Q j - Rw 1 y Q' j))⟩, fun _ j _ => ⟨_, (by grind : _ = _ + 1 * (Rw 1 y (cmb 1 x r Q) j - Rw 1 y (cmb 1 x r Q') j))⟩⟩
    · refine fin 1 0 (fun z => ?_) fun j hj => ?_
      · have := z.small (by omega) (by omega) (by omega) (by omega); omega
      · unfold Rw cmb
        rw [if_neg cy, if_neg cy, if_neg cy, if_neg cy, if_pos cx, if_pos cx, Tc_snoc, Tc_snoc, hQ]
        refine Cg.of_eq ?_
        split <;> grind
  · by_cases cy : y = p
    · have p1 : p ≠ 1 ∨ p = 1 := by omega
      rcases p1 with p1 | p1
      · refine fin 1 (-x) (fun z => ?_) fun j hj => ?_
        · have := z.small (by omega) (by omega) (by omega) (by omega); omega
        · unfold Rw cmb
          rw [if_pos cy, if_pos cy, if_pos cy, if_pos cy, if_neg cx, if_neg cx, cmbL_eq, cmbL_eq]
          refine (Fr_mod.sub Fr_mod).trans (Cg.of_eq ?_)
          rw [Fr_cmb (by omega), Fr_cmb (by omega), hQ]
          split <;> grind
      · subst p1
        exact ⟨fun _ j _ => ⟨_, (by grind : _ = _ + 1 * (Rw 1 y Q j - Rw 1 y Q' j))⟩, fun _ j _ => ⟨_, (by grind : _ = _ + 1 * (Rw 1 y (cmb 1 x r Q) j - Rw 1 y (cmb 1 x r Q') j))⟩⟩
    · refine fin (y - x) 1 (fun z => ?_) fun j hj => ?_
      · have : y = x := z.sub0.small (by omega) (by omega) (by omega) (by omega)
        exact ne this
      · unfold Rw cmb
        rw [if_neg cy, if_neg cy, if_neg cy, if_neg cy, if_neg cx, if_neg cx, cmbL_eq, cmbL_eq]
        refine (Tc_mod.sub Tc_mod).trans (Cg.of_eq ?_)
        rw [Tc_cmb, Tc_cmb]
        split <;> grind
abbrev Cs := List (Int × Nat)
def flat : Cs → List Int
  | [] => []
  | (x, m) :: r => List.replicate m x ++ flat r
def Agr (p : Int) (cs : Cs) (f g : List Int) : Prop := ∀ c ∈ cs, ∀ j, j < c.2 → Cg p (Rw p c.1 f j) (Rw p c.1 g j)
def cmbs (p : Int) : List Int → List Int → List Int → List Int
  | x :: ss, r :: rs, g => cmb p x r (cmbs p ss rs g)
  | _, _, g => g
theorem cmbs_len {p : Int} : ∀ {ss rs g : List Int}, rs.length = ss.length → (cmbs p ss rs g).length = ss.length + g.length
  | [], [], g, _ => by simp [cmbs]
  | x :: ss, r :: rs, g, h => by unfold cmbs; rw [cmb_len, cmbs_len (by simpa using h), List.length_cons]; omega
  | [], _ :: _, _, h => by simp at h
  | _ :: _, [], _, h => by simp at h
theorem cmbs_ok {p : Int} (p0 : 0 < p) : ∀ {ss rs g : List Int}, Ok p rs → Ok p g → Ok p (cmbs p ss rs g)
  | [], _, g, _, h => by unfold cmbs; exact h
  | x :: ss, [], g, _, h => by unfold cmbs; exact h
  | x :: ss, r :: rs, g, h1, h2 => by unfold cmbs; exact cmb_ok p0 (h1 r (by simp)) (cmbs_ok p0 (fun y hy => h1 y (List.mem_cons_of_mem _ hy)) h2)
theorem flat_le {cs : Cs} {c : Int × Nat} (h : c ∈ cs) : c.2 ≤ (flat cs).length := by
  induction cs with
  | nil => cases h
  | cons d cs ih =>
    unfold flat
    rw [List.length_append, List.length_replicate]
    rcases List.mem_cons.mp h with e | e
    · rw [e]; omega
    · have := ih e; omega
theorem agr_iff {p : Int} (hp : Euc p) : ∀ {cs : Cs} {rs rs' g g' : List Int}, (cs.map (·.1)).Nodup → (∀ c ∈ cs, 0 ≤ c.1 ∧ c.1 ≤ p) → rs.length = (flat cs).length → rs'.length = (flat cs).length → g'.length = g.length → Ok p rs → Ok p rs' → (Agr p cs (cmbs p (flat cs) rs g) (cmbs p (flat cs) rs' g') ↔ rs = rs') := by
  intro cs
  induction cs with
  | nil =>
    intro rs rs' g g' _ _ h1 h2 _ _ _
    have e1 : rs = [] := List.eq_nil_of_length_eq_zero h1
    have e2 : rs' = [] := List.eq_nil_of_length_eq_zero h2
    subst e1 e2
    exact ⟨fun _ => rfl, fun _ c hc => by cases hc⟩
  | cons c cs ih =>
    obtain ⟨x, m⟩ := c
    induction m with
    | zero =>
      intro rs rs' g g' nd rg h1 h2 hg k1 k2
      rw [List.map_cons] at nd
      have := ih (rs := rs) (rs' := rs') (g := g) (g' := g') (List.nodup_cons.mp nd).2 (fun c hc => rg c (List.mem_cons_of_mem _ hc)) h1 h2 hg k1 k2
      rw [show flat ((x, 0) :: cs) = flat cs from rfl, ← this]
      exact ⟨fun q c hc => q c (List.mem_cons_of_mem _ hc), fun q c hc => by
        rcases List.mem_cons.mp hc with e | e
        · rw [e]; intro j hj; exact absurd hj (Nat.not_lt_zero j)
        · exact q c e⟩
    | succ m ihm =>
      intro rs rs' g g' nd rg h1 h2 hg k1 k2
      have ef : flat ((x, m + 1) :: cs) = x :: flat ((x, m) :: cs) := by unfold flat; rw [List.replicate_succ, List.cons_append]
      rw [ef, List.length_cons] at h1 h2
      cases rs with
      | nil => simp at h1
      | cons r rs =>
        cases rs' with
        | nil => simp at h2
        | cons r' rs' =>
          have h1' : rs.length = (flat ((x, m) :: cs)).length := by simpa using h1
          have h2' : rs'.length = (flat ((x, m) :: cs)).length := by simpa using h2
          have k1' : Ok p rs := fun y hy => k1 y (List.mem_cons_of_mem _ hy)
          have k2' : Ok p rs' := fun y hy => k2 y (List.mem_cons_of_mem _ hy)
          have step := ihm (rs := rs) (rs' := rs') (g := g) (g' := g') nd (fun c hc => by
            rcases List.mem_cons.mp hc with e | e
            · rw [e]; exact rg (x, m + 1) (by simp)
            · exact rg c (List.mem_cons_of_mem _ e)) h1' h2' hg k1' k2'
          rw [ef, show cmbs p (x :: flat ((x, m) :: cs)) (r :: rs) g = cmb p x r (cmbs p (flat ((x, m) :: cs)) rs g) from rfl, show cmbs p (x :: flat ((x, m) :: cs)) (r' :: rs') g' = cmb p x r' (cmbs p (flat ((x, m) :: cs)) rs' g') from rfl]
          have l1 := cmbs_len (p := p) (g := g) h1'
          have l2 := cmbs_len (p := p) (g := g') h2'
          generalize hQ : cmbs p (flat ((x, m) :: cs)) rs g = Q at step l1
          generalize hQ' : cmbs p (flat ((x, m) :: cs)) rs' g' = Q' at step l2
          have rx := rg (x, m + 1) (by simp)
          have rest : ∀ c ∈ cs, c.1 ≠ x ∧ c.2 ≤ Q.length + 1 := fun c hc => by
            rw [List.map_cons] at nd
            refine ⟨fun e => (List.nodup_cons.mp nd).1 (by
              have z := List.mem_map_of_mem (f := fun c : Int × Nat => c.1) hc
              rw [e] at z
              exact z), ?_⟩
            have := flat_le hc
            have : (flat cs).length ≤ (flat ((x, m) :: cs)).length := by
              conv => rhs; unfold flat
              rw [List.length_append]; omega
            omega
          constructor
          · intro q
            have q0 := q (x, m + 1) (by simp) 0 (Nat.succ_pos m)
            have rr : Cg p r r' := by
              have := (Rw_own (p := p) (x := x) (r := r) (Q := Q) (j := 0)).symm.trans (q0.trans Rw_own)
              rwa [if_pos rfl, if_pos rfl] at this
            have er := rr.small (k1 r (by simp)).1 (k1 r (by simp)).2 (k2 r' (by simp)).1 (k2 r' (by simp)).2
            subst er
            refine congrArg _ (step.mp fun c hc => ?_)
            rcases List.mem_cons.mp hc with e | e
            · subst e
              intro j hj
              have := q (x, m + 1) (by simp) (j + 1) (by show j + 1 < m + 1; exact Nat.succ_lt_succ hj)
              have := (Rw_own (p := p) (x := x) (r := r) (Q := Q) (j := j + 1)).symm.trans (this.trans Rw_own)
              rwa [if_neg (by omega), if_neg (by omega)] at this
            · obtain ⟨ne, le⟩ := rest c e
              exact (Rw_other hp rx (rg c (List.mem_cons_of_mem _ e)) ne (by omega) le).mp (q c (List.mem_cons_of_mem _ e))
          · intro e
            obtain ⟨e1, e2⟩ := List.cons.inj e
            subst e1 e2
            have q := step.mpr rfl
            intro c hc
            rcases List.mem_cons.mp hc with e | e
            · subst e
              intro j hj
              refine Rw_own.trans (Cg.trans ?_ Rw_own.symm)
              cases j with
              | zero => rw [if_pos rfl, if_pos rfl]; exact Cg.refl
              | succ j =>
                rw [if_neg (by omega), if_neg (by omega)]
                exact q (x, m) (by simp) j (Nat.lt_of_succ_lt_succ hj)
            · obtain ⟨ne, le⟩ := rest c e
              exact (Rw_other hp rx (rg c (List.mem_cons_of_mem _ e)) ne (by omega) le).mpr (q c (List.mem_cons_of_mem _ e))

/-! ### coefficients -/
/-- a line times a form, by coefficients -/
def Mx (p x : Int) (u : Nat → Int) (c : Nat) : Int := if x = p then u c else (if c = 0 then 0 else u (c - 1)) - x * u c
def MS (p : Int) : List Int → (Nat → Int) → Nat → Int
  | [], u => u
  | x :: ss, u => Mx p x (MS p ss u)
theorem Mx_comm {p x y : Int} {u : Nat → Int} : Mx p x (Mx p y u) = Mx p y (Mx p x u) := by
  funext c
  unfold Mx
  by_cases cx : x = p
  · by_cases cy : y = p
    · simp only [if_pos cx, if_pos cy]
    · simp only [if_pos cx, if_neg cy]
  · by_cases cy : y = p
    · simp only [if_neg cx, if_pos cy]
    · simp only [if_neg cx, if_neg cy]
      by_cases c0 : c = 0
      · subst c0; simp only [if_true]; grind
      · by_cases c1 : c = 1
        · subst c1; simp; grind
        · rw [if_neg c0, if_neg c0, if_neg (by omega)]; grind
theorem MS_comm {p x : Int} {u : Nat → Int} : ∀ {ss : List Int}, MS p ss (Mx p x u) = Mx p x (MS p ss u)
  | [] => rfl
  | y :: ss => by unfold MS; rw [MS_comm, Mx_comm]
def EqC (p : Int) (u v : Nat → Int) : Prop := ∀ c, Cg p (u c) (v c)
theorem Mx_cg {p x : Int} {u v : Nat → Int} (h : EqC p u v) : EqC p (Mx p x u) (Mx p x v) := fun c => by
  unfold Mx
  split
  · exact h c
  · refine Cg.sub ?_ (Cg.refl.mul (h c))
    split
    · exact Cg.refl
    · exact h _
theorem MS_cg {p : Int} {u v : Nat → Int} (h : EqC p u v) : ∀ {ss : List Int}, EqC p (MS p ss u) (MS p ss v)
  | [] => h
  | x :: ss => by unfold MS; exact Mx_cg (MS_cg h)
theorem Mx_add {p x : Int} {u v : Nat → Int} : Mx p x (fun c => u c + v c) = fun c => Mx p x u c + Mx p x v c := by
  funext c
  unfold Mx
  by_cases cx : x = p
  · simp only [if_pos cx]
  · simp only [if_neg cx]
    by_cases c0 : c = 0
    · simp only [if_pos c0]; grind
    · simp only [if_neg c0]; grind
theorem Mx_mul {p x a : Int} {u : Nat → Int} : Mx p x (fun c => a * u c) = fun c => a * Mx p x u c := by
  funext c
  unfold Mx
  by_cases cx : x = p
  · simp only [if_pos cx]
  · simp only [if_neg cx]
    by_cases c0 : c = 0
    · simp only [if_pos c0]; grind
    · simp only [if_neg c0]; grind
def Sh (u : Nat → Int) (c : Nat) : Int := if c = 0 then 0 else u (c - 1)
theorem Mx_sh {p x : Int} {u : Nat → Int} : Mx p x (Sh u) = Sh (Mx p x u) := by
  funext c
  unfold Mx Sh
  by_cases cx : x = p
  · simp only [if_pos cx]
  · simp only [if_neg cx]
    by_cases c0 : c = 0
    · subst c0; simp
    · by_cases c1 : c = 1
      · subst c1; simp
      · rw [if_neg c0, if_neg c0, if_neg (by omega), if_neg (by omega)]
theorem MS_lin {p a : Int} {u v : Nat → Int} : ∀ {ss : List Int}, MS p ss (fun c => a * u c + Sh v c) = fun c => a * MS p ss u c + Sh (MS p ss v) c
  | [] => rfl
  | x :: ss => by
    unfold MS
    rw [MS_lin, Mx_add (u := fun c => a * MS p ss u c), Mx_mul, Mx_sh]
def dl (c : Nat) : Int := if c = 0 then 1 else 0
theorem cf_cons {a : Int} {g : List Int} : cf (a :: g) = fun c => a * dl c + Sh (cf g) c := by
  funext c
  unfold dl Sh
  cases c with
  | zero => simp [cf]
  | succ c => simp [cf]
theorem cf_nil : cf [] = fun _ => 0 := by funext c; simp [cf]
theorem MS_zero {p : Int} : ∀ {ss : List Int}, MS p ss (fun _ => 0) = fun _ => 0
  | [] => rfl
  | x :: ss => by
    unfold MS
    rw [MS_zero]
    funext c
    unfold Mx
    split
    · rfl
    · split <;> grind
/-- the numbers that a shorter form brings -/
def Phi (L : Nat → Int) : List Int → Nat → Int
  | [], _ => 0
  | a :: g, c => a * L c + if c = 0 then 0 else Phi L g (c - 1)
theorem MS_phi {p : Int} {ss : List Int} : ∀ {g : List Int}, MS p ss (cf g) = Phi (MS p ss dl) g
  | [] => by rw [cf_nil, MS_zero]; rfl
  | a :: g => by
    rw [cf_cons, MS_lin, MS_phi]
    rfl
theorem cf_snoc {Q : List Int} {r : Int} {c : Nat} : cf (Q ++ [r]) c = cf Q c + if c = Q.length then r else 0 := by
  unfold cf
  rw [List.getD_eq_getElem?_getD, List.getD_eq_getElem?_getD]
  by_cases h : c < Q.length
  · rw [List.getElem?_append_left h, if_neg (by omega), Int.add_zero]
  · rw [List.getElem?_append_right (by omega), List.getElem?_eq_none (l := Q) (by omega)]
    by_cases e : c = Q.length
    · rw [if_pos e, e, Nat.sub_self]; simp
    · rw [if_neg e, List.getElem?_eq_none (by simp; omega)]; rfl
def rt (p x r : Int) (n c : Nat) : Int := if x = p then (if c = n then r else 0) else (if c = 0 then r else 0)
theorem cf_cmb1 {p x r : Int} {Q : List Int} {c : Nat} : Cg p (cf (cmb p x r Q) c) (Mx p x (cf Q) c + rt p x r Q.length c) := by
  unfold cmb Mx rt
  by_cases cx : x = p
  · rw [if_pos cx, if_pos cx, if_pos cx, cf_snoc]; exact Cg.refl
  · rw [if_neg cx, if_neg cx, if_neg cx, cmbL_eq]
    refine cf_mod.trans (Cg.of_eq ?_)
    rw [cf_cmb]
    by_cases c0 : c = 0
    · simp only [if_pos c0]; grind
    · simp only [if_neg c0]; grind
/-- what the numbers of the rows bring -/
def Bs (p : Int) : List Int → List Int → Nat → Nat → Int
  | x :: ss, r :: rs, n, c => Mx p x (Bs p ss rs n) c + rt p x r (ss.length + n) c
  | _, _, _, _ => 0
theorem cf_cmbs {p : Int} : ∀ {ss rs g : List Int}, rs.length = ss.length → EqC p (cf (cmbs p ss rs g)) (fun c => Bs p ss rs g.length c + MS p ss (cf g) c)
  | [], [], g, _ => fun c => by unfold cmbs Bs MS; exact Cg.of_eq (by grind)
  | x :: ss, r :: rs, g, h => fun c => by
    have h' : rs.length = ss.length := by simpa using h
    have ih := cf_cmbs (p := p) (g := g) h'
    unfold cmbs Bs MS
    refine cf_cmb1.trans ?_
    rw [cmbs_len h']
    refine ((Mx_cg ih c).add Cg.refl).trans (Cg.of_eq ?_)
    rw [Mx_add]
    grind
  | [], _ :: _, _, h => by simp at h
  | _ :: _, [], _, h => by simp at h
theorem pl_new {f : List Int} {a b : Int} {n c : Nat} : (if n ≤ c then f.getD n 0 * [a, b].getD (c - n) 0 else 0) = (if c = n then cf f n * a else 0) + if c = n + 1 then cf f n * b else 0 := by
  rcases Nat.lt_trichotomy c n with h | h | h
  · simp only [if_neg (show ¬ n ≤ c by omega), if_neg (show ¬ c = n by omega), if_neg (show ¬ c = n + 1 by omega)]; rfl
  · subst h
    simp only [if_pos (Nat.le_refl c), if_pos, if_neg (show ¬ c = c + 1 by omega), Nat.sub_self]
    show f.getD c 0 * a = cf f c * a + 0
    unfold cf; grind
  · by_cases k : c = n + 1
    · subst k
      simp only [if_pos (show n ≤ n + 1 by omega), if_neg (show ¬ n + 1 = n by omega), if_pos, show n + 1 - n = 1 by omega]
      show f.getD n 0 * b = 0 + cf f n * b
      unfold cf; grind
    · have e : [a, b].getD (c - n) 0 = 0 := by rw [List.getD_eq_getElem?_getD, List.getElem?_eq_none (by simp; omega)]; rfl
      simp only [if_pos (show n ≤ c by omega), if_neg (show ¬ c = n by omega), if_neg k, e]; grind
theorem part_line {f : List Int} {a b : Int} : ∀ {n c : Nat}, part f [a, b] n c = (if c < n then cf f c * a else 0) + if 1 ≤ c ∧ c - 1 < n then cf f (c - 1) * b else 0
  | 0, c => by simp [part]
  | n + 1, c => by
    show part f [a, b] n c + (if n ≤ c then f.getD n 0 * [a, b].getD (c - n) 0 else 0) = _
    rw [part_line, pl_new]
    have e1 : (if c < n + 1 then cf f c * a else 0) = (if c < n then cf f c * a else 0) + if c = n then cf f n * a else 0 := by
      rcases Nat.lt_trichotomy c n with h | h | h
      · simp only [if_pos h, if_pos (show c < n + 1 by omega), if_neg (show ¬ c = n by omega)]; grind
      · subst h; simp only [if_pos (show c < c + 1 by omega), if_neg (show ¬ c < c by omega), if_pos]; grind
      · simp only [if_neg (show ¬ c < n by omega), if_neg (show ¬ c < n + 1 by omega), if_neg (show ¬ c = n by omega)]; grind
    have e2 : (if 1 ≤ c ∧ c - 1 < n + 1 then cf f (c - 1) * b else 0) = (if 1 ≤ c ∧ c - 1 < n then cf f (c - 1) * b else 0) + if c = n + 1 then cf f n * b else 0 := by
      by_cases k : c = n + 1
      · subst k
        simp only [if_pos (show 1 ≤ n + 1 ∧ n + 1 - 1 < n + 1 by omega), if_neg (show ¬ (1 ≤ n + 1 ∧ n + 1 - 1 < n) by omega), if_pos, Nat.add_sub_cancel]; grind
      · rw [if_neg k, Int.add_zero]
        by_cases h : 1 ≤ c ∧ c - 1 < n
        · rw [if_pos h, if_pos (by omega)]
        · rw [if_neg h, if_neg (by omega)]
    rw [e1, e2]; grind
theorem cf_out {f : List Int} {c : Nat} (h : f.length ≤ c) : cf f c = 0 := by unfold cf; rw [List.getD_eq_getElem?_getD, List.getElem?_eq_none h]; rfl
theorem cf_times {p x : Int} {f : List Int} {c : Nat} : Cg p (cf (timesL p f (lineL p x)) c) (Mx p x (cf f) c) := by
  unfold timesL
  rw [show cf ((List.range (f.length + (lineL p x).length - 1)).map fun c => part f (lineL p x) f.length c % p) c = _ from getD_map_range, lineL_len]
  have key : Cg p (if c < f.length + 2 - 1 then part f (lineL p x) f.length c % p else 0) (part f (lineL p x) f.length c) := by
    split
    · exact Cg.mod
    · refine Cg.of_eq ?_
      unfold lineL
      split
      · rw [part_line, if_neg (by omega), if_neg (by omega)]; rfl
      · rw [part_line, if_neg (by omega), if_neg (by omega)]; rfl
  refine key.trans ?_
  have e1 : ∀ a : Int, (if c < f.length then cf f c * a else 0) = cf f c * a := fun a => by
    split
    · rfl
    · rw [cf_out (by omega)]; grind
  have e2 : ∀ b : Int, (if 1 ≤ c ∧ c - 1 < f.length then cf f (c - 1) * b else 0) = if c = 0 then 0 else cf f (c - 1) * b := fun b => by
    by_cases z : c = 0
    · rw [if_pos z, if_neg (by omega)]
    · rw [if_neg z]
      split
      · rfl
      · rw [cf_out (f := f) (c := c - 1) (by omega)]; grind
  unfold lineL Mx
  by_cases cx : x = p
  · rw [if_pos cx, if_pos cx, part_line, e1, e2]
    refine Cg.of_eq ?_
    split <;> grind
  · rw [if_neg cx, if_neg cx, part_line, e1, e2]
    have := (Cg.refl (p := p) (a := cf f c)).mul (Cg.mod (p := p) (a := -x))
    refine (this.add Cg.refl).trans (Cg.of_eq ?_)
    split <;> grind
theorem prod_cf {p : Int} {ss : List Int} : EqC p (cf (prodS p ss)) (MS p ss dl) := by
  have : ∀ (ss acc : List Int), EqC p (cf (ss.foldl (fun acc x => timesL p acc (lineL p x)) acc)) (MS p ss (cf acc)) := by
    intro ss
    induction ss with
    | nil => intro acc c; exact Cg.refl
    | cons x ss ih =>
      intro acc c
      rw [List.foldl_cons]
      refine (ih _ c).trans ?_
      have h : EqC p (cf (timesL p acc (lineL p x))) (Mx p x (cf acc)) := fun c => cf_times
      refine (MS_cg h c).trans (Cg.of_eq ?_)
      rw [MS_comm]; rfl
  intro c
  refine (this ss [1] c).trans (Cg.of_eq ?_)
  have : cf [1] = dl := by
    rw [cf_cons, cf_nil]
    funext c
    unfold Sh
    split <;> grind
  rw [this]
end Dx

/-! PCount: all batches counted. No program in sight. -/
namespace Dx
theorem rgI_mem {p y : Int} : y ∈ rgI p ↔ 0 ≤ y ∧ y < p := by
  unfold rgI
  rw [List.mem_map]
  constructor
  · rintro ⟨i, hi, rfl⟩
    have := List.mem_range.mp hi
    omega
  · intro h
    exact ⟨y.toNat, List.mem_range.mpr (by omega), by omega⟩
theorem rgI_nodup {p : Int} : (rgI p).Nodup := List.pairwise_map.mpr (List.nodup_range.imp fun {a b} ne e => ne (by omega))
theorem snoc_of {n : Nat} {b : List Int} (h : b.length = n + 1) : ∃ c y, b = c ++ [y] ∧ c.length = n := by
  have hn : b ≠ [] := fun z => by rw [z] at h; cases h
  exact ⟨b.dropLast, b.getLast hn, (List.dropLast_concat_getLast hn).symm, by rw [List.length_dropLast]; omega⟩
theorem allT_iff {p : Int} : ∀ {n : Nat} {b : List Int}, b ∈ allT p n ↔ b.length = n ∧ Ok p b := by
  intro n
  induction n with
  | zero =>
    intro b
    refine ⟨allT_mem, fun ⟨h, _⟩ => ?_⟩
    rw [List.eq_nil_of_length_eq_zero h]
    exact List.mem_singleton.mpr rfl
  | succ n ih =>
    intro b
    refine ⟨allT_mem, fun ⟨h, k⟩ => ?_⟩
    obtain ⟨c, y, rfl, hc⟩ := snoc_of h
    unfold allT
    exact List.mem_flatMap.mpr ⟨c, ih.mpr ⟨hc, fun z hz => k z (List.mem_append.mpr (.inl hz))⟩, List.mem_map.mpr ⟨y, rgI_mem.mpr (k y (by simp)), rfl⟩⟩
theorem allT_nodup {p : Int} : ∀ {n : Nat}, (allT p n).Nodup
  | 0 => List.pairwise_cons.mpr ⟨(fun _ h => by cases h), List.Pairwise.nil⟩
  | n + 1 => by
    unfold allT
    refine List.pairwise_flatMap.mpr ⟨fun b _ => ?_, ?_⟩
    · exact List.pairwise_map.mpr (rgI_nodup.imp fun {x y} ne e => ne (by simpa using e))
    · refine List.Pairwise.imp (R := fun a b => a ≠ b) ?_ allT_nodup
      intro a b ne x hx y hy e
      obtain ⟨u, _, rfl⟩ := List.mem_map.mp hx
      obtain ⟨v, _, rfl⟩ := List.mem_map.mp hy
      exact ne (List.append_inj' e rfl).1
theorem pigeon {α : Type} [BEq α] [LawfulBEq α] : ∀ {l m : List α}, l.Nodup → (∀ x ∈ l, x ∈ m) → m.length ≤ l.length → ∀ x ∈ m, x ∈ l
  | [], m, _, _, h, x, hx => by
    have : m = [] := List.eq_nil_of_length_eq_zero (by simpa using h)
    rw [this] at hx; cases hx
  | a :: l, m, nd, sub, h, x, hx => by
    obtain ⟨na, nl⟩ := List.nodup_cons.mp nd
    have am := sub a (by simp)
    by_cases e : x = a
    · rw [e]; simp
    · refine List.mem_cons_of_mem _ (pigeon (l := l) (m := m.erase a) nl (fun y hy => ?_) ?_ x ?_)
      · exact (List.mem_erase_of_ne (fun z : y = a => na (by rw [← z]; exact hy))).mpr (sub y (List.mem_cons_of_mem _ hy))
      · rw [List.length_erase_of_mem am]; rw [List.length_cons] at h; omega
      · exact (List.mem_erase_of_ne e).mpr hx
theorem Phi_snoc {L : Nat → Int} {y : Int} : ∀ {b : List Int} {c : Nat}, Phi L (b ++ [y]) c = Phi L b c + if b.length ≤ c then y * L (c - b.length) else 0
  | [], c => by
    show y * L c + (if c = 0 then 0 else 0) = 0 + _
    rw [List.length_nil, if_pos (Nat.zero_le c), Nat.sub_zero]
    split <;> grind
  | a :: b, c => by
    show a * L c + (if c = 0 then 0 else Phi L (b ++ [y]) (c - 1)) = a * L c + (if c = 0 then 0 else Phi L b (c - 1)) + _
    rw [List.length_cons]
    by_cases z : c = 0
    · rw [if_pos z, if_pos z, if_neg (by omega)]; grind
    · rw [if_neg z, if_neg z, Phi_snoc]
      by_cases w : b.length ≤ c - 1
      · rw [if_pos w, if_pos (by omega), show c - 1 - b.length = c - (b.length + 1) by omega]; grind
      · rw [if_neg w, if_neg (by omega)]; grind
theorem Phi_zero {p : Int} {L : Nat → Int} : ∀ {g : List Int} {c : Nat}, (∀ i, i < g.length → i ≤ c → Cg p (L (c - i)) 0) → Cg p (Phi L g c) 0
  | [], c, _ => Cg.refl
  | a :: g, c, h => by
    have h0 := h 0 (by simp) (Nat.zero_le c)
    rw [Nat.sub_zero] at h0
    have m := (Cg.refl (p := p) (a := a)).mul h0
    unfold Phi
    by_cases z : c = 0
    · rw [if_pos z]; exact m.trans (Cg.of_eq (by grind)) |> fun q => (Cg.of_eq (by grind)).trans q
    · rw [if_neg z]
      have := Phi_zero (p := p) (L := L) (g := g) (c := c - 1) fun i hi hc => by
        have := h (i + 1) (by rw [List.length_cons]; omega) (by omega)
        rwa [show c - (i + 1) = c - 1 - i by omega] at this
      exact (m.add this).trans (Cg.of_eq (by grind))
def valsL (p : Int) (L : Nat → Int) (base : Int) (n c : Nat) : List Int := (allT p n).map fun g => (base + Phi L g c) % p
theorem sum_const {α : Type} {l : List α} {f : α → Nat} {k : Nat} (h : ∀ x ∈ l, f x = k) : (l.map f).sum = l.length * k := by
  rw [List.map_congr_left h, List.map_const', List.sum_replicate_nat]
theorem sum_mul {α : Type} {f g : α → Nat} {k : Nat} : ∀ {l : List α}, (∀ x ∈ l, f x = k * g x) → (l.map f).sum = k * (l.map g).sum
  | [], _ => by simp
  | x :: l, h => by
    rw [List.map_cons, List.sum_cons, List.map_cons, List.sum_cons, h x (by simp), sum_mul (l := l) fun y hy => h y (List.mem_cons_of_mem _ hy), Nat.mul_add]
theorem count_map_sum {α : Type} {f : α → Int} {v : Int} : ∀ {l : List α}, (l.map f).count v = (l.map fun x => if f x = v then 1 else 0).sum
  | [] => rfl
  | x :: l => by
    rw [List.map_cons, List.count_cons, List.map_cons, List.sum_cons, count_map_sum (l := l), Nat.add_comm]
    congr 1
    by_cases c : f x = v
    · rw [if_pos c, if_pos (by simpa using c)]
    · rw [if_neg c, if_neg (by simpa using c)]
theorem balanced {p : Int} (hp : Euc p) {L : Nat → Int} {c : Nat} {base v : Int} (hv : 0 ≤ v ∧ v < p) : ∀ {n : Nat}, (∃ i, i < n ∧ i ≤ c ∧ ¬ Cg p (L (c - i)) 0) → (valsL p L base n c).count v = p.toNat ^ (n - 1)
  | 0, h => by obtain ⟨i, hi, _⟩ := h; omega
  | n + 1, h => by
    have p0 := hp.1
    unfold valsL allT
    rw [List.map_flatMap, List.count_flatMap]
    by_cases a : n ≤ c ∧ ¬ Cg p (L (c - n)) 0
    · have one : ∀ b ∈ allT p n, (List.count v ∘ fun b => ((rgI p).map fun y => b ++ [y]).map fun g => (base + Phi L g c) % p) b = 1 := fun b hb => by
        have hbl := (allT_mem hb).1
        show List.count v (((rgI p).map fun y => b ++ [y]).map fun g => (base + Phi L g c) % p) = 1
        rw [List.map_map]
        have inj : ∀ x ∈ rgI p, ∀ y ∈ rgI p, (base + Phi L (b ++ [x]) c) % p = (base + Phi L (b ++ [y]) c) % p → x = y := fun x hx y hy e => by
          rw [Phi_snoc, Phi_snoc, hbl, if_pos a.1, if_pos a.1] at e
          have e2 := (Cg.of_mod e).diff
          have e3 : Cg p ((x - y) * L (c - n)) 0 := (Cg.of_eq (by grind)).trans e2
          have e4 := ((hp.2 _ _ e3).resolve_right a.2).sub0
          have hx := rgI_mem.mp hx
          have hy := rgI_mem.mp hy
          exact e4.small hx.1 hx.2 hy.1 hy.2
        have nd : ((rgI p).map ((fun g => (base + Phi L g c) % p) ∘ fun y => b ++ [y])).Nodup := by
          refine List.pairwise_map.mpr (List.Pairwise.imp_of_mem ?_ rgI_nodup)
          intro x y hx hy ne e
          exact ne (inj x hx y hy e)
        have mem : v ∈ (rgI p).map ((fun g => (base + Phi L g c) % p) ∘ fun y => b ++ [y]) := by
          refine pigeon (m := rgI p) nd (fun x hx => ?_) (by rw [List.length_map]; exact Nat.le_refl _) v (rgI_mem.mpr hv)
          obtain ⟨y, _, e⟩ := List.mem_map.mp hx
          rw [← e]
          exact rgI_mem.mpr ⟨Int.emod_nonneg _ (by omega), Int.emod_lt_of_pos _ p0⟩
        rw [nd.count, if_pos mem]
      rw [sum_const one, allT_len, Nat.mul_one]; rfl
    · have ex : ∃ i, i < n ∧ i ≤ c ∧ ¬ Cg p (L (c - i)) 0 := by
        obtain ⟨i, hi, hc, hn⟩ := h
        refine ⟨i, ?_, hc, hn⟩
        by_cases z : i = n
        · subst z; exact absurd ⟨hc, hn⟩ a
        · omega
      have ih := balanced hp (base := base) hv ex
      have pm : ∀ b ∈ allT p n, (List.count v ∘ fun b => ((rgI p).map fun y => b ++ [y]).map fun g => (base + Phi L g c) % p) b = p.toNat * (if (base + Phi L b c) % p = v then 1 else 0) := fun b hb => by
        have hbl := (allT_mem hb).1
        show List.count v (((rgI p).map fun y => b ++ [y]).map fun g => (base + Phi L g c) % p) = _
        rw [List.map_map]
        have same : ∀ y ∈ rgI p, ((fun g => (base + Phi L g c) % p) ∘ fun y => b ++ [y]) y = (base + Phi L b c) % p := fun y _ => by
          show (base + Phi L (b ++ [y]) c) % p = _
          rw [Phi_snoc, hbl]
          refine Cg.mod_eq ?_
          by_cases z : n ≤ c
          · rw [if_pos z]
            have l0 : Cg p (L (c - n)) 0 := Classical.byContradiction fun q => a ⟨z, q⟩
            have := (Cg.refl (p := p) (a := y)).mul l0
            exact (Cg.refl.add (Cg.refl.add this)).trans (Cg.of_eq (by grind))
          · rw [if_neg z, Int.add_zero]; exact Cg.refl
        rw [List.map_congr_left same, List.map_const', List.count_replicate, rgI_len]
        by_cases w : (base + Phi L b c) % p = v
        · rw [if_pos w, if_pos (by simpa using w), Nat.mul_one]
        · rw [if_neg w, if_neg (by simpa using w), Nat.mul_zero]
      rw [sum_mul pm, ← count_map_sum]
      show p.toNat * (valsL p L base n c).count v = _
      rw [ih]
      obtain ⟨i, hi, _⟩ := ex
      rw [show n + 1 - 1 = n - 1 + 1 by omega, Nat.pow_succ, Nat.mul_comm]
theorem all_same {p : Int} {L : Nat → Int} {c n : Nat} {base v : Int} (hz : ∀ i, i < n → i ≤ c → Cg p (L (c - i)) 0) (hv : base % p = v) : (valsL p L base n c).count v = p.toNat ^ n := by
  unfold valsL
  have : ∀ g ∈ allT p n, (base + Phi L g c) % p = v := fun g hg => by
    have hl := (allT_mem hg).1
    rw [← hv]
    refine Cg.mod_eq ?_
    exact (Cg.refl.add (Phi_zero fun i hi hc => hz i (by omega) hc)).trans (Cg.of_eq (by grind))
  rw [List.map_congr_left this, List.map_const', List.count_replicate, allT_len]
  simp

/-! ### all batches with the same beginnings -/
theorem cmbs_ex {p : Int} (p0 : 0 < p) {n : Nat} : ∀ {ss f : List Int}, f.length = ss.length + n → Ok p f → ∃ rs g, f = cmbs p ss rs g ∧ rs.length = ss.length ∧ Ok p rs ∧ Ok p g ∧ g.length = n
  | [], f, h, k => ⟨[], f, rfl, rfl, (fun y hy => by cases hy), k, by simpa using h⟩
  | x :: ss, f, h, k => by
    obtain ⟨r, Q, e, hr, kQ, lQ⟩ := cmb_ex (x := x) (n := ss.length + n) p0 (by rw [List.length_cons] at h; omega) k
    obtain ⟨rs, g, e2, h1, h2, h3, h4⟩ := cmbs_ex p0 (ss := ss) lQ kQ
    refine ⟨r :: rs, g, ?_, by simp [h1], fun y hy => ?_, h3, h4⟩
    · rw [e, e2]; rfl
    · rcases List.mem_cons.mp hy with z | z
      · rw [z]; exact hr
      · exact h2 y z
theorem cmbs_inj {p : Int} (p0 : 0 < p) : ∀ {ss rs g g' : List Int}, rs.length = ss.length → Ok p rs → Ok p g → Ok p g' → g.length = g'.length → cmbs p ss rs g = cmbs p ss rs g' → g = g'
  | [], _, g, g', _, _, _, _, _, e => e
  | x :: ss, r :: rs, g, g', h, k, k1, k2, hl, e => by
    have h' : rs.length = ss.length := by simpa using h
    have kr : Ok p rs := fun y hy => k y (List.mem_cons_of_mem _ hy)
    have := cmb_inj (by rw [cmbs_len h', cmbs_len h', hl]) (k r (by simp)) (k r (by simp)) (cmbs_ok p0 kr k1) (cmbs_ok p0 kr k2) e
    exact cmbs_inj p0 h' kr k1 k2 hl this.2
  | _ :: _, [], _, _, h, _, _, _, _, _ => by simp at h
def csOf : List Int → List Int → Cs
  | x :: xs, m :: ms => (x, m.toNat) :: csOf xs ms
  | _, _ => []
theorem flat_cs : ∀ {xs ms : List Int}, flat (csOf xs ms) = stepsL xs ms
  | x :: xs, m :: ms => by
    unfold csOf flat stepsL
    rw [flat_cs]
  | [], _ => by unfold csOf stepsL flat; rfl
  | _ :: _, [] => by unfold csOf stepsL flat; rfl
theorem cs_fst : ∀ {xs ms : List Int}, ms.length = xs.length → (csOf xs ms).map (·.1) = xs
  | [], [], _ => rfl
  | x :: xs, m :: ms, h => by unfold csOf; rw [List.map_cons, cs_fst (by simpa using h)]
  | [], _ :: _, h => by simp at h
  | _ :: _, [], h => by simp at h
theorem take_row {p x : Int} {m : Nat} {f g : List Int} (hm : m ≤ f.length) (hl : g.length = f.length) (kf : Ok p f) (kg : Ok p g) : (rowL p x f).take m = (rowL p x g).take m ↔ ∀ j, j < m → Cg p (Rw p x f j) (Rw p x g j) := by
  constructor
  · intro e j hj
    have := congrArg (·[j]?) e
    simp only [List.getElem?_take, if_pos hj] at this
    rw [row_at (by omega) kf, row_at (by omega) kg] at this
    exact Cg.of_mod (Option.some.inj this)
  · intro h
    refine List.ext_getElem? fun j => ?_
    rw [List.getElem?_take, List.getElem?_take]
    by_cases hj : j < m
    · rw [if_pos hj, if_pos hj, row_at (by omega) kf, row_at (by omega) kg, (h j hj).mod_eq]
    · rw [if_neg hj, if_neg hj]
theorem begun_iff {p : Int} {f g : List Int} (hl : g.length = f.length) (kf : Ok p f) (kg : Ok p g) : ∀ {xs ms : List Int}, ms.length = xs.length → (∀ m ∈ ms, m.toNat ≤ f.length) → (begunL p xs ms f = begunL p xs ms g ↔ Agr p (csOf xs ms) f g)
  | [], [], _, _ => ⟨(fun _ c hc => by cases hc), fun _ => rfl⟩
  | x :: xs, m :: ms, h, hm => by
    have ih := begun_iff hl kf kg (xs := xs) (ms := ms) (by simpa using h) fun y hy => hm y (List.mem_cons_of_mem _ hy)
    have t := take_row (x := x) (hm m (by simp)) hl kf kg
    unfold begunL at ih ⊢
    rw [List.zipWith_cons_cons, List.zipWith_cons_cons]
    unfold csOf
    constructor
    · intro e
      obtain ⟨e1, e2⟩ := List.cons.inj e
      intro c hc
      rcases List.mem_cons.mp hc with z | z
      · rw [z]; exact t.mp e1
      · exact ih.mp e2 c z
    · intro q
      rw [t.mpr (q (x, m.toNat) (by simp)), ih.mpr fun c hc => q c (List.mem_cons_of_mem _ hc)]
  | [], _ :: _, h, _ => by simp at h
  | _ :: _, [], h, _ => by simp at h
structure Alike (p : Int) (n : Nat) (xs ms b rs : List Int) : Prop where
  rl : rs.length = (stepsL xs ms).length
  rk : Ok p rs
  perm : ((allT p n).filter fun o => decide (begunL p xs ms o = begunL p xs ms b)).Perm ((allT p (n - (stepsL xs ms).length)).map (cmbs p (stepsL xs ms) rs))
theorem alike_ex {p : Int} (hp : Euc p) {n : Nat} {xs ms b : List Int} (nd : xs.Nodup) (hx : ∀ x ∈ xs, 0 ≤ x ∧ x ≤ p) (hl : ms.length = xs.length) (le : (stepsL xs ms).length ≤ n) (bl : b.length = n) (bk : Ok p b) : ∃ rs gb, Alike p n xs ms b rs ∧ b = cmbs p (stepsL xs ms) rs gb ∧ Ok p gb ∧ gb.length = n - (stepsL xs ms).length := by
  have p0 := hp.1
  obtain ⟨rs, gb, eb, h1, h2, h3, h4⟩ := cmbs_ex (n := n - (stepsL xs ms).length) p0 (ss := stepsL xs ms) (f := b) (by omega) bk
  refine ⟨rs, gb, ⟨h1, h2, ?_⟩, eb, h3, h4⟩
  have hm : ∀ m ∈ ms, m.toNat ≤ n := fun m hm => by
    have : ∀ {xs ms : List Int}, ms.length = xs.length → m ∈ ms → m.toNat ≤ (stepsL xs ms).length := by
      intro xs
      induction xs with
      | nil => intro ms h hm; have : ms = [] := List.eq_nil_of_length_eq_zero h; rw [this] at hm; cases hm
      | cons x xs ih =>
        intro ms h hm
        cases ms with
        | nil => cases hm
        | cons m2 ms =>
          unfold stepsL
          rw [List.length_append, List.length_replicate]
          rcases List.mem_cons.mp hm with e | e
          · rw [e]; omega
          · have := ih (by simpa using h) e; omega
    have := this hl hm
    omega
  have nd2 : ((csOf xs ms).map (·.1)).Nodup := by rw [cs_fst hl]; exact nd
  have rg2 : ∀ c ∈ csOf xs ms, 0 ≤ c.1 ∧ c.1 ≤ p := fun c hc => by
    have := List.mem_map_of_mem (f := fun c : Int × Nat => c.1) hc
    rw [cs_fst hl] at this
    exact hx _ this
  have agr := fun {rs' g' : List Int} (a : rs'.length = (stepsL xs ms).length) (b' : g'.length = gb.length) (c : Ok p rs') => agr_iff hp (cs := csOf xs ms) (rs := rs') (rs' := rs) (g := g') (g' := gb) nd2 rg2 (by rw [flat_cs]; exact a) (by rw [flat_cs]; exact h1) b'.symm c h2
  rw [flat_cs] at agr
  have nd3 : ((allT p (n - (stepsL xs ms).length)).map (cmbs p (stepsL xs ms) rs)).Nodup := by
    refine List.pairwise_map.mpr (List.Pairwise.imp_of_mem ?_ allT_nodup)
    intro x y hx hy ne e
    have a := allT_mem hx
    have b := allT_mem hy
    exact ne (cmbs_inj p0 h1 h2 a.2 b.2 (a.1.trans b.1.symm) e)
  refine (List.perm_ext_iff_of_nodup (List.Pairwise.filter _ allT_nodup) nd3).mpr fun o => ?_
  rw [List.mem_filter, decide_eq_true_eq, List.mem_map]
  constructor
  · rintro ⟨ho, e⟩
    obtain ⟨ol, ok⟩ := allT_iff.mp ho
    obtain ⟨rs', g', eo, k1, k2, k3, k4⟩ := cmbs_ex (n := n - (stepsL xs ms).length) p0 (ss := stepsL xs ms) (f := o) (by omega) ok
    have a := (begun_iff (bl.trans ol.symm) ok bk hl (fun m h => by rw [ol]; exact hm m h)).mp e
    rw [eo, eb] at a
    have er := (agr k1 (k4.trans h4.symm) k2).mp a
    exact ⟨g', allT_iff.mpr ⟨k4, k3⟩, by rw [eo, er]⟩
  · rintro ⟨g, hg, eo⟩
    obtain ⟨gl, gk⟩ := allT_iff.mp hg
    have ok : Ok p o := by rw [← eo]; exact cmbs_ok p0 h2 gk
    have ol : o.length = n := by rw [← eo, cmbs_len h1]; omega
    refine ⟨allT_iff.mpr ⟨ol, ok⟩, ?_⟩
    refine (begun_iff (bl.trans ol.symm) ok bk hl (fun m h => by rw [ol]; exact hm m h)).mpr ?_
    have a := (agr h1 (gl.trans h4.symm) h2).mpr rfl
    rwa [eo, ← eb] at a
/-- the numbers at a place of all alike batches -/
theorem alike_vals {p : Int} {n : Nat} {xs ms b rs : List Int} (p0 : 0 < p) (A : Alike p n xs ms b rs) (i : Nat) : ((((allT p n).filter fun o => decide (begunL p xs ms o = begunL p xs ms b)).map fun o => o.getD i 0)).Perm (valsL p (MS p (stepsL xs ms) dl) (Bs p (stepsL xs ms) rs (n - (stepsL xs ms).length) i) (n - (stepsL xs ms).length) i) := by
  refine (A.perm.map _).trans ?_
  rw [List.map_map]
  unfold valsL
  refine List.Perm.of_eq (List.map_congr_left fun g hg => ?_)
  obtain ⟨gl, gk⟩ := allT_mem hg
  show cf (cmbs p (stepsL xs ms) rs g) i = _
  have ok := cmbs_ok (ss := stepsL xs ms) p0 A.rk gk
  have rng : 0 ≤ cf (cmbs p (stepsL xs ms) rs g) i ∧ cf (cmbs p (stepsL xs ms) rs g) i < p := by
    unfold cf
    rw [List.getD_eq_getElem?_getD]
    cases e : (cmbs p (stepsL xs ms) rs g)[i]? with
    | none => exact ⟨Int.le_refl _, p0⟩
    | some y => exact ok y (List.mem_of_getElem? e)
  have c := cf_cmbs (p := p) (g := g) A.rl i
  rw [MS_phi, gl] at c
  rw [← c.mod_eq, Int.emod_eq_of_lt rng.1 rng.2]
end Dx

/-! k53: the table of its defs (printed by gen.py). -/
namespace K53
open PySem Dx

def fs : Fns := [(0, F.f_is_whole), (1, F.f_is_prime), (3, F.f_are_points), (4, F.f_made_ground), (5, F.f_shelves), (7, F.f_made_lengths), (163, F.f_times), (165, F.f_line), (166, F.f_product), (734, F.f_ways_left), (735, F.f_early), (105, F.f__law_pool_v2), (106, F.f__law_draw), (108, F.f__law_turned_v2), (110, F.f__law_batch), (1315, F.f__law_lengths_v2), (175, F.f__law_written_out), (1332, F.f__law_listed_v3), (1339, F.f__law_begun), (1340, F.f_law_v49)]
def G : GEnv := [gb "bool", gb "int", gb "isinstance", gb "len", gb "list", gb "max", gb "min", gb "range", gb "set", gb "sorted", gb "sum", gb "tuple", gb "zip", gc "MOST_PRIME" (D.int 65521), gc "MOST_NUMBERS" (D.int 12), gc "MOST_SHELVES" (D.int 8), gc "MOST_CELLS" (D.int 1024), gc "MOST_DEGREE" (D.int 98), gf "is_whole" 0 3, gf "is_prime" 1 1, gf "are_points" 3 2, gf "made_ground" 4 1, gf "shelves" 5 1, gf "made_lengths" 7 2, gf "times" 163 3, gf "line" 165 2, gf "product" 166 2, gf "ways_left" 734 2, gf "early" 735 2, gf "_law_pool" 105 1, gf "_law_draw" 106 2, gf "_law_turned" 108 2, gf "_law_batch" 110 2, gf "_law_lengths" 1315 3, gf "_law_written_out" 175 3, gf "_law_listed" 1332 2, gf "_law_begun" 1339 3, gf "law" 1340 1]
end K53

/-! k53: the text is what our syntax says (printed by gen.py). -/
namespace K53
open PySem PySem.Spec PyProof.Rows L2 Dx

def topS (i : Nat) : Stmt := PySem.Challenge.pw_lastsecret_k53_whole_known_early.main.body.getD i (.Pass ⟨0, 0, 0, 0⟩)
theorem sc_is_whole : FnScope F.f_is_whole.N ["thing", "low", "high"] (defScope (topS 7)) := ⟨rfl, rfl, rfl, by decide +kernel, rfl, by decide +kernel, by decide +kernel⟩
theorem ok_is_whole : okSs F.f_is_whole.N G (defScope (topS 7)) F.f_is_whole.body (defBody (topS 7)) = true := by decide +kernel
theorem sc_is_prime : FnScope F.f_is_prime.N ["n"] (defScope (topS 8)) := ⟨rfl, rfl, rfl, by decide +kernel, rfl, by decide +kernel, by decide +kernel⟩
theorem ok_is_prime : okSs F.f_is_prime.N G (defScope (topS 8)) F.f_is_prime.body (defBody (topS 8)) = true := by decide +kernel
theorem sc_are_points : FnScope F.f_are_points.N ["p", "thing"] (defScope (topS 13)) := ⟨rfl, rfl, rfl, by decide +kernel, rfl, by decide +kernel, by decide +kernel⟩
theorem ok_are_points : okSs F.f_are_points.N G (defScope (topS 13)) F.f_are_points.body (defBody (topS 13)) = true := by decide +kernel
theorem sc_made_ground : FnScope F.f_made_ground.N ["thing"] (defScope (topS 14)) := ⟨rfl, rfl, rfl, by decide +kernel, rfl, by decide +kernel, by decide +kernel⟩
theorem ok_made_ground : okSs F.f_made_ground.N G (defScope (topS 14)) F.f_made_ground.body (defBody (topS 14)) = true := by decide +kernel
theorem sc_shelves : FnScope F.f_shelves.N ["ground"] (defScope (topS 15)) := ⟨rfl, rfl, rfl, by decide +kernel, rfl, by decide +kernel, by decide +kernel⟩
theorem ok_shelves : okSs F.f_shelves.N G (defScope (topS 15)) F.f_shelves.body (defBody (topS 15)) = true := by decide +kernel
theorem sc_made_lengths : FnScope F.f_made_lengths.N ["ground", "thing"] (defScope (topS 16)) := ⟨rfl, rfl, rfl, by decide +kernel, rfl, by decide +kernel, by decide +kernel⟩
theorem ok_made_lengths : okSs F.f_made_lengths.N G (defScope (topS 16)) F.f_made_lengths.body (defBody (topS 16)) = true := by decide +kernel
theorem sc_times : FnScope F.f_times.N ["p", "f", "g"] (defScope (topS 19)) := ⟨rfl, rfl, rfl, by decide +kernel, rfl, by decide +kernel, by decide +kernel⟩
theorem ok_times : okSs F.f_times.N G (defScope (topS 19)) F.f_times.body (defBody (topS 19)) = true := by decide +kernel
theorem sc_line : FnScope F.f_line.N ["p", "point"] (defScope (topS 20)) := ⟨rfl, rfl, rfl, by decide +kernel, rfl, by decide +kernel, by decide +kernel⟩
theorem ok_line : okSs F.f_line.N G (defScope (topS 20)) F.f_line.body (defBody (topS 20)) = true := by decide +kernel
theorem sc_product : FnScope F.f_product.N ["ground", "lengths"] (defScope (topS 21)) := ⟨rfl, rfl, rfl, by decide +kernel, rfl, by decide +kernel, by decide +kernel⟩
theorem ok_product : okSs F.f_product.N G (defScope (topS 21)) F.f_product.body (defBody (topS 21)) = true := by decide +kernel
theorem sc_ways_left : FnScope F.f_ways_left.N ["ground", "lengths"] (defScope (topS 23)) := ⟨rfl, rfl, rfl, by decide +kernel, rfl, by decide +kernel, by decide +kernel⟩
theorem ok_ways_left : okSs F.f_ways_left.N G (defScope (topS 23)) F.f_ways_left.body (defBody (topS 23)) = true := by decide +kernel
theorem sc_early : FnScope F.f_early.N ["ground", "lengths"] (defScope (topS 24)) := ⟨rfl, rfl, rfl, by decide +kernel, rfl, by decide +kernel, by decide +kernel⟩
theorem ok_early : okSs F.f_early.N G (defScope (topS 24)) F.f_early.body (defBody (topS 24)) = true := by decide +kernel
theorem sc__law_pool : FnScope F.f__law_pool_v2.N ["script"] (defScope (topS 26)) := ⟨rfl, rfl, rfl, by decide +kernel, rfl, by decide +kernel, by decide +kernel⟩
theorem ok__law_pool : okSs F.f__law_pool_v2.N G (defScope (topS 26)) F.f__law_pool_v2.body (defBody (topS 26)) = true := by decide +kernel
theorem sc__law_draw : FnScope F.f__law_draw.N ["pool", "many"] (defScope (topS 27)) := ⟨rfl, rfl, rfl, by decide +kernel, rfl, by decide +kernel, by decide +kernel⟩
theorem ok__law_draw : okSs F.f__law_draw.N G (defScope (topS 27)) F.f__law_draw.body (defBody (topS 27)) = true := by decide +kernel
theorem sc__law_turned : FnScope F.f__law_turned_v2.N ["pool", "many"] (defScope (topS 28)) := ⟨rfl, rfl, rfl, by decide +kernel, rfl, by decide +kernel, by decide +kernel⟩
theorem ok__law_turned : okSs F.f__law_turned_v2.N G (defScope (topS 28)) F.f__law_turned_v2.body (defBody (topS 28)) = true := by decide +kernel
theorem sc__law_batch : FnScope F.f__law_batch.N ["pool", "ground"] (defScope (topS 29)) := ⟨rfl, rfl, rfl, by decide +kernel, rfl, by decide +kernel, by decide +kernel⟩
theorem ok__law_batch : okSs F.f__law_batch.N G (defScope (topS 29)) F.f__law_batch.body (defBody (topS 29)) = true := by decide +kernel
theorem sc__law_lengths : FnScope F.f__law_lengths_v2.N ["pool", "ground", "most"] (defScope (topS 30)) := ⟨rfl, rfl, rfl, by decide +kernel, rfl, by decide +kernel, by decide +kernel⟩
theorem ok__law_lengths : okSs F.f__law_lengths_v2.N G (defScope (topS 30)) F.f__law_lengths_v2.body (defBody (topS 30)) = true := by decide +kernel
theorem sc__law_written_out : FnScope F.f__law_written_out.N ["p", "form", "point"] (defScope (topS 31)) := ⟨rfl, rfl, rfl, by decide +kernel, rfl, by decide +kernel, by decide +kernel⟩
theorem ok__law_written_out : okSs F.f__law_written_out.N G (defScope (topS 31)) F.f__law_written_out.body (defBody (topS 31)) = true := by decide +kernel
theorem sc__law_listed : FnScope F.f__law_listed_v3.N ["p", "k"] (defScope (topS 32)) := ⟨rfl, rfl, rfl, by decide +kernel, rfl, by decide +kernel, by decide +kernel⟩
theorem ok__law_listed : okSs F.f__law_listed_v3.N G (defScope (topS 32)) F.f__law_listed_v3.body (defBody (topS 32)) = true := by decide +kernel
theorem sc__law_begun : FnScope F.f__law_begun.N ["ground", "batch", "lengths"] (defScope (topS 33)) := ⟨rfl, rfl, rfl, by decide +kernel, rfl, by decide +kernel, by decide +kernel⟩
theorem ok__law_begun : okSs F.f__law_begun.N G (defScope (topS 33)) F.f__law_begun.body (defBody (topS 33)) = true := by decide +kernel
theorem sc_law : FnScope F.f_law_v49.N ["script"] (defScope (topS 34)) := ⟨rfl, rfl, rfl, by decide +kernel, rfl, by decide +kernel, by decide +kernel⟩
theorem ok_law : okSs F.f_law_v49.N G (defScope (topS 34)) F.f_law_v49.body (defBody (topS 34)) = true := by decide +kernel
theorem all_mk {l : PySem.W.OpenLaw} {w : World} {K : PySem.W.Frag} {hp : Heap} {mg : Str → Option Value} {fa : Addr} (X : K.In hp) (Gn : hp.Ns mainGlobals mg) (hfa : mg "law" = some (.ref fa))
    {f0 : Addr} {oc0 : Value} {od0 an0 : Option Addr} {sl0 : Array (Option Value)} {kV0 dc0 pm0 cd0 ct0 : Value}
    {f1 : Addr} {oc1 : Value} {od1 an1 : Option Addr} {sl1 : Array (Option Value)} {kV1 dc1 pm1 cd1 ct1 : Value}
    {f2 : Addr} {oc2 : Value} {od2 an2 : Option Addr} {sl2 : Array (Option Value)} {kV2 dc2 pm2 cd2 ct2 : Value}
    {f3 : Addr} {oc3 : Value} {od3 an3 : Option Addr} {sl3 : Array (Option Value)} {kV3 dc3 pm3 cd3 ct3 : Value}
    {f4 : Addr} {oc4 : Value} {od4 an4 : Option Addr} {sl4 : Array (Option Value)} {kV4 dc4 pm4 cd4 ct4 : Value}
    {f5 : Addr} {oc5 : Value} {od5 an5 : Option Addr} {sl5 : Array (Option Value)} {kV5 dc5 pm5 cd5 ct5 : Value}
    {f6 : Addr} {oc6 : Value} {od6 an6 : Option Addr} {sl6 : Array (Option Value)} {kV6 dc6 pm6 cd6 ct6 : Value}
    {f7 : Addr} {oc7 : Value} {od7 an7 : Option Addr} {sl7 : Array (Option Value)} {kV7 dc7 pm7 cd7 ct7 : Value}
    {f8 : Addr} {oc8 : Value} {od8 an8 : Option Addr} {sl8 : Array (Option Value)} {kV8 dc8 pm8 cd8 ct8 : Value}
    {f9 : Addr} {oc9 : Value} {od9 an9 : Option Addr} {sl9 : Array (Option Value)} {kV9 dc9 pm9 cd9 ct9 : Value}
    {f10 : Addr} {oc10 : Value} {od10 an10 : Option Addr} {sl10 : Array (Option Value)} {kV10 dc10 pm10 cd10 ct10 : Value}
    {f11 : Addr} {oc11 : Value} {od11 an11 : Option Addr} {sl11 : Array (Option Value)} {kV11 dc11 pm11 cd11 ct11 : Value}
    {f12 : Addr} {oc12 : Value} {od12 an12 : Option Addr} {sl12 : Array (Option Value)} {kV12 dc12 pm12 cd12 ct12 : Value}
    {f13 : Addr} {oc13 : Value} {od13 an13 : Option Addr} {sl13 : Array (Option Value)} {kV13 dc13 pm13 cd13 ct13 : Value}
    {f14 : Addr} {oc14 : Value} {od14 an14 : Option Addr} {sl14 : Array (Option Value)} {kV14 dc14 pm14 cd14 ct14 : Value}
    {f15 : Addr} {oc15 : Value} {od15 an15 : Option Addr} {sl15 : Array (Option Value)} {kV15 dc15 pm15 cd15 ct15 : Value}
    {f16 : Addr} {oc16 : Value} {od16 an16 : Option Addr} {sl16 : Array (Option Value)} {kV16 dc16 pm16 cd16 ct16 : Value}
    {f17 : Addr} {oc17 : Value} {od17 an17 : Option Addr} {sl17 : Array (Option Value)} {kV17 dc17 pm17 cd17 ct17 : Value}
    {f18 : Addr} {oc18 : Value} {od18 an18 : Option Addr} {sl18 : Array (Option Value)} {kV18 dc18 pm18 cd18 ct18 : Value}
    {f19 : Addr} {oc19 : Value} {od19 an19 : Option Addr} {sl19 : Array (Option Value)} {kV19 dc19 pm19 cd19 ct19 : Value}
    (a0 : PySem.W.nsIn K mainGlobals "is_whole" = some (some (.ref f0))) (l0 : K.lookup f0 = some ⟨oc0, od0, .func (PySem.W.fnOf "is_whole" "is_whole" (defArgs (topS 7)) (defBody (topS 7)) (defScope (topS 7)) .none kV0 dc0 pm0 an0 cd0 ct0), sl0⟩) (c0 : PySem.W.codeIn K cd0 "is_whole" = true) (k0 : PySem.W.keepIn K (.ref f0) = true)
    (a1 : PySem.W.nsIn K mainGlobals "is_prime" = some (some (.ref f1))) (l1 : K.lookup f1 = some ⟨oc1, od1, .func (PySem.W.fnOf "is_prime" "is_prime" (defArgs (topS 8)) (defBody (topS 8)) (defScope (topS 8)) .none kV1 dc1 pm1 an1 cd1 ct1), sl1⟩) (c1 : PySem.W.codeIn K cd1 "is_prime" = true) (k1 : PySem.W.keepIn K (.ref f1) = true)
    (a2 : PySem.W.nsIn K mainGlobals "are_points" = some (some (.ref f2))) (l2 : K.lookup f2 = some ⟨oc2, od2, .func (PySem.W.fnOf "are_points" "are_points" (defArgs (topS 13)) (defBody (topS 13)) (defScope (topS 13)) .none kV2 dc2 pm2 an2 cd2 ct2), sl2⟩) (c2 : PySem.W.codeIn K cd2 "are_points" = true) (k2 : PySem.W.keepIn K (.ref f2) = true)
    (a3 : PySem.W.nsIn K mainGlobals "made_ground" = some (some (.ref f3))) (l3 : K.lookup f3 = some ⟨oc3, od3, .func (PySem.W.fnOf "made_ground" "made_ground" (defArgs (topS 14)) (defBody (topS 14)) (defScope (topS 14)) .none kV3 dc3 pm3 an3 cd3 ct3), sl3⟩) (c3 : PySem.W.codeIn K cd3 "made_ground" = true) (k3 : PySem.W.keepIn K (.ref f3) = true)
    (a4 : PySem.W.nsIn K mainGlobals "shelves" = some (some (.ref f4))) (l4 : K.lookup f4 = some ⟨oc4, od4, .func (PySem.W.fnOf "shelves" "shelves" (defArgs (topS 15)) (defBody (topS 15)) (defScope (topS 15)) .none kV4 dc4 pm4 an4 cd4 ct4), sl4⟩) (c4 : PySem.W.codeIn K cd4 "shelves" = true) (k4 : PySem.W.keepIn K (.ref f4) = true)
    (a5 : PySem.W.nsIn K mainGlobals "made_lengths" = some (some (.ref f5))) (l5 : K.lookup f5 = some ⟨oc5, od5, .func (PySem.W.fnOf "made_lengths" "made_lengths" (defArgs (topS 16)) (defBody (topS 16)) (defScope (topS 16)) .none kV5 dc5 pm5 an5 cd5 ct5), sl5⟩) (c5 : PySem.W.codeIn K cd5 "made_lengths" = true) (k5 : PySem.W.keepIn K (.ref f5) = true)
    (a6 : PySem.W.nsIn K mainGlobals "times" = some (some (.ref f6))) (l6 : K.lookup f6 = some ⟨oc6, od6, .func (PySem.W.fnOf "times" "times" (defArgs (topS 19)) (defBody (topS 19)) (defScope (topS 19)) .none kV6 dc6 pm6 an6 cd6 ct6), sl6⟩) (c6 : PySem.W.codeIn K cd6 "times" = true) (k6 : PySem.W.keepIn K (.ref f6) = true)
    (a7 : PySem.W.nsIn K mainGlobals "line" = some (some (.ref f7))) (l7 : K.lookup f7 = some ⟨oc7, od7, .func (PySem.W.fnOf "line" "line" (defArgs (topS 20)) (defBody (topS 20)) (defScope (topS 20)) .none kV7 dc7 pm7 an7 cd7 ct7), sl7⟩) (c7 : PySem.W.codeIn K cd7 "line" = true) (k7 : PySem.W.keepIn K (.ref f7) = true)
    (a8 : PySem.W.nsIn K mainGlobals "product" = some (some (.ref f8))) (l8 : K.lookup f8 = some ⟨oc8, od8, .func (PySem.W.fnOf "product" "product" (defArgs (topS 21)) (defBody (topS 21)) (defScope (topS 21)) .none kV8 dc8 pm8 an8 cd8 ct8), sl8⟩) (c8 : PySem.W.codeIn K cd8 "product" = true) (k8 : PySem.W.keepIn K (.ref f8) = true)
    (a9 : PySem.W.nsIn K mainGlobals "ways_left" = some (some (.ref f9))) (l9 : K.lookup f9 = some ⟨oc9, od9, .func (PySem.W.fnOf "ways_left" "ways_left" (defArgs (topS 23)) (defBody (topS 23)) (defScope (topS 23)) .none kV9 dc9 pm9 an9 cd9 ct9), sl9⟩) (c9 : PySem.W.codeIn K cd9 "ways_left" = true) (k9 : PySem.W.keepIn K (.ref f9) = true)
    (a10 : PySem.W.nsIn K mainGlobals "early" = some (some (.ref f10))) (l10 : K.lookup f10 = some ⟨oc10, od10, .func (PySem.W.fnOf "early" "early" (defArgs (topS 24)) (defBody (topS 24)) (defScope (topS 24)) .none kV10 dc10 pm10 an10 cd10 ct10), sl10⟩) (c10 : PySem.W.codeIn K cd10 "early" = true) (k10 : PySem.W.keepIn K (.ref f10) = true)
    (a11 : PySem.W.nsIn K mainGlobals "_law_pool" = some (some (.ref f11))) (l11 : K.lookup f11 = some ⟨oc11, od11, .func (PySem.W.fnOf "_law_pool" "_law_pool" (defArgs (topS 26)) (defBody (topS 26)) (defScope (topS 26)) .none kV11 dc11 pm11 an11 cd11 ct11), sl11⟩) (c11 : PySem.W.codeIn K cd11 "_law_pool" = true) (k11 : PySem.W.keepIn K (.ref f11) = true)
    (a12 : PySem.W.nsIn K mainGlobals "_law_draw" = some (some (.ref f12))) (l12 : K.lookup f12 = some ⟨oc12, od12, .func (PySem.W.fnOf "_law_draw" "_law_draw" (defArgs (topS 27)) (defBody (topS 27)) (defScope (topS 27)) .none kV12 dc12 pm12 an12 cd12 ct12), sl12⟩) (c12 : PySem.W.codeIn K cd12 "_law_draw" = true) (k12 : PySem.W.keepIn K (.ref f12) = true)
    (a13 : PySem.W.nsIn K mainGlobals "_law_turned" = some (some (.ref f13))) (l13 : K.lookup f13 = some ⟨oc13, od13, .func (PySem.W.fnOf "_law_turned" "_law_turned" (defArgs (topS 28)) (defBody (topS 28)) (defScope (topS 28)) .none kV13 dc13 pm13 an13 cd13 ct13), sl13⟩) (c13 : PySem.W.codeIn K cd13 "_law_turned" = true) (k13 : PySem.W.keepIn K (.ref f13) = true)
    (a14 : PySem.W.nsIn K mainGlobals "_law_batch" = some (some (.ref f14))) (l14 : K.lookup f14 = some ⟨oc14, od14, .func (PySem.W.fnOf "_law_batch" "_law_batch" (defArgs (topS 29)) (defBody (topS 29)) (defScope (topS 29)) .none kV14 dc14 pm14 an14 cd14 ct14), sl14⟩) (c14 : PySem.W.codeIn K cd14 "_law_batch" = true) (k14 : PySem.W.keepIn K (.ref f14) = true)
    (a15 : PySem.W.nsIn K mainGlobals "_law_lengths" = some (some (.ref f15))) (l15 : K.lookup f15 = some ⟨oc15, od15, .func (PySem.W.fnOf "_law_lengths" "_law_lengths" (defArgs (topS 30)) (defBody (topS 30)) (defScope (topS 30)) .none kV15 dc15 pm15 an15 cd15 ct15), sl15⟩) (c15 : PySem.W.codeIn K cd15 "_law_lengths" = true) (k15 : PySem.W.keepIn K (.ref f15) = true)
    (a16 : PySem.W.nsIn K mainGlobals "_law_written_out" = some (some (.ref f16))) (l16 : K.lookup f16 = some ⟨oc16, od16, .func (PySem.W.fnOf "_law_written_out" "_law_written_out" (defArgs (topS 31)) (defBody (topS 31)) (defScope (topS 31)) .none kV16 dc16 pm16 an16 cd16 ct16), sl16⟩) (c16 : PySem.W.codeIn K cd16 "_law_written_out" = true) (k16 : PySem.W.keepIn K (.ref f16) = true)
    (a17 : PySem.W.nsIn K mainGlobals "_law_listed" = some (some (.ref f17))) (l17 : K.lookup f17 = some ⟨oc17, od17, .func (PySem.W.fnOf "_law_listed" "_law_listed" (defArgs (topS 32)) (defBody (topS 32)) (defScope (topS 32)) .none kV17 dc17 pm17 an17 cd17 ct17), sl17⟩) (c17 : PySem.W.codeIn K cd17 "_law_listed" = true) (k17 : PySem.W.keepIn K (.ref f17) = true)
    (a18 : PySem.W.nsIn K mainGlobals "_law_begun" = some (some (.ref f18))) (l18 : K.lookup f18 = some ⟨oc18, od18, .func (PySem.W.fnOf "_law_begun" "_law_begun" (defArgs (topS 33)) (defBody (topS 33)) (defScope (topS 33)) .none kV18 dc18 pm18 an18 cd18 ct18), sl18⟩) (c18 : PySem.W.codeIn K cd18 "_law_begun" = true) (k18 : PySem.W.keepIn K (.ref f18) = true)
    (a19 : PySem.W.nsIn K mainGlobals "law" = some (some (.ref f19))) (l19 : K.lookup f19 = some ⟨oc19, od19, .func (PySem.W.fnOf "law" "law" (defArgs (topS 34)) (defBody (topS 34)) (defScope (topS 34)) .none kV19 dc19 pm19 an19 cd19 ct19), sl19⟩) (c19 : PySem.W.codeIn K cd19 "law" = true) (k19 : PySem.W.keepIn K (.ref f19) = true)
    (z0 : PySem.W.nsIn K mainGlobals "bool" = some none)
    (z1 : PySem.W.nsIn K mainGlobals "int" = some none)
    (z2 : PySem.W.nsIn K mainGlobals "isinstance" = some none)
    (z3 : PySem.W.nsIn K mainGlobals "len" = some none)
    (z4 : PySem.W.nsIn K mainGlobals "list" = some none)
    (z5 : PySem.W.nsIn K mainGlobals "max" = some none)
    (z6 : PySem.W.nsIn K mainGlobals "min" = some none)
    (z7 : PySem.W.nsIn K mainGlobals "range" = some none)
    (z8 : PySem.W.nsIn K mainGlobals "set" = some none)
    (z9 : PySem.W.nsIn K mainGlobals "sorted" = some none)
    (z10 : PySem.W.nsIn K mainGlobals "sum" = some none)
    (z11 : PySem.W.nsIn K mainGlobals "tuple" = some none)
    (z12 : PySem.W.nsIn K mainGlobals "zip" = some none)
    {t0 : Tok} (y0 : PySem.W.nsIn K mainGlobals "MOST_PRIME" = some (some (.int 65521 t0)))
    {t1 : Tok} (y1 : PySem.W.nsIn K mainGlobals "MOST_NUMBERS" = some (some (.int 12 t1)))
    {t2 : Tok} (y2 : PySem.W.nsIn K mainGlobals "MOST_SHELVES" = some (some (.int 8 t2)))
    {t3 : Tok} (y3 : PySem.W.nsIn K mainGlobals "MOST_CELLS" = some (some (.int 1024 t3)))
    {t4 : Tok} (y4 : PySem.W.nsIn K mainGlobals "MOST_DEGREE" = some (some (.int 98 t4))) :
    ∃ fd : FuncData, (∀ (s : Shared) (u : Value), BindsTo s fd ⟨[u], []⟩ [("script", u)]) ∧ ∀ base : Heap, K.In base → base.Ns mainGlobals mg → FnOk l.prog w K mg base (L2.CX l.prog w) 12 fa fd ["script"] (spF K (fun _ => .none) (callF fs 12 1340) 1) :=
  have GA : GAll K mg G fs G := ⟨blt_in X Gn z0,
    blt_in X Gn z1,
    blt_in X Gn z2,
    blt_in X Gn z3,
    blt_in X Gn z4,
    blt_in X Gn z5,
    blt_in X Gn z6,
    blt_in X Gn z7,
    blt_in X Gn z8,
    blt_in X Gn z9,
    blt_in X Gn z10,
    blt_in X Gn z11,
    blt_in X Gn z12,
    cst_in X Gn y0 (v := .int _) ⟨_, rfl⟩ (fun _ _ => .int _),
    cst_in X Gn y1 (v := .int _) ⟨_, rfl⟩ (fun _ _ => .int _),
    cst_in X Gn y2 (v := .int _) ⟨_, rfl⟩ (fun _ _ => .int _),
    cst_in X Gn y3 (v := .int _) ⟨_, rfl⟩ (fun _ _ => .int _),
    cst_in X Gn y4 (v := .int _) ⟨_, rfl⟩ (fun _ _ => .int _),
    fn_in (st := topS 7) (ps := ["thing", "low", "high"]) (fn := F.f_is_whole) X Gn a0 l0 c0 k0 (fun _ _ _ _ _ _ us hl => match us, hl with | [_, _, _], _ => rfl) sc_is_whole rfl rfl rfl ok_is_whole,
    fn_in (st := topS 8) (ps := ["n"]) (fn := F.f_is_prime) X Gn a1 l1 c1 k1 (fun _ _ _ _ _ _ us hl => match us, hl with | [_], _ => rfl) sc_is_prime rfl rfl rfl ok_is_prime,
    fn_in (st := topS 13) (ps := ["p", "thing"]) (fn := F.f_are_points) X Gn a2 l2 c2 k2 (fun _ _ _ _ _ _ us hl => match us, hl with | [_, _], _ => rfl) sc_are_points rfl rfl rfl ok_are_points,
    fn_in (st := topS 14) (ps := ["thing"]) (fn := F.f_made_ground) X Gn a3 l3 c3 k3 (fun _ _ _ _ _ _ us hl => match us, hl with | [_], _ => rfl) sc_made_ground rfl rfl rfl ok_made_ground,
    fn_in (st := topS 15) (ps := ["ground"]) (fn := F.f_shelves) X Gn a4 l4 c4 k4 (fun _ _ _ _ _ _ us hl => match us, hl with | [_], _ => rfl) sc_shelves rfl rfl rfl ok_shelves,
    fn_in (st := topS 16) (ps := ["ground", "thing"]) (fn := F.f_made_lengths) X Gn a5 l5 c5 k5 (fun _ _ _ _ _ _ us hl => match us, hl with | [_, _], _ => rfl) sc_made_lengths rfl rfl rfl ok_made_lengths,
    fn_in (st := topS 19) (ps := ["p", "f", "g"]) (fn := F.f_times) X Gn a6 l6 c6 k6 (fun _ _ _ _ _ _ us hl => match us, hl with | [_, _, _], _ => rfl) sc_times rfl rfl rfl ok_times,
    fn_in (st := topS 20) (ps := ["p", "point"]) (fn := F.f_line) X Gn a7 l7 c7 k7 (fun _ _ _ _ _ _ us hl => match us, hl with | [_, _], _ => rfl) sc_line rfl rfl rfl ok_line,
    fn_in (st := topS 21) (ps := ["ground", "lengths"]) (fn := F.f_product) X Gn a8 l8 c8 k8 (fun _ _ _ _ _ _ us hl => match us, hl with | [_, _], _ => rfl) sc_product rfl rfl rfl ok_product,
    fn_in (st := topS 23) (ps := ["ground", "lengths"]) (fn := F.f_ways_left) X Gn a9 l9 c9 k9 (fun _ _ _ _ _ _ us hl => match us, hl with | [_, _], _ => rfl) sc_ways_left rfl rfl rfl ok_ways_left,
    fn_in (st := topS 24) (ps := ["ground", "lengths"]) (fn := F.f_early) X Gn a10 l10 c10 k10 (fun _ _ _ _ _ _ us hl => match us, hl with | [_, _], _ => rfl) sc_early rfl rfl rfl ok_early,
    fn_in (st := topS 26) (ps := ["script"]) (fn := F.f__law_pool_v2) X Gn a11 l11 c11 k11 (fun _ _ _ _ _ _ us hl => match us, hl with | [_], _ => rfl) sc__law_pool rfl rfl rfl ok__law_pool,
    fn_in (st := topS 27) (ps := ["pool", "many"]) (fn := F.f__law_draw) X Gn a12 l12 c12 k12 (fun _ _ _ _ _ _ us hl => match us, hl with | [_, _], _ => rfl) sc__law_draw rfl rfl rfl ok__law_draw,
    fn_in (st := topS 28) (ps := ["pool", "many"]) (fn := F.f__law_turned_v2) X Gn a13 l13 c13 k13 (fun _ _ _ _ _ _ us hl => match us, hl with | [_, _], _ => rfl) sc__law_turned rfl rfl rfl ok__law_turned,
    fn_in (st := topS 29) (ps := ["pool", "ground"]) (fn := F.f__law_batch) X Gn a14 l14 c14 k14 (fun _ _ _ _ _ _ us hl => match us, hl with | [_, _], _ => rfl) sc__law_batch rfl rfl rfl ok__law_batch,
    fn_in (st := topS 30) (ps := ["pool", "ground", "most"]) (fn := F.f__law_lengths_v2) X Gn a15 l15 c15 k15 (fun _ _ _ _ _ _ us hl => match us, hl with | [_, _, _], _ => rfl) sc__law_lengths rfl rfl rfl ok__law_lengths,
    fn_in (st := topS 31) (ps := ["p", "form", "point"]) (fn := F.f__law_written_out) X Gn a16 l16 c16 k16 (fun _ _ _ _ _ _ us hl => match us, hl with | [_, _, _], _ => rfl) sc__law_written_out rfl rfl rfl ok__law_written_out,
    fn_in (st := topS 32) (ps := ["p", "k"]) (fn := F.f__law_listed_v3) X Gn a17 l17 c17 k17 (fun _ _ _ _ _ _ us hl => match us, hl with | [_, _], _ => rfl) sc__law_listed rfl rfl rfl ok__law_listed,
    fn_in (st := topS 33) (ps := ["ground", "batch", "lengths"]) (fn := F.f__law_begun) X Gn a18 l18 c18 k18 (fun _ _ _ _ _ _ us hl => match us, hl with | [_, _, _], _ => rfl) sc__law_begun rfl rfl rfl ok__law_begun,
    fn_in (st := topS 34) (ps := ["script"]) (fn := F.f_law_v49) X Gn a19 l19 c19 k19 (fun _ _ _ _ _ _ us hl => match us, hl with | [_], _ => rfl) sc_law rfl rfl rfl ok_law, trivial⟩
  law_fn (st := topS 34) (fn := F.f_law_v49) X Gn hfa GA a19 l19 c19 k19 (fun _ _ _ _ _ _ us hl => match us, hl with | [_], _ => rfl) sc_law rfl rfl ok_law
end K53

/-! K53W: the law's own walk, but for the plain law. -/
namespace K53
open PySem L2 Dx
variable {E : Xc} {k : Nat} {h : HA}
instance : Has fs F.n_is_whole F.f_is_whole := ⟨rfl⟩
instance : Has fs F.n_is_prime F.f_is_prime := ⟨rfl⟩
instance : Has fs F.n_are_points F.f_are_points := ⟨rfl⟩
instance : Has fs F.n_made_ground F.f_made_ground := ⟨rfl⟩
instance : Has fs F.n_shelves F.f_shelves := ⟨rfl⟩
instance : Has fs F.n_made_lengths F.f_made_lengths := ⟨rfl⟩
instance : Has fs F.n_times F.f_times := ⟨rfl⟩
instance : Has fs F.n_line F.f_line := ⟨rfl⟩
instance : Has fs F.n_product F.f_product := ⟨rfl⟩
instance : Has fs F.n_ways_left F.f_ways_left := ⟨rfl⟩
instance : Has fs F.n_early F.f_early := ⟨rfl⟩
instance : Has fs F.n__law_pool_v2 F.f__law_pool_v2 := ⟨rfl⟩
instance : Has fs F.n__law_draw F.f__law_draw := ⟨rfl⟩
instance : Has fs F.n__law_turned_v2 F.f__law_turned_v2 := ⟨rfl⟩
instance : Has fs F.n__law_batch F.f__law_batch := ⟨rfl⟩
instance : Has fs F.n__law_lengths_v2 F.f__law_lengths_v2 := ⟨rfl⟩
instance : Has fs F.n__law_written_out F.f__law_written_out := ⟨rfl⟩
instance : Has fs F.n__law_listed_v3 F.f__law_listed_v3 := ⟨rfl⟩
instance : Has fs F.n__law_begun F.f__law_begun := ⟨rfl⟩
def alikeL (p q : Int) (xs ms b : List Int) : List (List Int) := (allT p q.toNat).filter fun o => decide (begunL p xs ms o = begunL p xs ms b)
/-- what is left to show: the plain law -/
structure Plain (p q : Int) (xs ms b : List Int) : Prop where
  len : ((alikeL p q xs ms b).length : Int) = p ^ (freeI q ms).toNat
  told : ∀ i : Nat, (i : Int) < q → (i : Int) ∈ earlyL p q xs ms → ((((alikeL p q xs ms b).map fun o => o.getD i 0).count (b.getD i 0) : Nat) : Int) = p ^ (freeI q ms).toNat
  other : ∀ i : Nat, (i : Int) < q → (i : Int) ∉ earlyL p q xs ms → ∀ y ∈ rgI p, ((((alikeL p q xs ms b).map fun o => o.getD i 0).count y : Nat) : Int) = p ^ (freeI q ms).toNat / p
  sorted : srtD (earlyL p q xs ms) = earlyL p q xs ms
def gsel (p : Int) (xs ms b : List Int) : D → Option D
  | .tup ds => (intsOf ds).bind fun o => if begunL p xs ms o = begunL p xs ms b then some (.tup ds) else none
  | _ => none
theorem gsel_ti {p : Int} {xs ms b o : List Int} : gsel p xs ms b (ti o) = if begunL p xs ms o = begunL p xs ms b then some (ti o) else none := by
  show (intsOf (o.map D.int)).bind _ = _
  rw [intsOf_map]; rfl
theorem gsel_all {p : Int} {xs ms b : List Int} : ∀ l : List (List Int), (l.map ti).filterMap (gsel p xs ms b) = (l.filter fun o => decide (begunL p xs ms o = begunL p xs ms b)).map ti
  | [] => rfl
  | o :: l => by
    rw [List.map_cons, List.filterMap_cons, gsel_ti, gsel_all l, List.filter_cons]
    by_cases c : begunL p xs ms o = begunL p xs ms b
    · rw [if_pos c, if_pos (by simpa using c)]; rfl
    · rw [if_neg c, if_neg (by simpa using c)]
theorem okDs_tti {n : Nat} (xss : List (List Int)) : okDs (n + 1) (xss.map ti) = true := okDs_all fun x hx => by
  obtain ⟨o, _, e⟩ := List.mem_map.mp hx
  rw [← e]; exact okD_ti
theorem ti_inj {a b : List Int} (e : ti a = ti b) : a = b := map_int_inj.mp (D.tup.inj e)
theorem tti_inj : ∀ {a b : List (List Int)}, a.map ti = b.map ti → a = b
  | [], [], _ => rfl
  | [], _ :: _, e => by cases e
  | _ :: _, [], e => by cases e
  | x :: a, y :: b, e => by
    rw [List.map_cons, List.map_cons] at e
    obtain ⟨e1, e2⟩ := List.cons.inj e
    rw [ti_inj e1, tti_inj e2]
theorem beq_tti {a b : List (List Int)} : D.beq (tti a) (tti b) = decide (a = b) := by
  rw [Bool.eq_iff_iff, beq_iff, decide_eq_true_eq]
  exact ⟨fun e => tti_inj (D.tup.inj e), fun e => by rw [e]⟩
theorem okD_tti {xss : List (List Int)} : okD 40 (tti xss) = true := by
  unfold okD
  exact okDs_tti xss
theorem rest_ok {p q : Int} {xs ms b : List Int} {s a l3 : Nat} (L : Ls p q xs ms) (hp3 : p ≤ 3) (hq : q ≤ 6) (hs : ms.sum ≤ q) (hb : (b.length : Int) = q) (hr : ∀ n ∈ b, 0 ≤ n ∧ n < p) (PL : Plain p q xs ms b) :
    Wp E (evSs (callF fs 11) (F.f_law_v49.body.drop 7) [some (.loc s), some (.loc a), some (.int p), some (.loc l3), some (gD p q xs), some (ti ms), some (ti b), none, none, none, none, none, none, none, none, none, none] h) (outK fun d _ => d = .bl true) := by
  have p0 := L.g.p0
  have q1 := L.g.q1
  have x8 := L.g.x8
  have p65 := L.g.hp
  have m0 : ∀ m ∈ ms, 0 ≤ m := fun m hm => (L.at_ m hm).1
  have sum0 : 0 ≤ ms.sum := by have := steps_len L.len m0; omega
  have hf : 0 ≤ freeI q ms ∧ freeI q ms ≤ 6 := by unfold freeI; split <;> omega
  have ptn : p.toNat ≤ 3 := by omega
  have sz : p.toNat ^ q.toNat ≤ 729 := by
    have h1 : p.toNat ^ q.toNat ≤ 3 ^ q.toNat := Nat.pow_le_pow_left ptn _
    have h2 : 3 ^ q.toNat ≤ 3 ^ 6 := Nat.pow_le_pow_right (by decide) (by omega)
    exact Nat.le_trans (Nat.le_trans h1 h2) (by decide)
  unfold F.f_law_v49
  dsimp only [List.drop]
  rw [wss_cons]
  simp only [we_int, we_str, we_bl, we_non, we_ty, we_cst, we_var, we_bin, we_cmp, we_chain, we_neg, we_not, we_and1, we_and2, we_or1, we_or2, we_ife, we_tup, we_lst, we_ix, we_sl, wo_none, wo_some, we_blt, we_call, we_meth, we_rev, we_srt, we_lrg1, we_lrg2, we_trg1, ws_nil, ws_cons, wt_tr, wt_cmp, wt_chain, wt_not, wt_and1, wt_and2, wt_or1, wt_or2, wts_nil, wts_one, wr_bl, wr_non, wr_int, wr_tup, wn_add, wn_sub, wn_mul, wn_div, wn_mod, wn_pow, wn_neg, wn_cat, wn_tmul, wn_lmul, wn_ladd, wc_lt, wc_le, wc_gt, wc_ge, wc_eq, wc_ne, wc_isnon, wc_isnt, wx_tup, wx_loc, wl_tup, wl_loc, wv_tup, wb_len_tup, wb_len_loc, wb_int, wb_list, wb_tuple, wb_sum, wb_min, wb_max, wi_int_int, wi_int_bool, wi_int_tup, wi_tup_tup, wi_tup_int, wm_append, wm_extend, wm_popAt, wm_count, wss_nil, wss_one, seqK_rt, seqK_bk, seqK_ct, wq_expr, wq_ret, wq_retN, wq_pass, wq_brk, wq_cont, wq_set, wq_setc, wq_par, wq_setIx, ws_setIx, wq_ife, wq_for, wq_whil, wq_never, outK_rt, outK_nx, wv_rng1, wv_rng2, wv_seq, wv_seq_tup, wv_seq_loc, wv_zip, wv_zip_tup, we_comp, wp_ok, wp_bad, wp_br, wp_bind, items_tup, tgF, setAll, startE_eq, nones, List.getElem?_cons_zero, List.getElem?_cons_succ, List.set_cons_zero, List.set_cons_succ, List.map_cons, List.map_nil, List.cons_append, List.nil_append, List.length_cons, List.length_nil, Nat.reduceAdd, Nat.reduceSub, Nat.reduceMul, Nat.reduceLT, Nat.reduceLeDiff, Nat.reduceEqDiff, Option.some.injEq, D.int.injEq, D.tup.injEq, D.loc.injEq, D.bl.injEq, exists_eq_left, exists_eq_left', exists_eq_right, true_and, and_true, if_true, if_false, ite_true, ite_false, reduceIte, Bool.false_eq_true, decide_eq_true_eq, eq_self, exists_const, Bool.not_true, Bool.not_false, Bool.not_eq_true', Bool.and_true, Bool.true_and, Bool.and_false, Bool.false_and, ne_eq, not_true_eq_false, not_false_eq_true, reduceCtorEq, Int.cast_ofNat_Int, Bool.not_eq_true, Bool.true_eq_false]
  refine (begun_ok p0 p65 L.g.xr m0 L.len (by omega) (by omega)).mono fun d h1 ⟨ed, k1⟩ => ?_
  subst ed
  rw [seqK_nx, wss_cons]
  simp only [we_int, we_str, we_bl, we_non, we_ty, we_cst, we_var, we_bin, we_cmp, we_chain, we_neg, we_not, we_and1, we_and2, we_or1, we_or2, we_ife, we_tup, we_lst, we_ix, we_sl, wo_none, wo_some, we_blt, we_call, we_meth, we_rev, we_srt, we_lrg1, we_lrg2, we_trg1, ws_nil, ws_cons, wt_tr, wt_cmp, wt_chain, wt_not, wt_and1, wt_and2, wt_or1, wt_or2, wts_nil, wts_one, wr_bl, wr_non, wr_int, wr_tup, wn_add, wn_sub, wn_mul, wn_div, wn_mod, wn_pow, wn_neg, wn_cat, wn_tmul, wn_lmul, wn_ladd, wc_lt, wc_le, wc_gt, wc_ge, wc_eq, wc_ne, wc_isnon, wc_isnt, wx_tup, wx_loc, wl_tup, wl_loc, wv_tup, wb_len_tup, wb_len_loc, wb_int, wb_list, wb_tuple, wb_sum, wb_min, wb_max, wi_int_int, wi_int_bool, wi_int_tup, wi_tup_tup, wi_tup_int, wm_append, wm_extend, wm_popAt, wm_count, wss_nil, wss_one, seqK_rt, seqK_bk, seqK_ct, wq_expr, wq_ret, wq_retN, wq_pass, wq_brk, wq_cont, wq_set, wq_setc, wq_par, wq_setIx, ws_setIx, wq_ife, wq_for, wq_whil, wq_never, outK_rt, outK_nx, wv_rng1, wv_rng2, wv_seq, wv_seq_tup, wv_seq_loc, wv_zip, wv_zip_tup, we_comp, wp_ok, wp_bad, wp_br, wp_bind, items_tup, tgF, setAll, startE_eq, nones, List.getElem?_cons_zero, List.getElem?_cons_succ, List.set_cons_zero, List.set_cons_succ, List.map_cons, List.map_nil, List.cons_append, List.nil_append, List.length_cons, List.length_nil, Nat.reduceAdd, Nat.reduceSub, Nat.reduceMul, Nat.reduceLT, Nat.reduceLeDiff, Nat.reduceEqDiff, Option.some.injEq, D.int.injEq, D.tup.injEq, D.loc.injEq, D.bl.injEq, exists_eq_left, exists_eq_left', exists_eq_right, true_and, and_true, if_true, if_false, ite_true, ite_false, reduceIte, Bool.false_eq_true, decide_eq_true_eq, eq_self, exists_const, Bool.not_true, Bool.not_false, Bool.not_eq_true', Bool.and_true, Bool.true_and, Bool.and_false, Bool.false_and, ne_eq, not_true_eq_false, not_false_eq_true, reduceCtorEq, Int.cast_ofNat_Int, Bool.not_eq_true, Bool.true_eq_false, gD_1]
  refine (listed_ok p0 (by omega) (by omega) (by omega)).mono fun d h2 ⟨l, ed, el, hl, k2⟩ => ?_
  subst ed
  simp only [we_int, we_str, we_bl, we_non, we_ty, we_cst, we_var, we_bin, we_cmp, we_chain, we_neg, we_not, we_and1, we_and2, we_or1, we_or2, we_ife, we_tup, we_lst, we_ix, we_sl, wo_none, wo_some, we_blt, we_call, we_meth, we_rev, we_srt, we_lrg1, we_lrg2, we_trg1, ws_nil, ws_cons, wt_tr, wt_cmp, wt_chain, wt_not, wt_and1, wt_and2, wt_or1, wt_or2, wts_nil, wts_one, wr_bl, wr_non, wr_int, wr_tup, wn_add, wn_sub, wn_mul, wn_div, wn_mod, wn_pow, wn_neg, wn_cat, wn_tmul, wn_lmul, wn_ladd, wc_lt, wc_le, wc_gt, wc_ge, wc_eq, wc_ne, wc_isnon, wc_isnt, wx_tup, wx_loc, wl_tup, wl_loc, wv_tup, wb_len_tup, wb_len_loc, wb_int, wb_list, wb_tuple, wb_sum, wb_min, wb_max, wi_int_int, wi_int_bool, wi_int_tup, wi_tup_tup, wi_tup_int, wm_append, wm_extend, wm_popAt, wm_count, wss_nil, wss_one, seqK_rt, seqK_bk, seqK_ct, wq_expr, wq_ret, wq_retN, wq_pass, wq_brk, wq_cont, wq_set, wq_setc, wq_par, wq_setIx, ws_setIx, wq_ife, wq_for, wq_whil, wq_never, outK_rt, outK_nx, wv_rng1, wv_rng2, wv_seq, wv_seq_tup, wv_seq_loc, wv_zip, wv_zip_tup, we_comp, wp_ok, wp_bad, wp_br, wp_bind, items_tup, tgF, setAll, startE_eq, nones, List.getElem?_cons_zero, List.getElem?_cons_succ, List.set_cons_zero, List.set_cons_succ, List.map_cons, List.map_nil, List.cons_append, List.nil_append, List.length_cons, List.length_nil, Nat.reduceAdd, Nat.reduceSub, Nat.reduceMul, Nat.reduceLT, Nat.reduceLeDiff, Nat.reduceEqDiff, Option.some.injEq, D.int.injEq, D.tup.injEq, D.loc.injEq, D.bl.injEq, exists_eq_left, exists_eq_left', exists_eq_right, true_and, and_true, if_true, if_false, ite_true, ite_false, reduceIte, Bool.false_eq_true, decide_eq_true_eq, eq_self, exists_const, Bool.not_true, Bool.not_false, Bool.not_eq_true', Bool.and_true, Bool.true_and, Bool.and_false, Bool.false_and, ne_eq, not_true_eq_false, not_false_eq_true, reduceCtorEq, Int.cast_ofNat_Int, Bool.not_eq_true, Bool.true_eq_false, items_lst el]
  refine wp_comp (S := Src.lst l ((allT p q.toNat).map ti)) (gsel p xs ms b) (still_of (.inl el)) (by simp [Src.items, allT_len, sizeLine_eq]; omega) (fun y hy h3 k3 => ?_) (fun h3 k3 hb3 => ?_)
  · obtain ⟨o, ho, ey⟩ := List.mem_map.mp hy
    subst ey
    have om := allT_mem ho
    refine ⟨_, rfl, ?_⟩
    simp only [we_int, we_str, we_bl, we_non, we_ty, we_cst, we_var, we_bin, we_cmp, we_chain, we_neg, we_not, we_and1, we_and2, we_or1, we_or2, we_ife, we_tup, we_lst, we_ix, we_sl, wo_none, wo_some, we_blt, we_call, we_meth, we_rev, we_srt, we_lrg1, we_lrg2, we_trg1, ws_nil, ws_cons, wt_tr, wt_cmp, wt_chain, wt_not, wt_and1, wt_and2, wt_or1, wt_or2, wts_nil, wts_one, wr_bl, wr_non, wr_int, wr_tup, wn_add, wn_sub, wn_mul, wn_div, wn_mod, wn_pow, wn_neg, wn_cat, wn_tmul, wn_lmul, wn_ladd, wc_lt, wc_le, wc_gt, wc_ge, wc_eq, wc_ne, wc_isnon, wc_isnt, wx_tup, wx_loc, wl_tup, wl_loc, wv_tup, wb_len_tup, wb_len_loc, wb_int, wb_list, wb_tuple, wb_sum, wb_min, wb_max, wi_int_int, wi_int_bool, wi_int_tup, wi_tup_tup, wi_tup_int, wm_append, wm_extend, wm_popAt, wm_count, wss_nil, wss_one, seqK_rt, seqK_bk, seqK_ct, wq_expr, wq_ret, wq_retN, wq_pass, wq_brk, wq_cont, wq_set, wq_setc, wq_par, wq_setIx, ws_setIx, wq_ife, wq_for, wq_whil, wq_never, outK_rt, outK_nx, wv_rng1, wv_rng2, wv_seq, wv_seq_tup, wv_seq_loc, wv_zip, wv_zip_tup, we_comp, wp_ok, wp_bad, wp_br, wp_bind, items_tup, tgF, setAll, startE_eq, nones, List.getElem?_cons_zero, List.getElem?_cons_succ, List.set_cons_zero, List.set_cons_succ, List.map_cons, List.map_nil, List.cons_append, List.nil_append, List.length_cons, List.length_nil, Nat.reduceAdd, Nat.reduceSub, Nat.reduceMul, Nat.reduceLT, Nat.reduceLeDiff, Nat.reduceEqDiff, Option.some.injEq, D.int.injEq, D.tup.injEq, D.loc.injEq, D.bl.injEq, exists_eq_left, exists_eq_left', exists_eq_right, true_and, and_true, if_true, if_false, ite_true, ite_false, reduceIte, Bool.false_eq_true, decide_eq_true_eq, eq_self, exists_const, Bool.not_true, Bool.not_false, Bool.not_eq_true', Bool.and_true, Bool.true_and, Bool.and_false, Bool.false_and, ne_eq, not_true_eq_false, not_false_eq_true, reduceCtorEq, Int.cast_ofNat_Int, Bool.not_eq_true, Bool.true_eq_false, wipeE]
    refine (begun_ok p0 p65 L.g.xr m0 L.len (by omega) (by omega)).mono fun d h4 ⟨ed, k4⟩ => ?_
    subst ed
    rw [wc_eqD okD_tti okD_tti, beq_tti]
    simp only [we_int, we_str, we_bl, we_non, we_ty, we_cst, we_var, we_bin, we_cmp, we_chain, we_neg, we_not, we_and1, we_and2, we_or1, we_or2, we_ife, we_tup, we_lst, we_ix, we_sl, wo_none, wo_some, we_blt, we_call, we_meth, we_rev, we_srt, we_lrg1, we_lrg2, we_trg1, ws_nil, ws_cons, wt_tr, wt_cmp, wt_chain, wt_not, wt_and1, wt_and2, wt_or1, wt_or2, wts_nil, wts_one, wr_bl, wr_non, wr_int, wr_tup, wn_add, wn_sub, wn_mul, wn_div, wn_mod, wn_pow, wn_neg, wn_cat, wn_tmul, wn_lmul, wn_ladd, wc_lt, wc_le, wc_gt, wc_ge, wc_eq, wc_ne, wc_isnon, wc_isnt, wx_tup, wx_loc, wl_tup, wl_loc, wv_tup, wb_len_tup, wb_len_loc, wb_int, wb_list, wb_tuple, wb_sum, wb_min, wb_max, wi_int_int, wi_int_bool, wi_int_tup, wi_tup_tup, wi_tup_int, wm_append, wm_extend, wm_popAt, wm_count, wss_nil, wss_one, seqK_rt, seqK_bk, seqK_ct, wq_expr, wq_ret, wq_retN, wq_pass, wq_brk, wq_cont, wq_set, wq_setc, wq_par, wq_setIx, ws_setIx, wq_ife, wq_for, wq_whil, wq_never, outK_rt, outK_nx, wv_rng1, wv_rng2, wv_seq, wv_seq_tup, wv_seq_loc, wv_zip, wv_zip_tup, we_comp, wp_ok, wp_bad, wp_br, wp_bind, items_tup, tgF, setAll, startE_eq, nones, List.getElem?_cons_zero, List.getElem?_cons_succ, List.set_cons_zero, List.set_cons_succ, List.map_cons, List.map_nil, List.cons_append, List.nil_append, List.length_cons, List.length_nil, Nat.reduceAdd, Nat.reduceSub, Nat.reduceMul, Nat.reduceLT, Nat.reduceLeDiff, Nat.reduceEqDiff, Option.some.injEq, D.int.injEq, D.tup.injEq, D.loc.injEq, D.bl.injEq, exists_eq_left, exists_eq_left', exists_eq_right, true_and, and_true, if_true, if_false, ite_true, ite_false, reduceIte, Bool.false_eq_true, decide_eq_true_eq, eq_self, exists_const, Bool.not_true, Bool.not_false, Bool.not_eq_true', Bool.and_true, Bool.true_and, Bool.and_false, Bool.false_and, ne_eq, not_true_eq_false, not_false_eq_true, reduceCtorEq, Int.cast_ofNat_Int, Bool.not_eq_true, Bool.true_eq_false]
    refine ⟨k4, ?_⟩
    rw [gsel_ti]
    split
    · exact ⟨k4, rfl⟩
    · rfl
  rw [show (Src.lst l ((allT p q.toNat).map ti)).items = (allT p q.toNat).map ti from rfl, gsel_all] at hb3
  change h3[h2.length]? = some (.lst ((alikeL p q xs ms b).map ti)) at hb3
  generalize hla : h2.length = la at hb3
  have lan : (alikeL p q xs ms b).length ≤ 729 := by
    have := List.length_filter_le (fun o => decide (begunL p xs ms o = begunL p xs ms b)) (allT p q.toNat)
    rw [allT_len] at this
    exact Nat.le_trans this sz
  have pw : ∀ t : Nat, t ≤ 6 → 0 < p ^ t ∧ p ^ t ≤ 729 := fun t ht => by
    have h0 : (p : Int) ^ t = ((p.toNat ^ t : Nat) : Int) := by rw [Int.natCast_pow, Int.toNat_of_nonneg (by omega)]
    have h1 : p.toNat ^ t ≤ 3 ^ t := Nat.pow_le_pow_left ptn _
    have h2 : 3 ^ t ≤ 3 ^ 6 := Nat.pow_le_pow_right (by decide) ht
    have h3 : (3 : Nat) ^ 6 = 729 := by decide
    have h4 : 0 < p.toNat ^ t := Nat.pow_pos (by omega)
    omega
  rw [seqK_nx, wss_cons]
  simp only [we_int, we_str, we_bl, we_non, we_ty, we_cst, we_var, we_bin, we_cmp, we_chain, we_neg, we_not, we_and1, we_and2, we_or1, we_or2, we_ife, we_tup, we_lst, we_ix, we_sl, wo_none, wo_some, we_blt, we_call, we_meth, we_rev, we_srt, we_lrg1, we_lrg2, we_trg1, ws_nil, ws_cons, wt_tr, wt_cmp, wt_chain, wt_not, wt_and1, wt_and2, wt_or1, wt_or2, wts_nil, wts_one, wr_bl, wr_non, wr_int, wr_tup, wn_add, wn_sub, wn_mul, wn_div, wn_mod, wn_pow, wn_neg, wn_cat, wn_tmul, wn_lmul, wn_ladd, wc_lt, wc_le, wc_gt, wc_ge, wc_eq, wc_ne, wc_isnon, wc_isnt, wx_tup, wx_loc, wl_tup, wl_loc, wv_tup, wb_len_tup, wb_len_loc, wb_int, wb_list, wb_tuple, wb_sum, wb_min, wb_max, wi_int_int, wi_int_bool, wi_int_tup, wi_tup_tup, wi_tup_int, wm_append, wm_extend, wm_popAt, wm_count, wss_nil, wss_one, seqK_rt, seqK_bk, seqK_ct, wq_expr, wq_ret, wq_retN, wq_pass, wq_brk, wq_cont, wq_set, wq_setc, wq_par, wq_setIx, ws_setIx, wq_ife, wq_for, wq_whil, wq_never, outK_rt, outK_nx, wv_rng1, wv_rng2, wv_seq, wv_seq_tup, wv_seq_loc, wv_zip, wv_zip_tup, we_comp, wp_ok, wp_bad, wp_br, wp_bind, items_tup, tgF, setAll, startE_eq, nones, List.getElem?_cons_zero, List.getElem?_cons_succ, List.set_cons_zero, List.set_cons_succ, List.map_cons, List.map_nil, List.cons_append, List.nil_append, List.length_cons, List.length_nil, Nat.reduceAdd, Nat.reduceSub, Nat.reduceMul, Nat.reduceLT, Nat.reduceLeDiff, Nat.reduceEqDiff, Option.some.injEq, D.int.injEq, D.tup.injEq, D.loc.injEq, D.bl.injEq, exists_eq_left, exists_eq_left', exists_eq_right, true_and, and_true, if_true, if_false, ite_true, ite_false, reduceIte, Bool.false_eq_true, decide_eq_true_eq, eq_self, exists_const, Bool.not_true, Bool.not_false, Bool.not_eq_true', Bool.and_true, Bool.true_and, Bool.and_false, Bool.false_and, ne_eq, not_true_eq_false, not_false_eq_true, reduceCtorEq, Int.cast_ofNat_Int, Bool.not_eq_true, Bool.true_eq_false]
  rw [seqK_nx, wss_cons]
  simp only [we_int, we_str, we_bl, we_non, we_ty, we_cst, we_var, we_bin, we_cmp, we_chain, we_neg, we_not, we_and1, we_and2, we_or1, we_or2, we_ife, we_tup, we_lst, we_ix, we_sl, wo_none, wo_some, we_blt, we_call, we_meth, we_rev, we_srt, we_lrg1, we_lrg2, we_trg1, ws_nil, ws_cons, wt_tr, wt_cmp, wt_chain, wt_not, wt_and1, wt_and2, wt_or1, wt_or2, wts_nil, wts_one, wr_bl, wr_non, wr_int, wr_tup, wn_add, wn_sub, wn_mul, wn_div, wn_mod, wn_pow, wn_neg, wn_cat, wn_tmul, wn_lmul, wn_ladd, wc_lt, wc_le, wc_gt, wc_ge, wc_eq, wc_ne, wc_isnon, wc_isnt, wx_tup, wx_loc, wl_tup, wl_loc, wv_tup, wb_len_tup, wb_len_loc, wb_int, wb_list, wb_tuple, wb_sum, wb_min, wb_max, wi_int_int, wi_int_bool, wi_int_tup, wi_tup_tup, wi_tup_int, wm_append, wm_extend, wm_popAt, wm_count, wss_nil, wss_one, seqK_rt, seqK_bk, seqK_ct, wq_expr, wq_ret, wq_retN, wq_pass, wq_brk, wq_cont, wq_set, wq_setc, wq_par, wq_setIx, ws_setIx, wq_ife, wq_for, wq_whil, wq_never, outK_rt, outK_nx, wv_rng1, wv_rng2, wv_seq, wv_seq_tup, wv_seq_loc, wv_zip, wv_zip_tup, we_comp, wp_ok, wp_bad, wp_br, wp_bind, items_tup, tgF, setAll, startE_eq, nones, List.getElem?_cons_zero, List.getElem?_cons_succ, List.set_cons_zero, List.set_cons_succ, List.map_cons, List.map_nil, List.cons_append, List.nil_append, List.length_cons, List.length_nil, Nat.reduceAdd, Nat.reduceSub, Nat.reduceMul, Nat.reduceLT, Nat.reduceLeDiff, Nat.reduceEqDiff, Option.some.injEq, D.int.injEq, D.tup.injEq, D.loc.injEq, D.bl.injEq, exists_eq_left, exists_eq_left', exists_eq_right, true_and, and_true, if_true, if_false, ite_true, ite_false, reduceIte, Bool.false_eq_true, decide_eq_true_eq, eq_self, exists_const, Bool.not_true, Bool.not_false, Bool.not_eq_true', Bool.and_true, Bool.true_and, Bool.and_false, Bool.false_and, ne_eq, not_true_eq_false, not_false_eq_true, reduceCtorEq, Int.cast_ofNat_Int, Bool.not_eq_true, Bool.true_eq_false, ways_left_ok L]
  refine ⟨⟨by omega, by omega⟩, ?_⟩
  refine wp_loop (S := Src.rng 0 (freeI q ms).toNat) (fun i ρ h' => (∃ x10, ρ = [some (.loc s), some (.loc a), some (.int p), some (.loc l3), some (gD p q xs), some (ti ms), some (ti b), some (tti (begunL p xs ms b)), some (.loc la), some (.int (p ^ i)), x10, none, none, none, none, none, none]) ∧ h' = h3) (fun _ _ _ _ => rfl) (fun i y ρ h' hy ⟨⟨x10, e⟩, eh⟩ => ?_) (fun ρ h' ⟨⟨x10, e⟩, eh⟩ => ?_) ⟨⟨none, by rw [Int.pow_zero]⟩, rfl⟩
  · obtain ⟨hi, ey⟩ := rng_item hy
    subst e ey eh
    refine ⟨_, rfl, ?_⟩
    have := pw i (by omega)
    simp only [we_int, we_str, we_bl, we_non, we_ty, we_cst, we_var, we_bin, we_cmp, we_chain, we_neg, we_not, we_and1, we_and2, we_or1, we_or2, we_ife, we_tup, we_lst, we_ix, we_sl, wo_none, wo_some, we_blt, we_call, we_meth, we_rev, we_srt, we_lrg1, we_lrg2, we_trg1, ws_nil, ws_cons, wt_tr, wt_cmp, wt_chain, wt_not, wt_and1, wt_and2, wt_or1, wt_or2, wts_nil, wts_one, wr_bl, wr_non, wr_int, wr_tup, wn_add, wn_sub, wn_mul, wn_div, wn_mod, wn_pow, wn_neg, wn_cat, wn_tmul, wn_lmul, wn_ladd, wc_lt, wc_le, wc_gt, wc_ge, wc_eq, wc_ne, wc_isnon, wc_isnt, wx_tup, wx_loc, wl_tup, wl_loc, wv_tup, wb_len_tup, wb_len_loc, wb_int, wb_list, wb_tuple, wb_sum, wb_min, wb_max, wi_int_int, wi_int_bool, wi_int_tup, wi_tup_tup, wi_tup_int, wm_append, wm_extend, wm_popAt, wm_count, wss_nil, wss_one, seqK_rt, seqK_bk, seqK_ct, wq_expr, wq_ret, wq_retN, wq_pass, wq_brk, wq_cont, wq_set, wq_setc, wq_par, wq_setIx, ws_setIx, wq_ife, wq_for, wq_whil, wq_never, outK_rt, outK_nx, wv_rng1, wv_rng2, wv_seq, wv_seq_tup, wv_seq_loc, wv_zip, wv_zip_tup, we_comp, wp_ok, wp_bad, wp_br, wp_bind, items_tup, tgF, setAll, startE_eq, nones, List.getElem?_cons_zero, List.getElem?_cons_succ, List.set_cons_zero, List.set_cons_succ, List.map_cons, List.map_nil, List.cons_append, List.nil_append, List.length_cons, List.length_nil, Nat.reduceAdd, Nat.reduceSub, Nat.reduceMul, Nat.reduceLT, Nat.reduceLeDiff, Nat.reduceEqDiff, Option.some.injEq, D.int.injEq, D.tup.injEq, D.loc.injEq, D.bl.injEq, exists_eq_left, exists_eq_left', exists_eq_right, true_and, and_true, if_true, if_false, ite_true, ite_false, reduceIte, Bool.false_eq_true, decide_eq_true_eq, eq_self, exists_const, Bool.not_true, Bool.not_false, Bool.not_eq_true', Bool.and_true, Bool.true_and, Bool.and_false, Bool.false_and, ne_eq, not_true_eq_false, not_false_eq_true, reduceCtorEq, Int.cast_ofNat_Int, Bool.not_eq_true, Bool.true_eq_false]
    exact ⟨mulOk_of (by omega) (by omega), some (.int (i : Int)), by rw [Int.pow_succ]⟩
  subst e eh
  rw [rng_len]
  rw [seqK_nx, wss_cons]
  simp only [we_int, we_str, we_bl, we_non, we_ty, we_cst, we_var, we_bin, we_cmp, we_chain, we_neg, we_not, we_and1, we_and2, we_or1, we_or2, we_ife, we_tup, we_lst, we_ix, we_sl, wo_none, wo_some, we_blt, we_call, we_meth, we_rev, we_srt, we_lrg1, we_lrg2, we_trg1, ws_nil, ws_cons, wt_tr, wt_cmp, wt_chain, wt_not, wt_and1, wt_and2, wt_or1, wt_or2, wts_nil, wts_one, wr_bl, wr_non, wr_int, wr_tup, wn_add, wn_sub, wn_mul, wn_div, wn_mod, wn_pow, wn_neg, wn_cat, wn_tmul, wn_lmul, wn_ladd, wc_lt, wc_le, wc_gt, wc_ge, wc_eq, wc_ne, wc_isnon, wc_isnt, wx_tup, wx_loc, wl_tup, wl_loc, wv_tup, wb_len_tup, wb_len_loc, wb_int, wb_list, wb_tuple, wb_sum, wb_min, wb_max, wi_int_int, wi_int_bool, wi_int_tup, wi_tup_tup, wi_tup_int, wm_append, wm_extend, wm_popAt, wm_count, wss_nil, wss_one, seqK_rt, seqK_bk, seqK_ct, wq_expr, wq_ret, wq_retN, wq_pass, wq_brk, wq_cont, wq_set, wq_setc, wq_par, wq_setIx, ws_setIx, wq_ife, wq_for, wq_whil, wq_never, outK_rt, outK_nx, wv_rng1, wv_rng2, wv_seq, wv_seq_tup, wv_seq_loc, wv_zip, wv_zip_tup, we_comp, wp_ok, wp_bad, wp_br, wp_bind, items_tup, tgF, setAll, startE_eq, nones, List.getElem?_cons_zero, List.getElem?_cons_succ, List.set_cons_zero, List.set_cons_succ, List.map_cons, List.map_nil, List.cons_append, List.nil_append, List.length_cons, List.length_nil, Nat.reduceAdd, Nat.reduceSub, Nat.reduceMul, Nat.reduceLT, Nat.reduceLeDiff, Nat.reduceEqDiff, Option.some.injEq, D.int.injEq, D.tup.injEq, D.loc.injEq, D.bl.injEq, exists_eq_left, exists_eq_left', exists_eq_right, true_and, and_true, if_true, if_false, ite_true, ite_false, reduceIte, Bool.false_eq_true, decide_eq_true_eq, eq_self, exists_const, Bool.not_true, Bool.not_false, Bool.not_eq_true', Bool.and_true, Bool.true_and, Bool.and_false, Bool.false_and, ne_eq, not_true_eq_false, not_false_eq_true, reduceCtorEq, Int.cast_ofNat_Int, Bool.not_eq_true, Bool.true_eq_false, items_lst hb3, List.length_map]
  rw [if_neg (by rw [PL.len]; simp)]
  rw [seqK_nx, wss_cons]
  simp only [we_int, we_str, we_bl, we_non, we_ty, we_cst, we_var, we_bin, we_cmp, we_chain, we_neg, we_not, we_and1, we_and2, we_or1, we_or2, we_ife, we_tup, we_lst, we_ix, we_sl, wo_none, wo_some, we_blt, we_call, we_meth, we_rev, we_srt, we_lrg1, we_lrg2, we_trg1, ws_nil, ws_cons, wt_tr, wt_cmp, wt_chain, wt_not, wt_and1, wt_and2, wt_or1, wt_or2, wts_nil, wts_one, wr_bl, wr_non, wr_int, wr_tup, wn_add, wn_sub, wn_mul, wn_div, wn_mod, wn_pow, wn_neg, wn_cat, wn_tmul, wn_lmul, wn_ladd, wc_lt, wc_le, wc_gt, wc_ge, wc_eq, wc_ne, wc_isnon, wc_isnt, wx_tup, wx_loc, wl_tup, wl_loc, wv_tup, wb_len_tup, wb_len_loc, wb_int, wb_list, wb_tuple, wb_sum, wb_min, wb_max, wi_int_int, wi_int_bool, wi_int_tup, wi_tup_tup, wi_tup_int, wm_append, wm_extend, wm_popAt, wm_count, wss_nil, wss_one, seqK_rt, seqK_bk, seqK_ct, wq_expr, wq_ret, wq_retN, wq_pass, wq_brk, wq_cont, wq_set, wq_setc, wq_par, wq_setIx, ws_setIx, wq_ife, wq_for, wq_whil, wq_never, outK_rt, outK_nx, wv_rng1, wv_rng2, wv_seq, wv_seq_tup, wv_seq_loc, wv_zip, wv_zip_tup, we_comp, wp_ok, wp_bad, wp_br, wp_bind, items_tup, tgF, setAll, startE_eq, nones, List.getElem?_cons_zero, List.getElem?_cons_succ, List.set_cons_zero, List.set_cons_succ, List.map_cons, List.map_nil, List.cons_append, List.nil_append, List.length_cons, List.length_nil, Nat.reduceAdd, Nat.reduceSub, Nat.reduceMul, Nat.reduceLT, Nat.reduceLeDiff, Nat.reduceEqDiff, Option.some.injEq, D.int.injEq, D.tup.injEq, D.loc.injEq, D.bl.injEq, exists_eq_left, exists_eq_left', exists_eq_right, true_and, and_true, if_true, if_false, ite_true, ite_false, reduceIte, Bool.false_eq_true, decide_eq_true_eq, eq_self, exists_const, Bool.not_true, Bool.not_false, Bool.not_eq_true', Bool.and_true, Bool.true_and, Bool.and_false, Bool.false_and, ne_eq, not_true_eq_false, not_false_eq_true, reduceCtorEq, Int.cast_ofNat_Int, Bool.not_eq_true, Bool.true_eq_false]
  refine (early_ok L).mono fun d h4 ⟨ed, k4⟩ => ?_
  subst ed
  have hb4 := k4.get hb3 (by simp)
  rw [seqK_nx, wss_cons]
  simp only [we_int, we_str, we_bl, we_non, we_ty, we_cst, we_var, we_bin, we_cmp, we_chain, we_neg, we_not, we_and1, we_and2, we_or1, we_or2, we_ife, we_tup, we_lst, we_ix, we_sl, wo_none, wo_some, we_blt, we_call, we_meth, we_rev, we_srt, we_lrg1, we_lrg2, we_trg1, ws_nil, ws_cons, wt_tr, wt_cmp, wt_chain, wt_not, wt_and1, wt_and2, wt_or1, wt_or2, wts_nil, wts_one, wr_bl, wr_non, wr_int, wr_tup, wn_add, wn_sub, wn_mul, wn_div, wn_mod, wn_pow, wn_neg, wn_cat, wn_tmul, wn_lmul, wn_ladd, wc_lt, wc_le, wc_gt, wc_ge, wc_eq, wc_ne, wc_isnon, wc_isnt, wx_tup, wx_loc, wl_tup, wl_loc, wv_tup, wb_len_tup, wb_len_loc, wb_int, wb_list, wb_tuple, wb_sum, wb_min, wb_max, wi_int_int, wi_int_bool, wi_int_tup, wi_tup_tup, wi_tup_int, wm_append, wm_extend, wm_popAt, wm_count, wss_nil, wss_one, seqK_rt, seqK_bk, seqK_ct, wq_expr, wq_ret, wq_retN, wq_pass, wq_brk, wq_cont, wq_set, wq_setc, wq_par, wq_setIx, ws_setIx, wq_ife, wq_for, wq_whil, wq_never, outK_rt, outK_nx, wv_rng1, wv_rng2, wv_seq, wv_seq_tup, wv_seq_loc, wv_zip, wv_zip_tup, we_comp, wp_ok, wp_bad, wp_br, wp_bind, items_tup, tgF, setAll, startE_eq, nones, List.getElem?_cons_zero, List.getElem?_cons_succ, List.set_cons_zero, List.set_cons_succ, List.map_cons, List.map_nil, List.cons_append, List.nil_append, List.length_cons, List.length_nil, Nat.reduceAdd, Nat.reduceSub, Nat.reduceMul, Nat.reduceLT, Nat.reduceLeDiff, Nat.reduceEqDiff, Option.some.injEq, D.int.injEq, D.tup.injEq, D.loc.injEq, D.bl.injEq, exists_eq_left, exists_eq_left', exists_eq_right, true_and, and_true, if_true, if_false, ite_true, ite_false, reduceIte, Bool.false_eq_true, decide_eq_true_eq, eq_self, exists_const, Bool.not_true, Bool.not_false, Bool.not_eq_true', Bool.and_true, Bool.true_and, Bool.and_false, Bool.false_and, ne_eq, not_true_eq_false, not_false_eq_true, reduceCtorEq, Int.cast_ofNat_Int, Bool.not_eq_true, Bool.true_eq_false, gD_1]
  refine ⟨⟨by omega, by omega⟩, ?_⟩
  generalize hmany : p ^ (freeI q ms).toNat = many
  have hm := pw (freeI q ms).toNat (by omega)
  rw [hmany] at hm
  refine wp_loop (S := Src.rng 0 q.toNat) (fun i ρ h' => (∃ x12 x13 x14 x15 x16, ρ = [some (.loc s), some (.loc a), some (.int p), some (.loc l3), some (gD p q xs), some (ti ms), some (ti b), some (tti (begunL p xs ms b)), some (.loc la), some (.int many), x10, some (ti (earlyL p q xs ms)), x12, x13, x14, x15, x16]) ∧ h'[la]? = some (.lst ((alikeL p q xs ms b).map ti))) (fun _ _ _ _ => rfl) (fun i y ρ h' hy ⟨⟨x12, x13, x14, x15, x16, e⟩, e1⟩ => ?_) (fun ρ h' ⟨⟨x12, x13, x14, x15, x16, e⟩, e1⟩ => ?_) ⟨⟨none, none, none, none, none, rfl⟩, hb4⟩
  · obtain ⟨hi, ey⟩ := rng_item hy
    subst e ey
    refine ⟨_, rfl, ?_⟩
    have hiq : (i : Int) < q := by omega
    have hib : i < b.length := by omega
    rw [wss_cons]
    simp only [we_int, we_str, we_bl, we_non, we_ty, we_cst, we_var, we_bin, we_cmp, we_chain, we_neg, we_not, we_and1, we_and2, we_or1, we_or2, we_ife, we_tup, we_lst, we_ix, we_sl, wo_none, wo_some, we_blt, we_call, we_meth, we_rev, we_srt, we_lrg1, we_lrg2, we_trg1, ws_nil, ws_cons, wt_tr, wt_cmp, wt_chain, wt_not, wt_and1, wt_and2, wt_or1, wt_or2, wts_nil, wts_one, wr_bl, wr_non, wr_int, wr_tup, wn_add, wn_sub, wn_mul, wn_div, wn_mod, wn_pow, wn_neg, wn_cat, wn_tmul, wn_lmul, wn_ladd, wc_lt, wc_le, wc_gt, wc_ge, wc_eq, wc_ne, wc_isnon, wc_isnt, wx_tup, wx_loc, wl_tup, wl_loc, wv_tup, wb_len_tup, wb_len_loc, wb_int, wb_list, wb_tuple, wb_sum, wb_min, wb_max, wi_int_int, wi_int_bool, wi_int_tup, wi_tup_tup, wi_tup_int, wm_append, wm_extend, wm_popAt, wm_count, wss_nil, wss_one, seqK_rt, seqK_bk, seqK_ct, wq_expr, wq_ret, wq_retN, wq_pass, wq_brk, wq_cont, wq_set, wq_setc, wq_par, wq_setIx, ws_setIx, wq_ife, wq_for, wq_whil, wq_never, outK_rt, outK_nx, wv_rng1, wv_rng2, wv_seq, wv_seq_tup, wv_seq_loc, wv_zip, wv_zip_tup, we_comp, wp_ok, wp_bad, wp_br, wp_bind, items_tup, tgF, setAll, startE_eq, nones, List.getElem?_cons_zero, List.getElem?_cons_succ, List.set_cons_zero, List.set_cons_succ, List.map_cons, List.map_nil, List.cons_append, List.nil_append, List.length_cons, List.length_nil, Nat.reduceAdd, Nat.reduceSub, Nat.reduceMul, Nat.reduceLT, Nat.reduceLeDiff, Nat.reduceEqDiff, Option.some.injEq, D.int.injEq, D.tup.injEq, D.loc.injEq, D.bl.injEq, exists_eq_left, exists_eq_left', exists_eq_right, true_and, and_true, if_true, if_false, ite_true, ite_false, reduceIte, Bool.false_eq_true, decide_eq_true_eq, eq_self, exists_const, Bool.not_true, Bool.not_false, Bool.not_eq_true', Bool.and_true, Bool.true_and, Bool.and_false, Bool.false_and, ne_eq, not_true_eq_false, not_false_eq_true, reduceCtorEq, Int.cast_ofNat_Int, Bool.not_eq_true, Bool.true_eq_false, items_lst e1]
    refine wp_comp (S := Src.lst la ((alikeL p q xs ms b).map ti)) (fun y => match y with | .tup ds => (intsOf ds).map fun o => .int (o.getD i 0) | _ => none) (still_of (.inl e1)) (by simp [Src.items, sizeLine_eq]; omega) (fun y hy h5 k5 => ?_) (fun h5 k5 hb5 => ?_)
    · obtain ⟨o, ho, ey⟩ := List.mem_map.mp hy
      subst ey
      have om := allT_mem ((List.mem_filter.mp ho).1)
      have hio : i < o.length := by omega
      refine ⟨_, rfl, ?_⟩
      simp only [we_int, we_str, we_bl, we_non, we_ty, we_cst, we_var, we_bin, we_cmp, we_chain, we_neg, we_not, we_and1, we_and2, we_or1, we_or2, we_ife, we_tup, we_lst, we_ix, we_sl, wo_none, wo_some, we_blt, we_call, we_meth, we_rev, we_srt, we_lrg1, we_lrg2, we_trg1, ws_nil, ws_cons, wt_tr, wt_cmp, wt_chain, wt_not, wt_and1, wt_and2, wt_or1, wt_or2, wts_nil, wts_one, wr_bl, wr_non, wr_int, wr_tup, wn_add, wn_sub, wn_mul, wn_div, wn_mod, wn_pow, wn_neg, wn_cat, wn_tmul, wn_lmul, wn_ladd, wc_lt, wc_le, wc_gt, wc_ge, wc_eq, wc_ne, wc_isnon, wc_isnt, wx_tup, wx_loc, wl_tup, wl_loc, wv_tup, wb_len_tup, wb_len_loc, wb_int, wb_list, wb_tuple, wb_sum, wb_min, wb_max, wi_int_int, wi_int_bool, wi_int_tup, wi_tup_tup, wi_tup_int, wm_append, wm_extend, wm_popAt, wm_count, wss_nil, wss_one, seqK_rt, seqK_bk, seqK_ct, wq_expr, wq_ret, wq_retN, wq_pass, wq_brk, wq_cont, wq_set, wq_setc, wq_par, wq_setIx, ws_setIx, wq_ife, wq_for, wq_whil, wq_never, outK_rt, outK_nx, wv_rng1, wv_rng2, wv_seq, wv_seq_tup, wv_seq_loc, wv_zip, wv_zip_tup, we_comp, wp_ok, wp_bad, wp_br, wp_bind, items_tup, tgF, setAll, startE_eq, nones, List.getElem?_cons_zero, List.getElem?_cons_succ, List.set_cons_zero, List.set_cons_succ, List.map_cons, List.map_nil, List.cons_append, List.nil_append, List.length_cons, List.length_nil, Nat.reduceAdd, Nat.reduceSub, Nat.reduceMul, Nat.reduceLT, Nat.reduceLeDiff, Nat.reduceEqDiff, Option.some.injEq, D.int.injEq, D.tup.injEq, D.loc.injEq, D.bl.injEq, exists_eq_left, exists_eq_left', exists_eq_right, true_and, and_true, if_true, if_false, ite_true, ite_false, reduceIte, Bool.false_eq_true, decide_eq_true_eq, eq_self, exists_const, Bool.not_true, Bool.not_false, Bool.not_eq_true', Bool.and_true, Bool.true_and, Bool.and_false, Bool.false_and, ne_eq, not_true_eq_false, not_false_eq_true, reduceCtorEq, Int.cast_ofNat_Int, Bool.not_eq_true, Bool.true_eq_false, wipeE, ti_at hio, intsOf_map, Option.map_some]
      exact ⟨Kp.refl, Kp.refl, by rw [getD_of hio]⟩
    have ef : (Src.lst la ((alikeL p q xs ms b).map ti)).items.filterMap (fun y => match y with | .tup ds => (intsOf ds).map fun o => D.int (o.getD i 0) | _ => none) = ((alikeL p q xs ms b).map fun o => o.getD i 0).map D.int := by
      simp only [Src.items, List.filterMap_map, List.map_map]
      refine fmap_some fun o _ => ?_
      show (intsOf (o.map D.int)).map _ = _
      rw [intsOf_map]; rfl
    rw [ef] at hb5
    generalize hN : (alikeL p q xs ms b).map (fun o => o.getD i 0) = N at hb5
    have lN : N.length ≤ 729 := by rw [← hN, List.length_map]; exact lan
    rw [seqK_nx, wss_cons]
    simp only [we_int, we_str, we_bl, we_non, we_ty, we_cst, we_var, we_bin, we_cmp, we_chain, we_neg, we_not, we_and1, we_and2, we_or1, we_or2, we_ife, we_tup, we_lst, we_ix, we_sl, wo_none, wo_some, we_blt, we_call, we_meth, we_rev, we_srt, we_lrg1, we_lrg2, we_trg1, ws_nil, ws_cons, wt_tr, wt_cmp, wt_chain, wt_not, wt_and1, wt_and2, wt_or1, wt_or2, wts_nil, wts_one, wr_bl, wr_non, wr_int, wr_tup, wn_add, wn_sub, wn_mul, wn_div, wn_mod, wn_pow, wn_neg, wn_cat, wn_tmul, wn_lmul, wn_ladd, wc_lt, wc_le, wc_gt, wc_ge, wc_eq, wc_ne, wc_isnon, wc_isnt, wx_tup, wx_loc, wl_tup, wl_loc, wv_tup, wb_len_tup, wb_len_loc, wb_int, wb_list, wb_tuple, wb_sum, wb_min, wb_max, wi_int_int, wi_int_bool, wi_int_tup, wi_tup_tup, wi_tup_int, wm_append, wm_extend, wm_popAt, wm_count, wss_nil, wss_one, seqK_rt, seqK_bk, seqK_ct, wq_expr, wq_ret, wq_retN, wq_pass, wq_brk, wq_cont, wq_set, wq_setc, wq_par, wq_setIx, ws_setIx, wq_ife, wq_for, wq_whil, wq_never, outK_rt, outK_nx, wv_rng1, wv_rng2, wv_seq, wv_seq_tup, wv_seq_loc, wv_zip, wv_zip_tup, we_comp, wp_ok, wp_bad, wp_br, wp_bind, items_tup, tgF, setAll, startE_eq, nones, List.getElem?_cons_zero, List.getElem?_cons_succ, List.set_cons_zero, List.set_cons_succ, List.map_cons, List.map_nil, List.cons_append, List.nil_append, List.length_cons, List.length_nil, Nat.reduceAdd, Nat.reduceSub, Nat.reduceMul, Nat.reduceLT, Nat.reduceLeDiff, Nat.reduceEqDiff, Option.some.injEq, D.int.injEq, D.tup.injEq, D.loc.injEq, D.bl.injEq, exists_eq_left, exists_eq_left', exists_eq_right, true_and, and_true, if_true, if_false, ite_true, ite_false, reduceIte, Bool.false_eq_true, decide_eq_true_eq, eq_self, exists_const, Bool.not_true, Bool.not_false, Bool.not_eq_true', Bool.and_true, Bool.true_and, Bool.and_false, Bool.false_and, ne_eq, not_true_eq_false, not_false_eq_true, reduceCtorEq, Int.cast_ofNat_Int, Bool.not_eq_true, Bool.true_eq_false]
    generalize hl5 : h'.length = l5 at hb5
    refine ⟨⟨by omega, by omega⟩, ?_⟩
    refine wp_comp (S := Src.rng 0 p.toNat) (fun y => match y with | .int c => some (.int (N.count c : Nat)) | _ => none) rfl (by rw [rng_len, sizeLine_eq]; omega) (fun y hy h6 k6 => ?_) (fun h6 k6 hb6 => ?_)
    · obtain ⟨c, hc, ey⟩ := rng_items_mem hy
      subst ey
      refine ⟨_, rfl, ?_⟩
      have e6 := k6.get hb5 (by simp)
      simp only [we_int, we_str, we_bl, we_non, we_ty, we_cst, we_var, we_bin, we_cmp, we_chain, we_neg, we_not, we_and1, we_and2, we_or1, we_or2, we_ife, we_tup, we_lst, we_ix, we_sl, wo_none, wo_some, we_blt, we_call, we_meth, we_rev, we_srt, we_lrg1, we_lrg2, we_trg1, ws_nil, ws_cons, wt_tr, wt_cmp, wt_chain, wt_not, wt_and1, wt_and2, wt_or1, wt_or2, wts_nil, wts_one, wr_bl, wr_non, wr_int, wr_tup, wn_add, wn_sub, wn_mul, wn_div, wn_mod, wn_pow, wn_neg, wn_cat, wn_tmul, wn_lmul, wn_ladd, wc_lt, wc_le, wc_gt, wc_ge, wc_eq, wc_ne, wc_isnon, wc_isnt, wx_tup, wx_loc, wl_tup, wl_loc, wv_tup, wb_len_tup, wb_len_loc, wb_int, wb_list, wb_tuple, wb_sum, wb_min, wb_max, wi_int_int, wi_int_bool, wi_int_tup, wi_tup_tup, wi_tup_int, wm_append, wm_extend, wm_popAt, wm_count, wss_nil, wss_one, seqK_rt, seqK_bk, seqK_ct, wq_expr, wq_ret, wq_retN, wq_pass, wq_brk, wq_cont, wq_set, wq_setc, wq_par, wq_setIx, ws_setIx, wq_ife, wq_for, wq_whil, wq_never, outK_rt, outK_nx, wv_rng1, wv_rng2, wv_seq, wv_seq_tup, wv_seq_loc, wv_zip, wv_zip_tup, we_comp, wp_ok, wp_bad, wp_br, wp_bind, items_tup, tgF, setAll, startE_eq, nones, List.getElem?_cons_zero, List.getElem?_cons_succ, List.set_cons_zero, List.set_cons_succ, List.map_cons, List.map_nil, List.cons_append, List.nil_append, List.length_cons, List.length_nil, Nat.reduceAdd, Nat.reduceSub, Nat.reduceMul, Nat.reduceLT, Nat.reduceLeDiff, Nat.reduceEqDiff, Option.some.injEq, D.int.injEq, D.tup.injEq, D.loc.injEq, D.bl.injEq, exists_eq_left, exists_eq_left', exists_eq_right, true_and, and_true, if_true, if_false, ite_true, ite_false, reduceIte, Bool.false_eq_true, decide_eq_true_eq, eq_self, exists_const, Bool.not_true, Bool.not_false, Bool.not_eq_true', Bool.and_true, Bool.true_and, Bool.and_false, Bool.false_and, ne_eq, not_true_eq_false, not_false_eq_true, reduceCtorEq, Int.cast_ofNat_Int, Bool.not_eq_true, Bool.true_eq_false, wipeE, ty_loc e6, items_lst e6, map_int_inj]
      exact ⟨Kp.refl, Kp.refl⟩
    have ec : (Src.rng 0 p.toNat).items.filterMap (fun y => match y with | .int c => some (D.int (N.count c : Nat)) | _ => none) = ((rgI p).map fun c => ((N.count c : Nat) : Int)).map D.int := by
      unfold rgI
      simp only [Src.items, List.filterMap_map, List.map_map]
      refine fmap_some fun c _ => ?_
      show some (D.int (N.count (0 + (c : Int)) : Nat)) = some (D.int (N.count (c : Int) : Nat))
      rw [Int.zero_add]
    rw [ec] at hb6
    generalize hC : (rgI p).map (fun c => ((N.count c : Nat) : Int)) = C at hb6
    generalize hl6 : h5.length = l6 at hb6
    have e6 : h6[la]? = some (.lst ((alikeL p q xs ms b).map ti)) := k6.get (k5.get e1 (by simp)) (by simp)
    rw [seqK_nx, wss_cons]
    simp only [we_int, we_str, we_bl, we_non, we_ty, we_cst, we_var, we_bin, we_cmp, we_chain, we_neg, we_not, we_and1, we_and2, we_or1, we_or2, we_ife, we_tup, we_lst, we_ix, we_sl, wo_none, wo_some, we_blt, we_call, we_meth, we_rev, we_srt, we_lrg1, we_lrg2, we_trg1, ws_nil, ws_cons, wt_tr, wt_cmp, wt_chain, wt_not, wt_and1, wt_and2, wt_or1, wt_or2, wts_nil, wts_one, wr_bl, wr_non, wr_int, wr_tup, wn_add, wn_sub, wn_mul, wn_div, wn_mod, wn_pow, wn_neg, wn_cat, wn_tmul, wn_lmul, wn_ladd, wc_lt, wc_le, wc_gt, wc_ge, wc_eq, wc_ne, wc_isnon, wc_isnt, wx_tup, wx_loc, wl_tup, wl_loc, wv_tup, wb_len_tup, wb_len_loc, wb_int, wb_list, wb_tuple, wb_sum, wb_min, wb_max, wi_int_int, wi_int_bool, wi_int_tup, wi_tup_tup, wi_tup_int, wm_append, wm_extend, wm_popAt, wm_count, wss_nil, wss_one, seqK_rt, seqK_bk, seqK_ct, wq_expr, wq_ret, wq_retN, wq_pass, wq_brk, wq_cont, wq_set, wq_setc, wq_par, wq_setIx, ws_setIx, wq_ife, wq_for, wq_whil, wq_never, outK_rt, outK_nx, wv_rng1, wv_rng2, wv_seq, wv_seq_tup, wv_seq_loc, wv_zip, wv_zip_tup, we_comp, wp_ok, wp_bad, wp_br, wp_bind, items_tup, tgF, setAll, startE_eq, nones, List.getElem?_cons_zero, List.getElem?_cons_succ, List.set_cons_zero, List.set_cons_succ, List.map_cons, List.map_nil, List.cons_append, List.nil_append, List.length_cons, List.length_nil, Nat.reduceAdd, Nat.reduceSub, Nat.reduceMul, Nat.reduceLT, Nat.reduceLeDiff, Nat.reduceEqDiff, Option.some.injEq, D.int.injEq, D.tup.injEq, D.loc.injEq, D.bl.injEq, exists_eq_left, exists_eq_left', exists_eq_right, true_and, and_true, if_true, if_false, ite_true, ite_false, reduceIte, Bool.false_eq_true, decide_eq_true_eq, eq_self, exists_const, Bool.not_true, Bool.not_false, Bool.not_eq_true', Bool.and_true, Bool.true_and, Bool.and_false, Bool.false_and, ne_eq, not_true_eq_false, not_false_eq_true, reduceCtorEq, Int.cast_ofNat_Int, Bool.not_eq_true, Bool.true_eq_false]
    have hbi := hr b[i] (List.getElem_mem hib)
    have hCl : C.length = p.toNat := by rw [← hC, List.length_map, rgI_len]
    have Cat : ∀ j : Nat, j < p.toNat → C[j]? = some ((N.count (j : Int) : Nat) : Int) := fun j hj => by
      rw [← hC]; unfold rgI
      rw [List.map_map, List.getElem?_map, List.getElem?_range hj]; rfl
    rw [wc_in_int items_tup]
    by_cases ht : (i : Int) ∈ earlyL p q xs ms
    · have c1 := PL.told i hiq ht
      rw [hN, hmany, getD_of hib] at c1
      have a1 : atI (C.map D.int) b[i] = some (.int many) := atI_of (n := b[i].toNat) (by omega) (by
        rw [List.getElem?_map, Cat _ (by omega), Int.toNat_of_nonneg hbi.1, c1]; rfl)
      simp only [we_int, we_str, we_bl, we_non, we_ty, we_cst, we_var, we_bin, we_cmp, we_chain, we_neg, we_not, we_and1, we_and2, we_or1, we_or2, we_ife, we_tup, we_lst, we_ix, we_sl, wo_none, wo_some, we_blt, we_call, we_meth, we_rev, we_srt, we_lrg1, we_lrg2, we_trg1, ws_nil, ws_cons, wt_tr, wt_cmp, wt_chain, wt_not, wt_and1, wt_and2, wt_or1, wt_or2, wts_nil, wts_one, wr_bl, wr_non, wr_int, wr_tup, wn_add, wn_sub, wn_mul, wn_div, wn_mod, wn_pow, wn_neg, wn_cat, wn_tmul, wn_lmul, wn_ladd, wc_lt, wc_le, wc_gt, wc_ge, wc_eq, wc_ne, wc_isnon, wc_isnt, wx_tup, wx_loc, wl_tup, wl_loc, wv_tup, wb_len_tup, wb_len_loc, wb_int, wb_list, wb_tuple, wb_sum, wb_min, wb_max, wi_int_int, wi_int_bool, wi_int_tup, wi_tup_tup, wi_tup_int, wm_append, wm_extend, wm_popAt, wm_count, wss_nil, wss_one, seqK_rt, seqK_bk, seqK_ct, wq_expr, wq_ret, wq_retN, wq_pass, wq_brk, wq_cont, wq_set, wq_setc, wq_par, wq_setIx, ws_setIx, wq_ife, wq_for, wq_whil, wq_never, outK_rt, outK_nx, wv_rng1, wv_rng2, wv_seq, wv_seq_tup, wv_seq_loc, wv_zip, wv_zip_tup, we_comp, wp_ok, wp_bad, wp_br, wp_bind, items_tup, tgF, setAll, startE_eq, nones, List.getElem?_cons_zero, List.getElem?_cons_succ, List.set_cons_zero, List.set_cons_succ, List.map_cons, List.map_nil, List.cons_append, List.nil_append, List.length_cons, List.length_nil, Nat.reduceAdd, Nat.reduceSub, Nat.reduceMul, Nat.reduceLT, Nat.reduceLeDiff, Nat.reduceEqDiff, Option.some.injEq, D.int.injEq, D.tup.injEq, D.loc.injEq, D.bl.injEq, exists_eq_left, exists_eq_left', exists_eq_right, true_and, and_true, if_true, if_false, ite_true, ite_false, reduceIte, Bool.false_eq_true, decide_eq_true_eq, eq_self, exists_const, Bool.not_true, Bool.not_false, Bool.not_eq_true', Bool.and_true, Bool.true_and, Bool.and_false, Bool.false_and, ne_eq, not_true_eq_false, not_false_eq_true, reduceCtorEq, Int.cast_ofNat_Int, Bool.not_eq_true, Bool.true_eq_false, ht, decide_true, ti_at hib, items_lst hb6, a1]
      rw [seqK_nx]
      simp only [we_int, we_str, we_bl, we_non, we_ty, we_cst, we_var, we_bin, we_cmp, we_chain, we_neg, we_not, we_and1, we_and2, we_or1, we_or2, we_ife, we_tup, we_lst, we_ix, we_sl, wo_none, wo_some, we_blt, we_call, we_meth, we_rev, we_srt, we_lrg1, we_lrg2, we_trg1, ws_nil, ws_cons, wt_tr, wt_cmp, wt_chain, wt_not, wt_and1, wt_and2, wt_or1, wt_or2, wts_nil, wts_one, wr_bl, wr_non, wr_int, wr_tup, wn_add, wn_sub, wn_mul, wn_div, wn_mod, wn_pow, wn_neg, wn_cat, wn_tmul, wn_lmul, wn_ladd, wc_lt, wc_le, wc_gt, wc_ge, wc_eq, wc_ne, wc_isnon, wc_isnt, wx_tup, wx_loc, wl_tup, wl_loc, wv_tup, wb_len_tup, wb_len_loc, wb_int, wb_list, wb_tuple, wb_sum, wb_min, wb_max, wi_int_int, wi_int_bool, wi_int_tup, wi_tup_tup, wi_tup_int, wm_append, wm_extend, wm_popAt, wm_count, wss_nil, wss_one, seqK_rt, seqK_bk, seqK_ct, wq_expr, wq_ret, wq_retN, wq_pass, wq_brk, wq_cont, wq_set, wq_setc, wq_par, wq_setIx, ws_setIx, wq_ife, wq_for, wq_whil, wq_never, outK_rt, outK_nx, wv_rng1, wv_rng2, wv_seq, wv_seq_tup, wv_seq_loc, wv_zip, wv_zip_tup, we_comp, wp_ok, wp_bad, wp_br, wp_bind, items_tup, tgF, setAll, startE_eq, nones, List.getElem?_cons_zero, List.getElem?_cons_succ, List.set_cons_zero, List.set_cons_succ, List.map_cons, List.map_nil, List.cons_append, List.nil_append, List.length_cons, List.length_nil, Nat.reduceAdd, Nat.reduceSub, Nat.reduceMul, Nat.reduceLT, Nat.reduceLeDiff, Nat.reduceEqDiff, Option.some.injEq, D.int.injEq, D.tup.injEq, D.loc.injEq, D.bl.injEq, exists_eq_left, exists_eq_left', exists_eq_right, true_and, and_true, if_true, if_false, ite_true, ite_false, reduceIte, Bool.false_eq_true, decide_eq_true_eq, eq_self, exists_const, Bool.not_true, Bool.not_false, Bool.not_eq_true', Bool.and_true, Bool.true_and, Bool.and_false, Bool.false_and, ne_eq, not_true_eq_false, not_false_eq_true, reduceCtorEq, Int.cast_ofNat_Int, Bool.not_eq_true, Bool.true_eq_false]
      rw [wc_nin_int items_tup]
      simp only [we_int, we_str, we_bl, we_non, we_ty, we_cst, we_var, we_bin, we_cmp, we_chain, we_neg, we_not, we_and1, we_and2, we_or1, we_or2, we_ife, we_tup, we_lst, we_ix, we_sl, wo_none, wo_some, we_blt, we_call, we_meth, we_rev, we_srt, we_lrg1, we_lrg2, we_trg1, ws_nil, ws_cons, wt_tr, wt_cmp, wt_chain, wt_not, wt_and1, wt_and2, wt_or1, wt_or2, wts_nil, wts_one, wr_bl, wr_non, wr_int, wr_tup, wn_add, wn_sub, wn_mul, wn_div, wn_mod, wn_pow, wn_neg, wn_cat, wn_tmul, wn_lmul, wn_ladd, wc_lt, wc_le, wc_gt, wc_ge, wc_eq, wc_ne, wc_isnon, wc_isnt, wx_tup, wx_loc, wl_tup, wl_loc, wv_tup, wb_len_tup, wb_len_loc, wb_int, wb_list, wb_tuple, wb_sum, wb_min, wb_max, wi_int_int, wi_int_bool, wi_int_tup, wi_tup_tup, wi_tup_int, wm_append, wm_extend, wm_popAt, wm_count, wss_nil, wss_one, seqK_rt, seqK_bk, seqK_ct, wq_expr, wq_ret, wq_retN, wq_pass, wq_brk, wq_cont, wq_set, wq_setc, wq_par, wq_setIx, ws_setIx, wq_ife, wq_for, wq_whil, wq_never, outK_rt, outK_nx, wv_rng1, wv_rng2, wv_seq, wv_seq_tup, wv_seq_loc, wv_zip, wv_zip_tup, we_comp, wp_ok, wp_bad, wp_br, wp_bind, items_tup, tgF, setAll, startE_eq, nones, List.getElem?_cons_zero, List.getElem?_cons_succ, List.set_cons_zero, List.set_cons_succ, List.map_cons, List.map_nil, List.cons_append, List.nil_append, List.length_cons, List.length_nil, Nat.reduceAdd, Nat.reduceSub, Nat.reduceMul, Nat.reduceLT, Nat.reduceLeDiff, Nat.reduceEqDiff, Option.some.injEq, D.int.injEq, D.tup.injEq, D.loc.injEq, D.bl.injEq, exists_eq_left, exists_eq_left', exists_eq_right, true_and, and_true, if_true, if_false, ite_true, ite_false, reduceIte, Bool.false_eq_true, decide_eq_true_eq, eq_self, exists_const, Bool.not_true, Bool.not_false, Bool.not_eq_true', Bool.and_true, Bool.true_and, Bool.and_false, Bool.false_and, ne_eq, not_true_eq_false, not_false_eq_true, reduceCtorEq, Int.cast_ofNat_Int, Bool.not_eq_true, Bool.true_eq_false, ht, decide_true]
      exact ⟨⟨_, _, _, _, _, rfl⟩, e6⟩
    · have c1 := PL.other i hiq ht
      rw [hN, hmany] at c1
      have hdiv : many / p ≤ 729 ∧ 0 ≤ many / p := ⟨Int.le_trans (Int.ediv_le_self p (by omega)) (by omega), Int.ediv_nonneg (by omega) (by omega)⟩
      have eC : C = List.replicate p.toNat (many / p) := by
        refine List.ext_getElem? fun j => ?_
        by_cases hj : j < p.toNat
        · rw [Cat j hj, List.getElem?_replicate, if_pos hj, c1 (j : Int) (by unfold rgI; exact List.mem_map.mpr ⟨j, List.mem_range.mpr hj, rfl⟩)]
        · rw [List.getElem?_eq_none (by omega), List.getElem?_eq_none (by rw [List.length_replicate]; omega)]
      simp only [we_int, we_str, we_bl, we_non, we_ty, we_cst, we_var, we_bin, we_cmp, we_chain, we_neg, we_not, we_and1, we_and2, we_or1, we_or2, we_ife, we_tup, we_lst, we_ix, we_sl, wo_none, wo_some, we_blt, we_call, we_meth, we_rev, we_srt, we_lrg1, we_lrg2, we_trg1, ws_nil, ws_cons, wt_tr, wt_cmp, wt_chain, wt_not, wt_and1, wt_and2, wt_or1, wt_or2, wts_nil, wts_one, wr_bl, wr_non, wr_int, wr_tup, wn_add, wn_sub, wn_mul, wn_div, wn_mod, wn_pow, wn_neg, wn_cat, wn_tmul, wn_lmul, wn_ladd, wc_lt, wc_le, wc_gt, wc_ge, wc_eq, wc_ne, wc_isnon, wc_isnt, wx_tup, wx_loc, wl_tup, wl_loc, wv_tup, wb_len_tup, wb_len_loc, wb_int, wb_list, wb_tuple, wb_sum, wb_min, wb_max, wi_int_int, wi_int_bool, wi_int_tup, wi_tup_tup, wi_tup_int, wm_append, wm_extend, wm_popAt, wm_count, wss_nil, wss_one, seqK_rt, seqK_bk, seqK_ct, wq_expr, wq_ret, wq_retN, wq_pass, wq_brk, wq_cont, wq_set, wq_setc, wq_par, wq_setIx, ws_setIx, wq_ife, wq_for, wq_whil, wq_never, outK_rt, outK_nx, wv_rng1, wv_rng2, wv_seq, wv_seq_tup, wv_seq_loc, wv_zip, wv_zip_tup, we_comp, wp_ok, wp_bad, wp_br, wp_bind, items_tup, tgF, setAll, startE_eq, nones, List.getElem?_cons_zero, List.getElem?_cons_succ, List.set_cons_zero, List.set_cons_succ, List.map_cons, List.map_nil, List.cons_append, List.nil_append, List.length_cons, List.length_nil, Nat.reduceAdd, Nat.reduceSub, Nat.reduceMul, Nat.reduceLT, Nat.reduceLeDiff, Nat.reduceEqDiff, Option.some.injEq, D.int.injEq, D.tup.injEq, D.loc.injEq, D.bl.injEq, exists_eq_left, exists_eq_left', exists_eq_right, true_and, and_true, if_true, if_false, ite_true, ite_false, reduceIte, Bool.false_eq_true, decide_eq_true_eq, eq_self, exists_const, Bool.not_true, Bool.not_false, Bool.not_eq_true', Bool.and_true, Bool.true_and, Bool.and_false, Bool.false_and, ne_eq, not_true_eq_false, not_false_eq_true, reduceCtorEq, Int.cast_ofNat_Int, Bool.not_eq_true, Bool.true_eq_false, ht, decide_false]
      rw [seqK_nx]
      simp only [we_int, we_str, we_bl, we_non, we_ty, we_cst, we_var, we_bin, we_cmp, we_chain, we_neg, we_not, we_and1, we_and2, we_or1, we_or2, we_ife, we_tup, we_lst, we_ix, we_sl, wo_none, wo_some, we_blt, we_call, we_meth, we_rev, we_srt, we_lrg1, we_lrg2, we_trg1, ws_nil, ws_cons, wt_tr, wt_cmp, wt_chain, wt_not, wt_and1, wt_and2, wt_or1, wt_or2, wts_nil, wts_one, wr_bl, wr_non, wr_int, wr_tup, wn_add, wn_sub, wn_mul, wn_div, wn_mod, wn_pow, wn_neg, wn_cat, wn_tmul, wn_lmul, wn_ladd, wc_lt, wc_le, wc_gt, wc_ge, wc_eq, wc_ne, wc_isnon, wc_isnt, wx_tup, wx_loc, wl_tup, wl_loc, wv_tup, wb_len_tup, wb_len_loc, wb_int, wb_list, wb_tuple, wb_sum, wb_min, wb_max, wi_int_int, wi_int_bool, wi_int_tup, wi_tup_tup, wi_tup_int, wm_append, wm_extend, wm_popAt, wm_count, wss_nil, wss_one, seqK_rt, seqK_bk, seqK_ct, wq_expr, wq_ret, wq_retN, wq_pass, wq_brk, wq_cont, wq_set, wq_setc, wq_par, wq_setIx, ws_setIx, wq_ife, wq_for, wq_whil, wq_never, outK_rt, outK_nx, wv_rng1, wv_rng2, wv_seq, wv_seq_tup, wv_seq_loc, wv_zip, wv_zip_tup, we_comp, wp_ok, wp_bad, wp_br, wp_bind, items_tup, tgF, setAll, startE_eq, nones, List.getElem?_cons_zero, List.getElem?_cons_succ, List.set_cons_zero, List.set_cons_succ, List.map_cons, List.map_nil, List.cons_append, List.nil_append, List.length_cons, List.length_nil, Nat.reduceAdd, Nat.reduceSub, Nat.reduceMul, Nat.reduceLT, Nat.reduceLeDiff, Nat.reduceEqDiff, Option.some.injEq, D.int.injEq, D.tup.injEq, D.loc.injEq, D.bl.injEq, exists_eq_left, exists_eq_left', exists_eq_right, true_and, and_true, if_true, if_false, ite_true, ite_false, reduceIte, Bool.false_eq_true, decide_eq_true_eq, eq_self, exists_const, Bool.not_true, Bool.not_false, Bool.not_eq_true', Bool.and_true, Bool.true_and, Bool.and_false, Bool.false_and, ne_eq, not_true_eq_false, not_false_eq_true, reduceCtorEq, Int.cast_ofNat_Int, Bool.not_eq_true, Bool.true_eq_false]
      rw [wc_nin_int items_tup]
      have g0 : (h6 ++ [O.lst [D.int (many / p)]])[h6.length]? = some (.lst [D.int (many / p)]) := get_new
      simp only [we_int, we_str, we_bl, we_non, we_ty, we_cst, we_var, we_bin, we_cmp, we_chain, we_neg, we_not, we_and1, we_and2, we_or1, we_or2, we_ife, we_tup, we_lst, we_ix, we_sl, wo_none, wo_some, we_blt, we_call, we_meth, we_rev, we_srt, we_lrg1, we_lrg2, we_trg1, ws_nil, ws_cons, wt_tr, wt_cmp, wt_chain, wt_not, wt_and1, wt_and2, wt_or1, wt_or2, wts_nil, wts_one, wr_bl, wr_non, wr_int, wr_tup, wn_add, wn_sub, wn_mul, wn_div, wn_mod, wn_pow, wn_neg, wn_cat, wn_tmul, wn_lmul, wn_ladd, wc_lt, wc_le, wc_gt, wc_ge, wc_eq, wc_ne, wc_isnon, wc_isnt, wx_tup, wx_loc, wl_tup, wl_loc, wv_tup, wb_len_tup, wb_len_loc, wb_int, wb_list, wb_tuple, wb_sum, wb_min, wb_max, wi_int_int, wi_int_bool, wi_int_tup, wi_tup_tup, wi_tup_int, wm_append, wm_extend, wm_popAt, wm_count, wss_nil, wss_one, seqK_rt, seqK_bk, seqK_ct, wq_expr, wq_ret, wq_retN, wq_pass, wq_brk, wq_cont, wq_set, wq_setc, wq_par, wq_setIx, ws_setIx, wq_ife, wq_for, wq_whil, wq_never, outK_rt, outK_nx, wv_rng1, wv_rng2, wv_seq, wv_seq_tup, wv_seq_loc, wv_zip, wv_zip_tup, we_comp, wp_ok, wp_bad, wp_br, wp_bind, items_tup, tgF, setAll, startE_eq, nones, List.getElem?_cons_zero, List.getElem?_cons_succ, List.set_cons_zero, List.set_cons_succ, List.map_cons, List.map_nil, List.cons_append, List.nil_append, List.length_cons, List.length_nil, Nat.reduceAdd, Nat.reduceSub, Nat.reduceMul, Nat.reduceLT, Nat.reduceLeDiff, Nat.reduceEqDiff, Option.some.injEq, D.int.injEq, D.tup.injEq, D.loc.injEq, D.bl.injEq, exists_eq_left, exists_eq_left', exists_eq_right, true_and, and_true, if_true, if_false, ite_true, ite_false, reduceIte, Bool.false_eq_true, decide_eq_true_eq, eq_self, exists_const, Bool.not_true, Bool.not_false, Bool.not_eq_true', Bool.and_true, Bool.true_and, Bool.and_false, Bool.false_and, ne_eq, not_true_eq_false, not_false_eq_true, reduceCtorEq, Int.cast_ofNat_Int, Bool.not_eq_true, Bool.true_eq_false, ht, decide_false, g0, O.lst.injEq]
      have f1 : items? (h6 ++ [O.lst [D.int (many / p)]] ++ [O.lst (List.replicate p.toNat [D.int (many / p)]).flatten]) (.loc l6) = some (C.map D.int) := items_lst (get_app (get_app hb6))
      have f2 : items? (h6 ++ [O.lst [D.int (many / p)]] ++ [O.lst (List.replicate p.toNat [D.int (many / p)]).flatten]) (.loc (h6 ++ [O.lst [D.int (many / p)]]).length) = some (C.map D.int) := by
        rw [items_lst get_new, eC]
        congr 1
        generalize p.toNat = n
        induction n with
        | zero => rfl
        | succ n ih => rw [List.replicate_succ, List.flatten_cons, ih]; rfl
      refine ⟨⟨p0, by omega⟩, by rw [sizeLine_eq]; omega, ⟨by omega, by omega, by rw [sizeLine_eq]; omega⟩, ?_⟩
      rw [wc_neL f1 f2 (okDs_int _) (okDs_int _), beqs_int]
      simp only [we_int, we_str, we_bl, we_non, we_ty, we_cst, we_var, we_bin, we_cmp, we_chain, we_neg, we_not, we_and1, we_and2, we_or1, we_or2, we_ife, we_tup, we_lst, we_ix, we_sl, wo_none, wo_some, we_blt, we_call, we_meth, we_rev, we_srt, we_lrg1, we_lrg2, we_trg1, ws_nil, ws_cons, wt_tr, wt_cmp, wt_chain, wt_not, wt_and1, wt_and2, wt_or1, wt_or2, wts_nil, wts_one, wr_bl, wr_non, wr_int, wr_tup, wn_add, wn_sub, wn_mul, wn_div, wn_mod, wn_pow, wn_neg, wn_cat, wn_tmul, wn_lmul, wn_ladd, wc_lt, wc_le, wc_gt, wc_ge, wc_eq, wc_ne, wc_isnon, wc_isnt, wx_tup, wx_loc, wl_tup, wl_loc, wv_tup, wb_len_tup, wb_len_loc, wb_int, wb_list, wb_tuple, wb_sum, wb_min, wb_max, wi_int_int, wi_int_bool, wi_int_tup, wi_tup_tup, wi_tup_int, wm_append, wm_extend, wm_popAt, wm_count, wss_nil, wss_one, seqK_rt, seqK_bk, seqK_ct, wq_expr, wq_ret, wq_retN, wq_pass, wq_brk, wq_cont, wq_set, wq_setc, wq_par, wq_setIx, ws_setIx, wq_ife, wq_for, wq_whil, wq_never, outK_rt, outK_nx, wv_rng1, wv_rng2, wv_seq, wv_seq_tup, wv_seq_loc, wv_zip, wv_zip_tup, we_comp, wp_ok, wp_bad, wp_br, wp_bind, items_tup, tgF, setAll, startE_eq, nones, List.getElem?_cons_zero, List.getElem?_cons_succ, List.set_cons_zero, List.set_cons_succ, List.map_cons, List.map_nil, List.cons_append, List.nil_append, List.length_cons, List.length_nil, Nat.reduceAdd, Nat.reduceSub, Nat.reduceMul, Nat.reduceLT, Nat.reduceLeDiff, Nat.reduceEqDiff, Option.some.injEq, D.int.injEq, D.tup.injEq, D.loc.injEq, D.bl.injEq, exists_eq_left, exists_eq_left', exists_eq_right, true_and, and_true, if_true, if_false, ite_true, ite_false, reduceIte, Bool.false_eq_true, decide_eq_true_eq, eq_self, exists_const, Bool.not_true, Bool.not_false, Bool.not_eq_true', Bool.and_true, Bool.true_and, Bool.and_false, Bool.false_and, ne_eq, not_true_eq_false, not_false_eq_true, reduceCtorEq, Int.cast_ofNat_Int, Bool.not_eq_true, Bool.true_eq_false, decide_true]
      exact ⟨⟨_, _, _, _, _, rfl⟩, get_app (get_app e6)⟩
  · subst e
    rw [seqK_nx]
    simp only [we_int, we_str, we_bl, we_non, we_ty, we_cst, we_var, we_bin, we_cmp, we_chain, we_neg, we_not, we_and1, we_and2, we_or1, we_or2, we_ife, we_tup, we_lst, we_ix, we_sl, wo_none, wo_some, we_blt, we_call, we_meth, we_rev, we_srt, we_lrg1, we_lrg2, we_trg1, ws_nil, ws_cons, wt_tr, wt_cmp, wt_chain, wt_not, wt_and1, wt_and2, wt_or1, wt_or2, wts_nil, wts_one, wr_bl, wr_non, wr_int, wr_tup, wn_add, wn_sub, wn_mul, wn_div, wn_mod, wn_pow, wn_neg, wn_cat, wn_tmul, wn_lmul, wn_ladd, wc_lt, wc_le, wc_gt, wc_ge, wc_eq, wc_ne, wc_isnon, wc_isnt, wx_tup, wx_loc, wl_tup, wl_loc, wv_tup, wb_len_tup, wb_len_loc, wb_int, wb_list, wb_tuple, wb_sum, wb_min, wb_max, wi_int_int, wi_int_bool, wi_int_tup, wi_tup_tup, wi_tup_int, wm_append, wm_extend, wm_popAt, wm_count, wss_nil, wss_one, seqK_rt, seqK_bk, seqK_ct, wq_expr, wq_ret, wq_retN, wq_pass, wq_brk, wq_cont, wq_set, wq_setc, wq_par, wq_setIx, ws_setIx, wq_ife, wq_for, wq_whil, wq_never, outK_rt, outK_nx, wv_rng1, wv_rng2, wv_seq, wv_seq_tup, wv_seq_loc, wv_zip, wv_zip_tup, we_comp, wp_ok, wp_bad, wp_br, wp_bind, items_tup, tgF, setAll, startE_eq, nones, List.getElem?_cons_zero, List.getElem?_cons_succ, List.set_cons_zero, List.set_cons_succ, List.map_cons, List.map_nil, List.cons_append, List.nil_append, List.length_cons, List.length_nil, Nat.reduceAdd, Nat.reduceSub, Nat.reduceMul, Nat.reduceLT, Nat.reduceLeDiff, Nat.reduceEqDiff, Option.some.injEq, D.int.injEq, D.tup.injEq, D.loc.injEq, D.bl.injEq, exists_eq_left, exists_eq_left', exists_eq_right, true_and, and_true, if_true, if_false, ite_true, ite_false, reduceIte, Bool.false_eq_true, decide_eq_true_eq, eq_self, exists_const, Bool.not_true, Bool.not_false, Bool.not_eq_true', Bool.and_true, Bool.true_and, Bool.and_false, Bool.false_and, ne_eq, not_true_eq_false, not_false_eq_true, reduceCtorEq, Int.cast_ofNat_Int, Bool.not_eq_true, Bool.true_eq_false]
    have el : (earlyL p q xs ms).length ≤ q.toNat := by
      unfold earlyL
      split
      · simp
      · rw [List.length_map]
        exact Nat.le_trans (List.length_filter_le _ _) (by simp)
    have e2 : setD (h' ++ [O.lst (List.map D.int (earlyL p q xs ms))] ++ [O.lst (List.map D.int (earlyL p q xs ms))]) (D.loc (List.length (h' ++ [O.lst (List.map D.int (earlyL p q xs ms))]))) = some (earlyL p q xs ms) := by
      unfold setD
      rw [items_lst get_new, Option.bind_some, intsOf_map]
    show Wp E (match setD _ _ with | some ns => _ | none => _) _
    rw [e2]
    dsimp only
    rw [if_pos (by omega), wp_ok, PL.sorted]
    have f1 : items? (h' ++ [O.lst (List.map D.int (earlyL p q xs ms))] ++ [O.lst (List.map D.int (earlyL p q xs ms))] ++ [O.lst (List.map D.int (earlyL p q xs ms))]) (.loc h'.length) = some (List.map D.int (earlyL p q xs ms)) := items_lst (get_app (get_app get_new))
    have f2 : items? (h' ++ [O.lst (List.map D.int (earlyL p q xs ms))] ++ [O.lst (List.map D.int (earlyL p q xs ms))] ++ [O.lst (List.map D.int (earlyL p q xs ms))]) (.loc (h' ++ [O.lst (List.map D.int (earlyL p q xs ms))] ++ [O.lst (List.map D.int (earlyL p q xs ms))]).length) = some (List.map D.int (earlyL p q xs ms)) := items_lst get_new
    rw [wc_eqL f1 f2 (okDs_int _) (okDs_int _), beqs_int, decide_eq_true rfl]
theorem prime23 {p : Int} (h : p = 2 ∨ p = 3) : PrimeI p := ⟨by omega, fun d h2 h3 => by
  have : 2 * 2 ≤ d * d := Int.mul_le_mul h2 h2 (by omega) (by omega)
  omega⟩
theorem law_walk (plain : ∀ (p q : Int) (xs ms b : List Int), Ls p q xs ms → p ≤ 3 → q ≤ 6 → ms.sum ≤ q → (b.length : Int) = q → (∀ n ∈ b, 0 ≤ n ∧ n < p) → Plain p q xs ms b) (ns : List Int) (hl : ns.length ≤ 63) :
    ∃ h', callF fs 12 F.n_law_v49 [.loc 0] [.ro (ns.map D.int)] = .ok (.bl true) h' := by
  have key : Wp (fun _ _ _ => False) (callF fs 12 F.n_law_v49 [.loc 0] [.ro (ns.map D.int)]) fun d _ => d = .bl true := by
    refine wp_call (f := F.f_law_v49) rfl rfl ?_
    unfold F.f_law_v49
    dsimp only
    rw [wss_cons]
    simp only [we_int, we_str, we_bl, we_non, we_ty, we_cst, we_var, we_bin, we_cmp, we_chain, we_neg, we_not, we_and1, we_and2, we_or1, we_or2, we_ife, we_tup, we_lst, we_ix, we_sl, wo_none, wo_some, we_blt, we_call, we_meth, we_rev, we_srt, we_lrg1, we_lrg2, we_trg1, ws_nil, ws_cons, wt_tr, wt_cmp, wt_chain, wt_not, wt_and1, wt_and2, wt_or1, wt_or2, wts_nil, wts_one, wr_bl, wr_non, wr_int, wr_tup, wn_add, wn_sub, wn_mul, wn_div, wn_mod, wn_pow, wn_neg, wn_cat, wn_tmul, wn_lmul, wn_ladd, wc_lt, wc_le, wc_gt, wc_ge, wc_eq, wc_ne, wc_isnon, wc_isnt, wx_tup, wx_loc, wl_tup, wl_loc, wv_tup, wb_len_tup, wb_len_loc, wb_int, wb_list, wb_tuple, wb_sum, wb_min, wb_max, wi_int_int, wi_int_bool, wi_int_tup, wi_tup_tup, wi_tup_int, wm_append, wm_extend, wm_popAt, wm_count, wss_nil, wss_one, seqK_rt, seqK_bk, seqK_ct, wq_expr, wq_ret, wq_retN, wq_pass, wq_brk, wq_cont, wq_set, wq_setc, wq_par, wq_setIx, ws_setIx, wq_ife, wq_for, wq_whil, wq_never, outK_rt, outK_nx, wv_rng1, wv_rng2, wv_seq, wv_seq_tup, wv_seq_loc, wv_zip, wv_zip_tup, we_comp, wp_ok, wp_bad, wp_br, wp_bind, items_tup, tgF, setAll, startE_eq, nones, List.getElem?_cons_zero, List.getElem?_cons_succ, List.set_cons_zero, List.set_cons_succ, List.map_cons, List.map_nil, List.cons_append, List.nil_append, List.length_cons, List.length_nil, Nat.reduceAdd, Nat.reduceSub, Nat.reduceMul, Nat.reduceLT, Nat.reduceLeDiff, Nat.reduceEqDiff, Option.some.injEq, D.int.injEq, D.tup.injEq, D.loc.injEq, D.bl.injEq, exists_eq_left, exists_eq_left', exists_eq_right, true_and, and_true, if_true, if_false, ite_true, ite_false, reduceIte, Bool.false_eq_true, decide_eq_true_eq, eq_self, exists_const, Bool.not_true, Bool.not_false, Bool.not_eq_true', Bool.and_true, Bool.true_and, Bool.and_false, Bool.false_and, ne_eq, not_true_eq_false, not_false_eq_true, reduceCtorEq, Int.cast_ofNat_Int, Bool.not_eq_true, Bool.true_eq_false]
    refine (pool_ok (ns := ns) (items_ro rfl)).mono fun d h1 ⟨a, c, ed, P1, k1⟩ => ?_
    subst ed
    rw [seqK_nx, wss_cons]
    simp only [we_int, we_str, we_bl, we_non, we_ty, we_cst, we_var, we_bin, we_cmp, we_chain, we_neg, we_not, we_and1, we_and2, we_or1, we_or2, we_ife, we_tup, we_lst, we_ix, we_sl, wo_none, wo_some, we_blt, we_call, we_meth, we_rev, we_srt, we_lrg1, we_lrg2, we_trg1, ws_nil, ws_cons, wt_tr, wt_cmp, wt_chain, wt_not, wt_and1, wt_and2, wt_or1, wt_or2, wts_nil, wts_one, wr_bl, wr_non, wr_int, wr_tup, wn_add, wn_sub, wn_mul, wn_div, wn_mod, wn_pow, wn_neg, wn_cat, wn_tmul, wn_lmul, wn_ladd, wc_lt, wc_le, wc_gt, wc_ge, wc_eq, wc_ne, wc_isnon, wc_isnt, wx_tup, wx_loc, wl_tup, wl_loc, wv_tup, wb_len_tup, wb_len_loc, wb_int, wb_list, wb_tuple, wb_sum, wb_min, wb_max, wi_int_int, wi_int_bool, wi_int_tup, wi_tup_tup, wi_tup_int, wm_append, wm_extend, wm_popAt, wm_count, wss_nil, wss_one, seqK_rt, seqK_bk, seqK_ct, wq_expr, wq_ret, wq_retN, wq_pass, wq_brk, wq_cont, wq_set, wq_setc, wq_par, wq_setIx, ws_setIx, wq_ife, wq_for, wq_whil, wq_never, outK_rt, outK_nx, wv_rng1, wv_rng2, wv_seq, wv_seq_tup, wv_seq_loc, wv_zip, wv_zip_tup, we_comp, wp_ok, wp_bad, wp_br, wp_bind, items_tup, tgF, setAll, startE_eq, nones, List.getElem?_cons_zero, List.getElem?_cons_succ, List.set_cons_zero, List.set_cons_succ, List.map_cons, List.map_nil, List.cons_append, List.nil_append, List.length_cons, List.length_nil, Nat.reduceAdd, Nat.reduceSub, Nat.reduceMul, Nat.reduceLT, Nat.reduceLeDiff, Nat.reduceEqDiff, Option.some.injEq, D.int.injEq, D.tup.injEq, D.loc.injEq, D.bl.injEq, exists_eq_left, exists_eq_left', exists_eq_right, true_and, and_true, if_true, if_false, ite_true, ite_false, reduceIte, Bool.false_eq_true, decide_eq_true_eq, eq_self, exists_const, Bool.not_true, Bool.not_false, Bool.not_eq_true', Bool.and_true, Bool.true_and, Bool.and_false, Bool.false_and, ne_eq, not_true_eq_false, not_false_eq_true, reduceCtorEq, Int.cast_ofNat_Int, Bool.not_eq_true, Bool.true_eq_false]
    refine (draw_ok P1 (by omega) (by omega)).mono fun d h2 ⟨r, ed, hr, P2, k2⟩ => ?_
    subst ed
    simp only [we_int, we_str, we_bl, we_non, we_ty, we_cst, we_var, we_bin, we_cmp, we_chain, we_neg, we_not, we_and1, we_and2, we_or1, we_or2, we_ife, we_tup, we_lst, we_ix, we_sl, wo_none, wo_some, we_blt, we_call, we_meth, we_rev, we_srt, we_lrg1, we_lrg2, we_trg1, ws_nil, ws_cons, wt_tr, wt_cmp, wt_chain, wt_not, wt_and1, wt_and2, wt_or1, wt_or2, wts_nil, wts_one, wr_bl, wr_non, wr_int, wr_tup, wn_add, wn_sub, wn_mul, wn_div, wn_mod, wn_pow, wn_neg, wn_cat, wn_tmul, wn_lmul, wn_ladd, wc_lt, wc_le, wc_gt, wc_ge, wc_eq, wc_ne, wc_isnon, wc_isnt, wx_tup, wx_loc, wl_tup, wl_loc, wv_tup, wb_len_tup, wb_len_loc, wb_int, wb_list, wb_tuple, wb_sum, wb_min, wb_max, wi_int_int, wi_int_bool, wi_int_tup, wi_tup_tup, wi_tup_int, wm_append, wm_extend, wm_popAt, wm_count, wss_nil, wss_one, seqK_rt, seqK_bk, seqK_ct, wq_expr, wq_ret, wq_retN, wq_pass, wq_brk, wq_cont, wq_set, wq_setc, wq_par, wq_setIx, ws_setIx, wq_ife, wq_for, wq_whil, wq_never, outK_rt, outK_nx, wv_rng1, wv_rng2, wv_seq, wv_seq_tup, wv_seq_loc, wv_zip, wv_zip_tup, we_comp, wp_ok, wp_bad, wp_br, wp_bind, items_tup, tgF, setAll, startE_eq, nones, List.getElem?_cons_zero, List.getElem?_cons_succ, List.set_cons_zero, List.set_cons_succ, List.map_cons, List.map_nil, List.cons_append, List.nil_append, List.length_cons, List.length_nil, Nat.reduceAdd, Nat.reduceSub, Nat.reduceMul, Nat.reduceLT, Nat.reduceLeDiff, Nat.reduceEqDiff, Option.some.injEq, D.int.injEq, D.tup.injEq, D.loc.injEq, D.bl.injEq, exists_eq_left, exists_eq_left', exists_eq_right, true_and, and_true, if_true, if_false, ite_true, ite_false, reduceIte, Bool.false_eq_true, decide_eq_true_eq, eq_self, exists_const, Bool.not_true, Bool.not_false, Bool.not_eq_true', Bool.and_true, Bool.true_and, Bool.and_false, Bool.false_and, ne_eq, not_true_eq_false, not_false_eq_true, reduceCtorEq, Int.cast_ofNat_Int, Bool.not_eq_true, Bool.true_eq_false]
    generalize hp : 2 + r = p
    have p23 : p = 2 ∨ p = 3 := by omega
    rw [seqK_nx, wss_cons]
    simp only [we_int, we_str, we_bl, we_non, we_ty, we_cst, we_var, we_bin, we_cmp, we_chain, we_neg, we_not, we_and1, we_and2, we_or1, we_or2, we_ife, we_tup, we_lst, we_ix, we_sl, wo_none, wo_some, we_blt, we_call, we_meth, we_rev, we_srt, we_lrg1, we_lrg2, we_trg1, ws_nil, ws_cons, wt_tr, wt_cmp, wt_chain, wt_not, wt_and1, wt_and2, wt_or1, wt_or2, wts_nil, wts_one, wr_bl, wr_non, wr_int, wr_tup, wn_add, wn_sub, wn_mul, wn_div, wn_mod, wn_pow, wn_neg, wn_cat, wn_tmul, wn_lmul, wn_ladd, wc_lt, wc_le, wc_gt, wc_ge, wc_eq, wc_ne, wc_isnon, wc_isnt, wx_tup, wx_loc, wl_tup, wl_loc, wv_tup, wb_len_tup, wb_len_loc, wb_int, wb_list, wb_tuple, wb_sum, wb_min, wb_max, wi_int_int, wi_int_bool, wi_int_tup, wi_tup_tup, wi_tup_int, wm_append, wm_extend, wm_popAt, wm_count, wss_nil, wss_one, seqK_rt, seqK_bk, seqK_ct, wq_expr, wq_ret, wq_retN, wq_pass, wq_brk, wq_cont, wq_set, wq_setc, wq_par, wq_setIx, ws_setIx, wq_ife, wq_for, wq_whil, wq_never, outK_rt, outK_nx, wv_rng1, wv_rng2, wv_seq, wv_seq_tup, wv_seq_loc, wv_zip, wv_zip_tup, we_comp, wp_ok, wp_bad, wp_br, wp_bind, items_tup, tgF, setAll, startE_eq, nones, List.getElem?_cons_zero, List.getElem?_cons_succ, List.set_cons_zero, List.set_cons_succ, List.map_cons, List.map_nil, List.cons_append, List.nil_append, List.length_cons, List.length_nil, Nat.reduceAdd, Nat.reduceSub, Nat.reduceMul, Nat.reduceLT, Nat.reduceLeDiff, Nat.reduceEqDiff, Option.some.injEq, D.int.injEq, D.tup.injEq, D.loc.injEq, D.bl.injEq, exists_eq_left, exists_eq_left', exists_eq_right, true_and, and_true, if_true, if_false, ite_true, ite_false, reduceIte, Bool.false_eq_true, decide_eq_true_eq, eq_self, exists_const, Bool.not_true, Bool.not_false, Bool.not_eq_true', Bool.and_true, Bool.true_and, Bool.and_false, Bool.false_and, ne_eq, not_true_eq_false, not_false_eq_true, reduceCtorEq, Int.cast_ofNat_Int, Bool.not_eq_true, Bool.true_eq_false]
    refine (turned_ok P2 (by omega) (by omega)).mono fun d h3 ⟨l, us, ed, el, pm, hll, P3, k3⟩ => ?_
    subst ed
    have n0 : ¬ p + 1 < 4 ∨ p + 1 < 4 := by omega
    have hmin : 0 < (if p + 1 < 4 then p + 1 else 4) ∧ (if p + 1 < 4 then p + 1 else 4) ≤ 4 := by split <;> omega
    refine (draw_ok P3 hmin.1 (by omega)).mono fun d h4 ⟨r2, ed, hr2, P4, k4⟩ => ?_
    subst ed
    have lt2 := P2.lt
    have el4 := k4.get el (by simp; omega)
    have cut : cutD (us.map D.int) none (some (1 + r2)) = (us.take (r2.toNat + 1)).map D.int := by
      rw [cutD_to (j := r2.toNat + 1) (by omega), List.map_take]
    simp only [we_int, we_str, we_bl, we_non, we_ty, we_cst, we_var, we_bin, we_cmp, we_chain, we_neg, we_not, we_and1, we_and2, we_or1, we_or2, we_ife, we_tup, we_lst, we_ix, we_sl, wo_none, wo_some, we_blt, we_call, we_meth, we_rev, we_srt, we_lrg1, we_lrg2, we_trg1, ws_nil, ws_cons, wt_tr, wt_cmp, wt_chain, wt_not, wt_and1, wt_and2, wt_or1, wt_or2, wts_nil, wts_one, wr_bl, wr_non, wr_int, wr_tup, wn_add, wn_sub, wn_mul, wn_div, wn_mod, wn_pow, wn_neg, wn_cat, wn_tmul, wn_lmul, wn_ladd, wc_lt, wc_le, wc_gt, wc_ge, wc_eq, wc_ne, wc_isnon, wc_isnt, wx_tup, wx_loc, wl_tup, wl_loc, wv_tup, wb_len_tup, wb_len_loc, wb_int, wb_list, wb_tuple, wb_sum, wb_min, wb_max, wi_int_int, wi_int_bool, wi_int_tup, wi_tup_tup, wi_tup_int, wm_append, wm_extend, wm_popAt, wm_count, wss_nil, wss_one, seqK_rt, seqK_bk, seqK_ct, wq_expr, wq_ret, wq_retN, wq_pass, wq_brk, wq_cont, wq_set, wq_setc, wq_par, wq_setIx, ws_setIx, wq_ife, wq_for, wq_whil, wq_never, outK_rt, outK_nx, wv_rng1, wv_rng2, wv_seq, wv_seq_tup, wv_seq_loc, wv_zip, wv_zip_tup, we_comp, wp_ok, wp_bad, wp_br, wp_bind, items_tup, tgF, setAll, startE_eq, nones, List.getElem?_cons_zero, List.getElem?_cons_succ, List.set_cons_zero, List.set_cons_succ, List.map_cons, List.map_nil, List.cons_append, List.nil_append, List.length_cons, List.length_nil, Nat.reduceAdd, Nat.reduceSub, Nat.reduceMul, Nat.reduceLT, Nat.reduceLeDiff, Nat.reduceEqDiff, Option.some.injEq, D.int.injEq, D.tup.injEq, D.loc.injEq, D.bl.injEq, exists_eq_left, exists_eq_left', exists_eq_right, true_and, and_true, if_true, if_false, ite_true, ite_false, reduceIte, Bool.false_eq_true, decide_eq_true_eq, eq_self, exists_const, Bool.not_true, Bool.not_false, Bool.not_eq_true', Bool.and_true, Bool.true_and, Bool.and_false, Bool.false_and, ne_eq, not_true_eq_false, not_false_eq_true, reduceCtorEq, Int.cast_ofNat_Int, Bool.not_eq_true, Bool.true_eq_false, items_lst el4, cut]
    generalize hxs : us.take (r2.toNat + 1) = xs
    generalize hh5 : h4 ++ [O.lst (xs.map D.int)] = h5
    generalize hl3 : h4.length = l3
    have el5 : h5[l3]? = some (.lst (xs.map D.int)) := by rw [← hh5, ← hl3]; exact get_new
    have P5 : Pool h5 a c := by rw [← hh5]; exact P4.app
    have lt4 := P4.lt
    have ul : us.length = (p + 1).toNat := by rw [pm.length_eq, List.length_map, List.length_range]
    have xl : xs.length = min (r2.toNat + 1) (p + 1).toNat := by rw [← hxs, List.length_take, ul]
    have xsub : List.Sublist xs us := by rw [← hxs]; exact List.take_sublist _ _
    have xnd : xs.Nodup := (pm.nodup_iff.mpr nodup_rg).sublist xsub
    have xr : ∀ x ∈ xs, 0 ≤ x ∧ x ≤ p := fun x hx => by
      obtain ⟨i, hi, e⟩ := List.mem_map.mp (pm.mem_iff.mp (xsub.subset hx))
      have := List.mem_range.mp hi
      omega
    rw [seqK_nx, wss_cons, wq_set, we_tup, ws_cons, we_var]
    refine ⟨_, rfl, ?_⟩
    rw [ws_cons, we_bin, we_int, we_call, ws_cons, we_var]
    refine ⟨_, rfl, ?_⟩
    rw [ws_cons]
    refine Wp.mono (Q := fun d h' => ∃ n : Int, d = .int n ∧ (4 ≤ n ∧ n ≤ 6) ∧ h' = h5) ?_ fun d h6 ⟨n, ed, hn, eh⟩ => ?_
    · simp only [we_int, we_str, we_bl, we_non, we_ty, we_cst, we_var, we_bin, we_cmp, we_chain, we_neg, we_not, we_and1, we_and2, we_or1, we_or2, we_ife, we_tup, we_lst, we_ix, we_sl, wo_none, wo_some, we_blt, we_call, we_meth, we_rev, we_srt, we_lrg1, we_lrg2, we_trg1, ws_nil, ws_cons, wt_tr, wt_cmp, wt_chain, wt_not, wt_and1, wt_and2, wt_or1, wt_or2, wts_nil, wts_one, wr_bl, wr_non, wr_int, wr_tup, wn_add, wn_sub, wn_mul, wn_div, wn_mod, wn_pow, wn_neg, wn_cat, wn_tmul, wn_lmul, wn_ladd, wc_lt, wc_le, wc_gt, wc_ge, wc_eq, wc_ne, wc_isnon, wc_isnt, wx_tup, wx_loc, wl_tup, wl_loc, wv_tup, wb_len_tup, wb_len_loc, wb_int, wb_list, wb_tuple, wb_sum, wb_min, wb_max, wi_int_int, wi_int_bool, wi_int_tup, wi_tup_tup, wi_tup_int, wm_append, wm_extend, wm_popAt, wm_count, wss_nil, wss_one, seqK_rt, seqK_bk, seqK_ct, wq_expr, wq_ret, wq_retN, wq_pass, wq_brk, wq_cont, wq_set, wq_setc, wq_par, wq_setIx, ws_setIx, wq_ife, wq_for, wq_whil, wq_never, outK_rt, outK_nx, wv_rng1, wv_rng2, wv_seq, wv_seq_tup, wv_seq_loc, wv_zip, wv_zip_tup, we_comp, wp_ok, wp_bad, wp_br, wp_bind, items_tup, tgF, setAll, startE_eq, nones, List.getElem?_cons_zero, List.getElem?_cons_succ, List.set_cons_zero, List.set_cons_succ, List.map_cons, List.map_nil, List.cons_append, List.nil_append, List.length_cons, List.length_nil, Nat.reduceAdd, Nat.reduceSub, Nat.reduceMul, Nat.reduceLT, Nat.reduceLeDiff, Nat.reduceEqDiff, Option.some.injEq, D.int.injEq, D.tup.injEq, D.loc.injEq, D.bl.injEq, exists_eq_left, exists_eq_left', exists_eq_right, true_and, and_true, if_true, if_false, ite_true, ite_false, reduceIte, Bool.false_eq_true, decide_eq_true_eq, eq_self, exists_const, Bool.not_true, Bool.not_false, Bool.not_eq_true', Bool.and_true, Bool.true_and, Bool.and_false, Bool.false_and, ne_eq, not_true_eq_false, not_false_eq_true, reduceCtorEq, Int.cast_ofNat_Int, Bool.not_eq_true, Bool.true_eq_false]
      split
      · omega
      · omega
    subst ed eh
    simp only [we_int, we_str, we_bl, we_non, we_ty, we_cst, we_var, we_bin, we_cmp, we_chain, we_neg, we_not, we_and1, we_and2, we_or1, we_or2, we_ife, we_tup, we_lst, we_ix, we_sl, wo_none, wo_some, we_blt, we_call, we_meth, we_rev, we_srt, we_lrg1, we_lrg2, we_trg1, ws_nil, ws_cons, wt_tr, wt_cmp, wt_chain, wt_not, wt_and1, wt_and2, wt_or1, wt_or2, wts_nil, wts_one, wr_bl, wr_non, wr_int, wr_tup, wn_add, wn_sub, wn_mul, wn_div, wn_mod, wn_pow, wn_neg, wn_cat, wn_tmul, wn_lmul, wn_ladd, wc_lt, wc_le, wc_gt, wc_ge, wc_eq, wc_ne, wc_isnon, wc_isnt, wx_tup, wx_loc, wl_tup, wl_loc, wv_tup, wb_len_tup, wb_len_loc, wb_int, wb_list, wb_tuple, wb_sum, wb_min, wb_max, wi_int_int, wi_int_bool, wi_int_tup, wi_tup_tup, wi_tup_int, wm_append, wm_extend, wm_popAt, wm_count, wss_nil, wss_one, seqK_rt, seqK_bk, seqK_ct, wq_expr, wq_ret, wq_retN, wq_pass, wq_brk, wq_cont, wq_set, wq_setc, wq_par, wq_setIx, ws_setIx, wq_ife, wq_for, wq_whil, wq_never, outK_rt, outK_nx, wv_rng1, wv_rng2, wv_seq, wv_seq_tup, wv_seq_loc, wv_zip, wv_zip_tup, we_comp, wp_ok, wp_bad, wp_br, wp_bind, items_tup, tgF, setAll, startE_eq, nones, List.getElem?_cons_zero, List.getElem?_cons_succ, List.set_cons_zero, List.set_cons_succ, List.map_cons, List.map_nil, List.cons_append, List.nil_append, List.length_cons, List.length_nil, Nat.reduceAdd, Nat.reduceSub, Nat.reduceMul, Nat.reduceLT, Nat.reduceLeDiff, Nat.reduceEqDiff, Option.some.injEq, D.int.injEq, D.tup.injEq, D.loc.injEq, D.bl.injEq, exists_eq_left, exists_eq_left', exists_eq_right, true_and, and_true, if_true, if_false, ite_true, ite_false, reduceIte, Bool.false_eq_true, decide_eq_true_eq, eq_self, exists_const, Bool.not_true, Bool.not_false, Bool.not_eq_true', Bool.and_true, Bool.true_and, Bool.and_false, Bool.false_and, ne_eq, not_true_eq_false, not_false_eq_true, reduceCtorEq, Int.cast_ofNat_Int, Bool.not_eq_true, Bool.true_eq_false]
    refine (draw_ok P5 (by omega) (by omega)).mono fun d h7 ⟨r3, ed, hr3, P7, k7⟩ => ?_
    subst ed
    have el7 := k7.get el5 (by simp; omega)
    simp only [we_int, we_str, we_bl, we_non, we_ty, we_cst, we_var, we_bin, we_cmp, we_chain, we_neg, we_not, we_and1, we_and2, we_or1, we_or2, we_ife, we_tup, we_lst, we_ix, we_sl, wo_none, wo_some, we_blt, we_call, we_meth, we_rev, we_srt, we_lrg1, we_lrg2, we_trg1, ws_nil, ws_cons, wt_tr, wt_cmp, wt_chain, wt_not, wt_and1, wt_and2, wt_or1, wt_or2, wts_nil, wts_one, wr_bl, wr_non, wr_int, wr_tup, wn_add, wn_sub, wn_mul, wn_div, wn_mod, wn_pow, wn_neg, wn_cat, wn_tmul, wn_lmul, wn_ladd, wc_lt, wc_le, wc_gt, wc_ge, wc_eq, wc_ne, wc_isnon, wc_isnt, wx_tup, wx_loc, wl_tup, wl_loc, wv_tup, wb_len_tup, wb_len_loc, wb_int, wb_list, wb_tuple, wb_sum, wb_min, wb_max, wi_int_int, wi_int_bool, wi_int_tup, wi_tup_tup, wi_tup_int, wm_append, wm_extend, wm_popAt, wm_count, wss_nil, wss_one, seqK_rt, seqK_bk, seqK_ct, wq_expr, wq_ret, wq_retN, wq_pass, wq_brk, wq_cont, wq_set, wq_setc, wq_par, wq_setIx, ws_setIx, wq_ife, wq_for, wq_whil, wq_never, outK_rt, outK_nx, wv_rng1, wv_rng2, wv_seq, wv_seq_tup, wv_seq_loc, wv_zip, wv_zip_tup, we_comp, wp_ok, wp_bad, wp_br, wp_bind, items_tup, tgF, setAll, startE_eq, nones, List.getElem?_cons_zero, List.getElem?_cons_succ, List.set_cons_zero, List.set_cons_succ, List.map_cons, List.map_nil, List.cons_append, List.nil_append, List.length_cons, List.length_nil, Nat.reduceAdd, Nat.reduceSub, Nat.reduceMul, Nat.reduceLT, Nat.reduceLeDiff, Nat.reduceEqDiff, Option.some.injEq, D.int.injEq, D.tup.injEq, D.loc.injEq, D.bl.injEq, exists_eq_left, exists_eq_left', exists_eq_right, true_and, and_true, if_true, if_false, ite_true, ite_false, reduceIte, Bool.false_eq_true, decide_eq_true_eq, eq_self, exists_const, Bool.not_true, Bool.not_false, Bool.not_eq_true', Bool.and_true, Bool.true_and, Bool.and_false, Bool.false_and, ne_eq, not_true_eq_false, not_false_eq_true, reduceCtorEq, Int.cast_ofNat_Int, Bool.not_eq_true, Bool.true_eq_false, items_lst el7]
    refine ⟨by rw [sizeLine_eq]; omega, ?_⟩
    generalize hq : 1 + r3 = q
    have G : Gd p q xs := ⟨prime23 p23, by omega, by omega, by omega, by omega, by omega, xr, xnd⟩
    rw [seqK_nx, wss_cons]
    simp only [we_int, we_str, we_bl, we_non, we_ty, we_cst, we_var, we_bin, we_cmp, we_chain, we_neg, we_not, we_and1, we_and2, we_or1, we_or2, we_ife, we_tup, we_lst, we_ix, we_sl, wo_none, wo_some, we_blt, we_call, we_meth, we_rev, we_srt, we_lrg1, we_lrg2, we_trg1, ws_nil, ws_cons, wt_tr, wt_cmp, wt_chain, wt_not, wt_and1, wt_and2, wt_or1, wt_or2, wts_nil, wts_one, wr_bl, wr_non, wr_int, wr_tup, wn_add, wn_sub, wn_mul, wn_div, wn_mod, wn_pow, wn_neg, wn_cat, wn_tmul, wn_lmul, wn_ladd, wc_lt, wc_le, wc_gt, wc_ge, wc_eq, wc_ne, wc_isnon, wc_isnt, wx_tup, wx_loc, wl_tup, wl_loc, wv_tup, wb_len_tup, wb_len_loc, wb_int, wb_list, wb_tuple, wb_sum, wb_min, wb_max, wi_int_int, wi_int_bool, wi_int_tup, wi_tup_tup, wi_tup_int, wm_append, wm_extend, wm_popAt, wm_count, wss_nil, wss_one, seqK_rt, seqK_bk, seqK_ct, wq_expr, wq_ret, wq_retN, wq_pass, wq_brk, wq_cont, wq_set, wq_setc, wq_par, wq_setIx, ws_setIx, wq_ife, wq_for, wq_whil, wq_never, outK_rt, outK_nx, wv_rng1, wv_rng2, wv_seq, wv_seq_tup, wv_seq_loc, wv_zip, wv_zip_tup, we_comp, wp_ok, wp_bad, wp_br, wp_bind, items_tup, tgF, setAll, startE_eq, nones, List.getElem?_cons_zero, List.getElem?_cons_succ, List.set_cons_zero, List.set_cons_succ, List.map_cons, List.map_nil, List.cons_append, List.nil_append, List.length_cons, List.length_nil, Nat.reduceAdd, Nat.reduceSub, Nat.reduceMul, Nat.reduceLT, Nat.reduceLeDiff, Nat.reduceEqDiff, Option.some.injEq, D.int.injEq, D.tup.injEq, D.loc.injEq, D.bl.injEq, exists_eq_left, exists_eq_left', exists_eq_right, true_and, and_true, if_true, if_false, ite_true, ite_false, reduceIte, Bool.false_eq_true, decide_eq_true_eq, eq_self, exists_const, Bool.not_true, Bool.not_false, Bool.not_eq_true', Bool.and_true, Bool.true_and, Bool.and_false, Bool.false_and, ne_eq, not_true_eq_false, not_false_eq_true, reduceCtorEq, Int.cast_ofNat_Int, Bool.not_eq_true, Bool.true_eq_false]
    refine (draw_ok P7 (by omega) (by omega)).mono fun d h8 ⟨r4, ed, hr4, P8, k8⟩ => ?_
    subst ed
    simp only [we_int, we_str, we_bl, we_non, we_ty, we_cst, we_var, we_bin, we_cmp, we_chain, we_neg, we_not, we_and1, we_and2, we_or1, we_or2, we_ife, we_tup, we_lst, we_ix, we_sl, wo_none, wo_some, we_blt, we_call, we_meth, we_rev, we_srt, we_lrg1, we_lrg2, we_trg1, ws_nil, ws_cons, wt_tr, wt_cmp, wt_chain, wt_not, wt_and1, wt_and2, wt_or1, wt_or2, wts_nil, wts_one, wr_bl, wr_non, wr_int, wr_tup, wn_add, wn_sub, wn_mul, wn_div, wn_mod, wn_pow, wn_neg, wn_cat, wn_tmul, wn_lmul, wn_ladd, wc_lt, wc_le, wc_gt, wc_ge, wc_eq, wc_ne, wc_isnon, wc_isnt, wx_tup, wx_loc, wl_tup, wl_loc, wv_tup, wb_len_tup, wb_len_loc, wb_int, wb_list, wb_tuple, wb_sum, wb_min, wb_max, wi_int_int, wi_int_bool, wi_int_tup, wi_tup_tup, wi_tup_int, wm_append, wm_extend, wm_popAt, wm_count, wss_nil, wss_one, seqK_rt, seqK_bk, seqK_ct, wq_expr, wq_ret, wq_retN, wq_pass, wq_brk, wq_cont, wq_set, wq_setc, wq_par, wq_setIx, ws_setIx, wq_ife, wq_for, wq_whil, wq_never, outK_rt, outK_nx, wv_rng1, wv_rng2, wv_seq, wv_seq_tup, wv_seq_loc, wv_zip, wv_zip_tup, we_comp, wp_ok, wp_bad, wp_br, wp_bind, items_tup, tgF, setAll, startE_eq, nones, List.getElem?_cons_zero, List.getElem?_cons_succ, List.set_cons_zero, List.set_cons_succ, List.map_cons, List.map_nil, List.cons_append, List.nil_append, List.length_cons, List.length_nil, Nat.reduceAdd, Nat.reduceSub, Nat.reduceMul, Nat.reduceLT, Nat.reduceLeDiff, Nat.reduceEqDiff, Option.some.injEq, D.int.injEq, D.tup.injEq, D.loc.injEq, D.bl.injEq, exists_eq_left, exists_eq_left', exists_eq_right, true_and, and_true, if_true, if_false, ite_true, ite_false, reduceIte, Bool.false_eq_true, decide_eq_true_eq, eq_self, exists_const, Bool.not_true, Bool.not_false, Bool.not_eq_true', Bool.and_true, Bool.true_and, Bool.and_false, Bool.false_and, ne_eq, not_true_eq_false, not_false_eq_true, reduceCtorEq, Int.cast_ofNat_Int, Bool.not_eq_true, Bool.true_eq_false]
    refine (lengths_ok P8 (by omega) (by omega) (by omega)).mono fun d h9 ⟨ms, ed, ml, mr, P9, k9⟩ => ?_
    subst ed
    rw [seqK_nx, wss_cons]
    refine Wp.mono (Q := fun o h' => ∃ ms : List Int, o = .nx [some (.loc 0), some (.loc a), some (.int p), some (.loc l3), some (gD p q xs), some (ti ms), none, none, none, none, none, none, none, none, none, none, none] ∧ ms.length = xs.length ∧ (∀ m ∈ ms, 0 ≤ m ∧ m ≤ 1024) ∧ ms.sum ≤ q ∧ Pool h' a c) ?_ fun o h10 ⟨ms, eo, ml, mr, msum, P10⟩ => ?_
    · simp only [we_int, we_str, we_bl, we_non, we_ty, we_cst, we_var, we_bin, we_cmp, we_chain, we_neg, we_not, we_and1, we_and2, we_or1, we_or2, we_ife, we_tup, we_lst, we_ix, we_sl, wo_none, wo_some, we_blt, we_call, we_meth, we_rev, we_srt, we_lrg1, we_lrg2, we_trg1, ws_nil, ws_cons, wt_tr, wt_cmp, wt_chain, wt_not, wt_and1, wt_and2, wt_or1, wt_or2, wts_nil, wts_one, wr_bl, wr_non, wr_int, wr_tup, wn_add, wn_sub, wn_mul, wn_div, wn_mod, wn_pow, wn_neg, wn_cat, wn_tmul, wn_lmul, wn_ladd, wc_lt, wc_le, wc_gt, wc_ge, wc_eq, wc_ne, wc_isnon, wc_isnt, wx_tup, wx_loc, wl_tup, wl_loc, wv_tup, wb_len_tup, wb_len_loc, wb_int, wb_list, wb_tuple, wb_sum, wb_min, wb_max, wi_int_int, wi_int_bool, wi_int_tup, wi_tup_tup, wi_tup_int, wm_append, wm_extend, wm_popAt, wm_count, wss_nil, wss_one, seqK_rt, seqK_bk, seqK_ct, wq_expr, wq_ret, wq_retN, wq_pass, wq_brk, wq_cont, wq_set, wq_setc, wq_par, wq_setIx, ws_setIx, wq_ife, wq_for, wq_whil, wq_never, outK_rt, outK_nx, wv_rng1, wv_rng2, wv_seq, wv_seq_tup, wv_seq_loc, wv_zip, wv_zip_tup, we_comp, wp_ok, wp_bad, wp_br, wp_bind, items_tup, tgF, setAll, startE_eq, nones, List.getElem?_cons_zero, List.getElem?_cons_succ, List.set_cons_zero, List.set_cons_succ, List.map_cons, List.map_nil, List.cons_append, List.nil_append, List.length_cons, List.length_nil, Nat.reduceAdd, Nat.reduceSub, Nat.reduceMul, Nat.reduceLT, Nat.reduceLeDiff, Nat.reduceEqDiff, Option.some.injEq, D.int.injEq, D.tup.injEq, D.loc.injEq, D.bl.injEq, exists_eq_left, exists_eq_left', exists_eq_right, true_and, and_true, if_true, if_false, ite_true, ite_false, reduceIte, Bool.false_eq_true, decide_eq_true_eq, eq_self, exists_const, Bool.not_true, Bool.not_false, Bool.not_eq_true', Bool.and_true, Bool.true_and, Bool.and_false, Bool.false_and, ne_eq, not_true_eq_false, not_false_eq_true, reduceCtorEq, Int.cast_ofNat_Int, Bool.not_eq_true, Bool.true_eq_false, gD_1]
      simp only [map_int_inj, we_int, we_str, we_bl, we_non, we_ty, we_cst, we_var, we_bin, we_cmp, we_chain, we_neg, we_not, we_and1, we_and2, we_or1, we_or2, we_ife, we_tup, we_lst, we_ix, we_sl, wo_none, wo_some, we_blt, we_call, we_meth, we_rev, we_srt, we_lrg1, we_lrg2, we_trg1, ws_nil, ws_cons, wt_tr, wt_cmp, wt_chain, wt_not, wt_and1, wt_and2, wt_or1, wt_or2, wts_nil, wts_one, wr_bl, wr_non, wr_int, wr_tup, wn_add, wn_sub, wn_mul, wn_div, wn_mod, wn_pow, wn_neg, wn_cat, wn_tmul, wn_lmul, wn_ladd, wc_lt, wc_le, wc_gt, wc_ge, wc_eq, wc_ne, wc_isnon, wc_isnt, wx_tup, wx_loc, wl_tup, wl_loc, wv_tup, wb_len_tup, wb_len_loc, wb_int, wb_list, wb_tuple, wb_sum, wb_min, wb_max, wi_int_int, wi_int_bool, wi_int_tup, wi_tup_tup, wi_tup_int, wm_append, wm_extend, wm_popAt, wm_count, wss_nil, wss_one, seqK_rt, seqK_bk, seqK_ct, wq_expr, wq_ret, wq_retN, wq_pass, wq_brk, wq_cont, wq_set, wq_setc, wq_par, wq_setIx, ws_setIx, wq_ife, wq_for, wq_whil, wq_never, outK_rt, outK_nx, wv_rng1, wv_rng2, wv_seq, wv_seq_tup, wv_seq_loc, wv_zip, wv_zip_tup, we_comp, wp_ok, wp_bad, wp_br, wp_bind, items_tup, tgF, setAll, startE_eq, nones, List.getElem?_cons_zero, List.getElem?_cons_succ, List.set_cons_zero, List.set_cons_succ, List.map_cons, List.map_nil, List.cons_append, List.nil_append, List.length_cons, List.length_nil, Nat.reduceAdd, Nat.reduceSub, Nat.reduceMul, Nat.reduceLT, Nat.reduceLeDiff, Nat.reduceEqDiff, Option.some.injEq, D.int.injEq, D.tup.injEq, D.loc.injEq, D.bl.injEq, exists_eq_left, exists_eq_left', exists_eq_right, true_and, and_true, if_true, if_false, ite_true, ite_false, reduceIte, Bool.false_eq_true, decide_eq_true_eq, eq_self, exists_const, Bool.not_true, Bool.not_false, Bool.not_eq_true', Bool.and_true, Bool.true_and, Bool.and_false, Bool.false_and, ne_eq, not_true_eq_false, not_false_eq_true, reduceCtorEq, Int.cast_ofNat_Int, Bool.not_eq_true, Bool.true_eq_false]
      split
      · refine (draw_ok P9 (by omega) (by omega)).mono fun d h10 ⟨r5, ed, hr5, P10, k10⟩ => ?_
        subst ed
        simp only [we_int, we_str, we_bl, we_non, we_ty, we_cst, we_var, we_bin, we_cmp, we_chain, we_neg, we_not, we_and1, we_and2, we_or1, we_or2, we_ife, we_tup, we_lst, we_ix, we_sl, wo_none, wo_some, we_blt, we_call, we_meth, we_rev, we_srt, we_lrg1, we_lrg2, we_trg1, ws_nil, ws_cons, wt_tr, wt_cmp, wt_chain, wt_not, wt_and1, wt_and2, wt_or1, wt_or2, wts_nil, wts_one, wr_bl, wr_non, wr_int, wr_tup, wn_add, wn_sub, wn_mul, wn_div, wn_mod, wn_pow, wn_neg, wn_cat, wn_tmul, wn_lmul, wn_ladd, wc_lt, wc_le, wc_gt, wc_ge, wc_eq, wc_ne, wc_isnon, wc_isnt, wx_tup, wx_loc, wl_tup, wl_loc, wv_tup, wb_len_tup, wb_len_loc, wb_int, wb_list, wb_tuple, wb_sum, wb_min, wb_max, wi_int_int, wi_int_bool, wi_int_tup, wi_tup_tup, wi_tup_int, wm_append, wm_extend, wm_popAt, wm_count, wss_nil, wss_one, seqK_rt, seqK_bk, seqK_ct, wq_expr, wq_ret, wq_retN, wq_pass, wq_brk, wq_cont, wq_set, wq_setc, wq_par, wq_setIx, ws_setIx, wq_ife, wq_for, wq_whil, wq_never, outK_rt, outK_nx, wv_rng1, wv_rng2, wv_seq, wv_seq_tup, wv_seq_loc, wv_zip, wv_zip_tup, we_comp, wp_ok, wp_bad, wp_br, wp_bind, items_tup, tgF, setAll, startE_eq, nones, List.getElem?_cons_zero, List.getElem?_cons_succ, List.set_cons_zero, List.set_cons_succ, List.map_cons, List.map_nil, List.cons_append, List.nil_append, List.length_cons, List.length_nil, Nat.reduceAdd, Nat.reduceSub, Nat.reduceMul, Nat.reduceLT, Nat.reduceLeDiff, Nat.reduceEqDiff, Option.some.injEq, D.int.injEq, D.tup.injEq, D.loc.injEq, D.bl.injEq, exists_eq_left, exists_eq_left', exists_eq_right, true_and, and_true, if_true, if_false, ite_true, ite_false, reduceIte, Bool.false_eq_true, decide_eq_true_eq, eq_self, exists_const, Bool.not_true, Bool.not_false, Bool.not_eq_true', Bool.and_true, Bool.true_and, Bool.and_false, Bool.false_and, ne_eq, not_true_eq_false, not_false_eq_true, reduceCtorEq, Int.cast_ofNat_Int, Bool.not_eq_true, Bool.true_eq_false, List.length_map]
        have fl : (List.replicate ((ms.length : Int) - 1).toNat [D.int 0]).flatten = (List.replicate (ms.length - 1) (0 : Int)).map D.int := by
          rw [show ((ms.length : Int) - 1).toNat = ms.length - 1 by omega, List.map_replicate]
          generalize ms.length - 1 = n
          induction n with
          | zero => rfl
          | succ n ih => rw [List.replicate_succ, List.flatten_cons, ih]; rfl
        rw [fl]
        refine ⟨by rw [sizeLine_eq]; omega, by rw [sizeLine_eq]; omega, ⟨by omega, by omega⟩, by rw [List.length_map, List.length_replicate, sizeLine_eq]; omega, r5 :: List.replicate (ms.length - 1) 0, rfl, by rw [List.length_cons, List.length_replicate]; omega, fun m hm => ?_, ?_, P10⟩
        · rcases List.mem_cons.mp hm with e | e
          · omega
          · rw [List.eq_of_mem_replicate e]; omega
        · rw [List.sum_cons]
          have : (List.replicate (ms.length - 1) (0 : Int)).sum = 0 := by
            generalize ms.length - 1 = n
            induction n with
            | zero => rfl
            | succ n ih => rw [List.replicate_succ, List.sum_cons, ih]; rfl
          omega
      · exact ⟨ms, rfl, ml, fun m hm => by have := mr m hm; omega, by omega, P9⟩
    subst eo
    rw [seqK_nx, wss_cons]
    simp only [we_int, we_str, we_bl, we_non, we_ty, we_cst, we_var, we_bin, we_cmp, we_chain, we_neg, we_not, we_and1, we_and2, we_or1, we_or2, we_ife, we_tup, we_lst, we_ix, we_sl, wo_none, wo_some, we_blt, we_call, we_meth, we_rev, we_srt, we_lrg1, we_lrg2, we_trg1, ws_nil, ws_cons, wt_tr, wt_cmp, wt_chain, wt_not, wt_and1, wt_and2, wt_or1, wt_or2, wts_nil, wts_one, wr_bl, wr_non, wr_int, wr_tup, wn_add, wn_sub, wn_mul, wn_div, wn_mod, wn_pow, wn_neg, wn_cat, wn_tmul, wn_lmul, wn_ladd, wc_lt, wc_le, wc_gt, wc_ge, wc_eq, wc_ne, wc_isnon, wc_isnt, wx_tup, wx_loc, wl_tup, wl_loc, wv_tup, wb_len_tup, wb_len_loc, wb_int, wb_list, wb_tuple, wb_sum, wb_min, wb_max, wi_int_int, wi_int_bool, wi_int_tup, wi_tup_tup, wi_tup_int, wm_append, wm_extend, wm_popAt, wm_count, wss_nil, wss_one, seqK_rt, seqK_bk, seqK_ct, wq_expr, wq_ret, wq_retN, wq_pass, wq_brk, wq_cont, wq_set, wq_setc, wq_par, wq_setIx, ws_setIx, wq_ife, wq_for, wq_whil, wq_never, outK_rt, outK_nx, wv_rng1, wv_rng2, wv_seq, wv_seq_tup, wv_seq_loc, wv_zip, wv_zip_tup, we_comp, wp_ok, wp_bad, wp_br, wp_bind, items_tup, tgF, setAll, startE_eq, nones, List.getElem?_cons_zero, List.getElem?_cons_succ, List.set_cons_zero, List.set_cons_succ, List.map_cons, List.map_nil, List.cons_append, List.nil_append, List.length_cons, List.length_nil, Nat.reduceAdd, Nat.reduceSub, Nat.reduceMul, Nat.reduceLT, Nat.reduceLeDiff, Nat.reduceEqDiff, Option.some.injEq, D.int.injEq, D.tup.injEq, D.loc.injEq, D.bl.injEq, exists_eq_left, exists_eq_left', exists_eq_right, true_and, and_true, if_true, if_false, ite_true, ite_false, reduceIte, Bool.false_eq_true, decide_eq_true_eq, eq_self, exists_const, Bool.not_true, Bool.not_false, Bool.not_eq_true', Bool.and_true, Bool.true_and, Bool.and_false, Bool.false_and, ne_eq, not_true_eq_false, not_false_eq_true, reduceCtorEq, Int.cast_ofNat_Int, Bool.not_eq_true, Bool.true_eq_false]
    refine (batch_ok P10 (by omega) (by omega) (by omega) (by omega)).mono fun d h11 ⟨b, ed, bl, br, P11, k11⟩ => ?_
    subst ed
    rw [seqK_nx]
    have L : Ls p q xs ms := ⟨G, ml, mr⟩
    exact rest_ok (s := 0) (a := a) (l3 := l3) L (by omega) (by omega) msum bl br (plain p q xs ms b L (by omega) (by omega) msum bl br)
  obtain ⟨d, h', e, ed⟩ := key.ok
  subst ed
  exact ⟨h', e⟩
end K53

/-! K53M: the plain law of k53, and the law. -/
namespace K53
open PySem L2 Dx
theorem prodS_ok {p : Int} (hp : 1 < p) : ∀ {ss : List Int}, Ok p (prodS p ss) := by
  intro ss
  have : ∀ (ss acc : List Int), Ok p acc → Ok p (ss.foldl (fun acc x => timesL p acc (lineL p x)) acc) := by
    intro ss
    induction ss with
    | nil => intro acc h; exact h
    | cons x ss ih =>
      intro acc h
      refine ih _ fun y hy => ?_
      unfold timesL at hy
      obtain ⟨c, _, e⟩ := List.mem_map.mp hy
      rw [← e]
      exact ⟨Int.emod_nonneg _ (by omega), Int.emod_lt_of_pos _ (by omega)⟩
  exact this ss [1] fun y hy => by rw [List.mem_singleton.mp hy]; omega
theorem cf_ok {p : Int} (p0 : 0 < p) {f : List Int} (h : Ok p f) (c : Nat) : 0 ≤ cf f c ∧ cf f c < p := by
  unfold cf
  rw [List.getD_eq_getElem?_getD]
  cases e : f[c]? with
  | none => exact ⟨Int.le_refl _, p0⟩
  | some y => exact h y (List.mem_of_getElem? e)
theorem cast_pow {p : Int} (p0 : 0 ≤ p) {d : Nat} : ((p.toNat ^ d : Nat) : Int) = p ^ d := by rw [Int.natCast_pow, Int.toNat_of_nonneg p0]
theorem early_lt {p q : Int} {xs ms : List Int} : (earlyL p q xs ms).Pairwise (· < ·) := by
  have r : ∀ n, ((List.range n).map fun i => ((i : Nat) : Int)).Pairwise (· < ·) := fun n => List.pairwise_map.mpr (List.pairwise_lt_range.imp fun {a b} h => by omega)
  unfold earlyL
  split
  · exact r _
  · refine List.pairwise_map.mpr ?_
    exact (List.Pairwise.filter _ List.pairwise_lt_range).imp fun {a b} h => by omega
theorem plain_ok {p q : Int} {xs ms b : List Int} (L : Ls p q xs ms) (hs : ms.sum ≤ q) (hb : (b.length : Int) = q) (hr : ∀ n ∈ b, 0 ≤ n ∧ n < p) : Plain p q xs ms b := by
  have p2 := L.g.prime.1
  have p0 : 0 < p := by omega
  have hp := euc L.g.prime
  have m0 : ∀ m ∈ ms, 0 ≤ m := fun m hm => (L.at_ m hm).1
  have sl := steps_len L.len m0
  have q1 := L.g.q1
  have hfree : freeI q ms = q - ms.sum := by unfold freeI; split <;> omega
  have hd : (freeI q ms).toNat = q.toNat - (stepsL xs ms).length := by omega
  obtain ⟨rs, gb, A, eb, kgb, lgb⟩ := alike_ex (n := q.toNat) hp L.g.xd L.g.xr L.len (by omega) (by omega) hr
  have bcf : ∀ i, b.getD i 0 = cf b i := fun i => rfl
  have vals := fun i => alike_vals p0 A i
  rw [← hd] at vals
  have low : ∀ i : Nat, (i : Int) < q → (i : Int) ∈ earlyL p q xs ms → ∀ j, j < (freeI q ms).toNat → j ≤ i → Cg p (MS p (stepsL xs ms) dl (i - j)) 0 := fun i hi he j hj hji => by
    unfold earlyL at he
    rw [if_neg (by omega)] at he
    obtain ⟨i', hi', e⟩ := List.mem_map.mp he
    have : i' = i := by omega
    subst this
    have qt := (List.mem_filter.mp hi').2
    unfold quiet at qt
    refine (prod_cf (p := p) (ss := stepsL xs ms) (i' - j)).symm.trans (Cg.of_eq ?_)
    by_cases hl : i' - j < (prodS p (stepsL xs ms)).length
    · have z := List.all_eq_true.mp qt (i' - j) (List.mem_range.mpr hl)
      have c1 : (decide ((i' : Int) - freeI q ms + 1 ≤ ((i' - j : Nat) : Int)) && decide (((i' - j : Nat) : Int) ≤ i')) = true := by
        rw [Bool.and_eq_true]
        exact ⟨decide_eq_true (by omega), decide_eq_true (by omega)⟩
      rw [c1, Bool.not_true, Bool.false_or] at z
      exact of_decide_eq_true z
    · exact cf_out (by omega)
  have high : ∀ i : Nat, (i : Int) < q → (i : Int) ∉ earlyL p q xs ms → ∃ j, j < (freeI q ms).toNat ∧ j ≤ i ∧ ¬ Cg p (MS p (stepsL xs ms) dl (i - j)) 0 := fun i hi he => by
    unfold earlyL at he
    have fn : freeI q ms ≠ 0 := fun z => by
      rw [if_pos z] at he
      exact he (List.mem_map.mpr ⟨i, List.mem_range.mpr (by omega), rfl⟩)
    rw [if_neg fn] at he
    have qf : ¬ quiet (prodS p (stepsL xs ms)) (freeI q ms) i = true := fun z => he (List.mem_map.mpr ⟨i, List.mem_filter.mpr ⟨List.mem_range.mpr (by omega), z⟩, rfl⟩)
    unfold quiet at qf
    rw [List.all_eq_true] at qf
    obtain ⟨a, ha⟩ := Classical.not_forall.mp qf
    obtain ⟨ha1, ha2⟩ := Classical.not_imp.mp ha
    have hal := List.mem_range.mp ha1
    rw [Bool.or_eq_true, not_or] at ha2
    have c1 : (decide ((i : Int) - freeI q ms + 1 ≤ (a : Int)) && decide ((a : Int) ≤ i)) = true := by
      cases w : (decide ((i : Int) - freeI q ms + 1 ≤ (a : Int)) && decide ((a : Int) ≤ i)) with
      | true => rfl
      | false => rw [w] at ha2; exact absurd rfl ha2.1
    rw [Bool.and_eq_true] at c1
    have d1 := of_decide_eq_true c1.1
    have d2 := of_decide_eq_true c1.2
    have nz : (prodS p (stepsL xs ms)).getD a 0 ≠ 0 := fun z => ha2.2 (decide_eq_true z)
    refine ⟨i - a, by omega, by omega, fun c => nz ?_⟩
    rw [show i - (i - a) = a by omega] at c
    have r := cf_ok p0 (prodS_ok (p := p) (by omega) (ss := stepsL xs ms)) a
    exact ((prod_cf (p := p) (ss := stepsL xs ms) a).trans c).small r.1 r.2 (Int.le_refl _) p0
  refine ⟨?_, fun i hi he => ?_, fun i hi he y hy => ?_, ?_⟩
  · unfold alikeL
    rw [A.perm.length_eq, List.length_map, allT_len, ← hd, cast_pow (by omega)]
  · have lo := low i hi he
    unfold alikeL
    rw [(vals i).count_eq, ← cast_pow (by omega)]
    refine congrArg _ (all_same lo ?_)
    have c := cf_cmbs (p := p) (g := gb) A.rl i
    rw [MS_phi, lgb, ← hd, ← eb] at c
    have pz := Phi_zero (p := p) (L := MS p (stepsL xs ms) dl) (g := gb) (c := i) fun j hj hc => lo j (by omega) hc
    have c2 := (c.trans (Cg.refl.add pz)).trans (Cg.of_eq (Int.add_zero _))
    have r := cf_ok p0 hr i
    rw [bcf, ← c2.mod_eq, Int.emod_eq_of_lt r.1 r.2]
  · obtain ⟨j, hj, hji, hc⟩ := high i hi he
    unfold alikeL
    rw [(vals i).count_eq, balanced hp (rgI_mem.mp hy) ⟨j, hj, hji, hc⟩, cast_pow (by omega)]
    obtain ⟨e, he⟩ : ∃ e, (freeI q ms).toNat = e + 1 := ⟨(freeI q ms).toNat - 1, by omega⟩
    rw [he, Nat.add_sub_cancel, Int.pow_succ, Int.mul_ediv_cancel _ (by omega)]
  · exact lt_uniq srtD_lt early_lt fun k => srtD_mem
theorem law_true : ∀ ns : List Int, ns.length ≤ 63 → ∃ h', callF fs 12 1340 [.loc 0] [.ro (ns.map D.int)] = .ok (.bl true) h' :=
  fun ns hl => law_walk (fun p q xs ms b L _ _ hs hb hr => plain_ok L hs hb hr) ns hl
end K53

/-! k53: the end (printed by gen.py). -/
open PySem PySem.W PyProof.Rows
set_option maxHeartbeats 0 in
theorem PySem.Challenge.cw_lastsecret_k53_whole_known_early_holds : PySem.Challenge.rw_lastsecret_k53_whole_known_early.Holds := by
  w_on; o_law; k_head; (case hw => w_witness2)
  k_fill
  refine L2.walk_of (l := PySem.Challenge.rw_lastsecret_k53_whole_known_early) (n := 63) (k := 12) (x := "script") (CX := fun w => L2.CX (PySem.Challenge.rw_lastsecret_k53_whole_known_early).prog w) (sp := fun w => Dx.spF _ (fun _ => .none) (Dx.callF K53.fs 12 1340) 1) rfl (by decide) rfl ⟨rfl, by decide, by decide⟩ (fun w h Y => PySem.W.kIn_of Y) ?F (fun _ _ a ns hl _ hS => Dx.law_entry K53.law_true hl hS) (fun _ _ _ _ _ h => Dx.cx_false h)
  case F =>
    intro w mg fa h KX Gn hmg
    refine' K53.all_mk KX Gn hmg ?a0 ?l0 ?c0 ?k0 ?a1 ?l1 ?c1 ?k1 ?a2 ?l2 ?c2 ?k2 ?a3 ?l3 ?c3 ?k3 ?a4 ?l4 ?c4 ?k4 ?a5 ?l5 ?c5 ?k5 ?a6 ?l6 ?c6 ?k6 ?a7 ?l7 ?c7 ?k7 ?a8 ?l8 ?c8 ?k8 ?a9 ?l9 ?c9 ?k9 ?a10 ?l10 ?c10 ?k10 ?a11 ?l11 ?c11 ?k11 ?a12 ?l12 ?c12 ?k12 ?a13 ?l13 ?c13 ?k13 ?a14 ?l14 ?c14 ?k14 ?a15 ?l15 ?c15 ?k15 ?a16 ?l16 ?c16 ?k16 ?a17 ?l17 ?c17 ?k17 ?a18 ?l18 ?c18 ?k18 ?a19 ?l19 ?c19 ?k19 ?z0 ?z1 ?z2 ?z3 ?z4 ?z5 ?z6 ?z7 ?z8 ?z9 ?z10 ?z11 ?z12 ?y0 ?y1 ?y2 ?y3 ?y4
    (case a0 => k_is); (case l0 => k_is); (case c0 => k_is); (case k0 => k_is); (case a1 => k_is); (case l1 => k_is); (case c1 => k_is); (case k1 => k_is); (case a2 => k_is); (case l2 => k_is); (case c2 => k_is); (case k2 => k_is); (case a3 => k_is); (case l3 => k_is); (case c3 => k_is); (case k3 => k_is); (case a4 => k_is); (case l4 => k_is); (case c4 => k_is); (case k4 => k_is); (case a5 => k_is); (case l5 => k_is); (case c5 => k_is); (case k5 => k_is); (case a6 => k_is); (case l6 => k_is); (case c6 => k_is); (case k6 => k_is); (case a7 => k_is); (case l7 => k_is); (case c7 => k_is); (case k7 => k_is); (case a8 => k_is); (case l8 => k_is); (case c8 => k_is); (case k8 => k_is); (case a9 => k_is); (case l9 => k_is); (case c9 => k_is); (case k9 => k_is); (case a10 => k_is); (case l10 => k_is); (case c10 => k_is); (case k10 => k_is); (case a11 => k_is); (case l11 => k_is); (case c11 => k_is); (case k11 => k_is); (case a12 => k_is); (case l12 => k_is); (case c12 => k_is); (case k12 => k_is); (case a13 => k_is); (case l13 => k_is); (case c13 => k_is); (case k13 => k_is); (case a14 => k_is); (case l14 => k_is); (case c14 => k_is); (case k14 => k_is); (case a15 => k_is); (case l15 => k_is); (case c15 => k_is); (case k15 => k_is); (case a16 => k_is); (case l16 => k_is); (case c16 => k_is); (case k16 => k_is); (case a17 => k_is); (case l17 => k_is); (case c17 => k_is); (case k17 => k_is); (case a18 => k_is); (case l18 => k_is); (case c18 => k_is); (case k18 => k_is); (case a19 => k_is); (case l19 => k_is); (case c19 => k_is); (case k19 => k_is); (case z0 => k_is); (case z1 => k_is); (case z2 => k_is); (case z3 => k_is); (case z4 => k_is); (case z5 => k_is); (case z6 => k_is); (case z7 => k_is); (case z8 => k_is); (case z9 => k_is); (case z10 => k_is); (case z11 => k_is); (case z12 => k_is); (case y0 => k_is); (case y1 => k_is); (case y2 => k_is); (case y3 => k_is); (case y4 => k_is)
